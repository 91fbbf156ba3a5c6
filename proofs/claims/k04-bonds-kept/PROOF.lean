import PyProof.Rows.All
import Wide.All
import OpenK.AllK
import Wide.FinOn
import HandS.ForMost
import HandS.ForExc
import HandS.Walk
import HandS.Slots
import HandS.Lambda
import HandS.CallSlots
import HandS.TupAny
import HandS.TupMul
import HandS.Wide
import HandS.Style
import HandS.IsInst
import HandS.TryMany
import HandS.Zip
import KE.GoesMore
import KE.GoesEnum
import HandS.SlotsOwn
import HandS.EndBits
import HandS.Conv
import HandS.EndTab
import KE.KExcSuper
import HandS.ExcInit
import HandS.ExcValue
import HandS.ExcIs
import HandS.ExcField
import KE.KExcInit
import PyProof.Rows.RegStrFacts
import PySem.Challenge.RW_bondwords_k04_whole_bonds_kept
set_option Elab.async false
set_option linter.all false
set_option maxRecDepth 100000
set_option maxHeartbeats 4000000
namespace BW
open PySem PySem.Spec PyProof.Rows L2

/-! ### plain values and plain objects -/
inductive D where
  | non | bl (b : Bool) | int (i : Int) | str (x : Str)
  | tup (xs : List D)
  | tl (xs : List D)
  | rl (xs : List D)
  | ref (n : Nat)
  | exc (c : Str) (xs : List D)
  | kt (xs : List Int)
inductive AO where
  | lst (xs : List D)
  | dk (kvs : List (Key × D))
  | dt (kvs : List (List Key × D))
  | ins (c : Str) (fs : List (Str × D))
  | sins (c : Str) (vs : List (Option D))
abbrev AH := List AO
abbrev Env := List (Option D)

/-- the field that an exception of this class has -/
def fieldOf (c : Str) : Option Str :=
  if c = "BadBonds" ∨ c = "BadWord" ∨ c = "BadDeed" ∨ c = "BadText" then some "place"
  else if c = "BadRow" ∨ c = "BadNumber" ∨ c = "BadChoice" then some "value"
  else if c = "TooGreat" then some "most" else none

/-- an exception's own object -/
def XO (a C : Addr) (d : Option Addr) : HO := .ext fun h => ∃ o vs, h.get? a = some o ∧ o.cls = .ref C ∧ o.dict = d ∧ o.data = .fields vs

section
variable (K : PySem.W.Frag) (mg : Str → Option Value)
/-- a tuple that the list of addresses does not bear -/
def SqTr (_ : PySem.W.Frag) (H : Hp) (rho : List Addr) (a : Addr) (vs : List V) : Prop :=
  a ∉ rho ∧ H a = some (.tup vs)
/-- a list that stands still: the script -/
def SqLr (H : Hp) (rho : List Addr) (a : Addr) (vs : List V) : Prop := (a ∉ rho ∧ ∃ o, H a = some (.frz o (.lst vs))) ∨ ∀ H', SqL K H' a vs
mutual
inductive Rel (rho : List Addr) (H : Hp) : V → D → Prop
  | non : Rel rho H .non .non
  | bl (b : Bool) : Rel rho H (.bl b) (.bl b)
  | int (i : Int) : Rel rho H (.int i) (.int i)
  | str (x : Str) : Rel rho H (.str x) (.str x)
  | tup {a : Addr} {vs : List V} {xs : List D} : SqTr K H rho a vs → Rels rho H vs xs → Rel rho H (.ref a) (.tup xs)
  | rl {a : Addr} {vs : List V} {xs : List D} : SqLr K H rho a vs → Rels rho H vs xs → Rel rho H (.ref a) (.rl xs)
  | ref {n : Nat} {a : Addr} : rho[n]? = some a → Rel rho H (.ref a) (.ref n)
  | exc0 {c : Str} {a C : Addr} : mg c = some (.ref C) → a ∉ rho → H a = some (XO a C none) → Rel rho H (.ref a) (.exc c [])
  | exc1 {c f : Str} {a C dx : Addr} {v : V} {x : D} : mg c = some (.ref C) → fieldOf c = some f → a ∉ rho → dx ∉ rho → H a = some (XO a C (some dx)) →
      H dx = some (.xd [(f, v)]) → Rel rho H v x → Rel rho H (.ref a) (.exc c [x])
  | kt {a : Addr} {xs : List Int} : (∀ H', SqT K H' a (xs.map V.int)) → Rel rho H (.ref a) (.kt xs)
inductive Rels (rho : List Addr) (H : Hp) : List V → List D → Prop
  | nil : Rels rho H [] []
  | cons {v : V} {vs : List V} {x : D} {xs : List D} : Rel rho H v x → Rels rho H vs xs → Rels rho H (v :: vs) (x :: xs)
end
end

def NoOwn (o : HO) : Prop := (∀ y, o ≠ .own y) ∧ ∀ ps, o ≠ .tbl ps
theorem XO_no {a C : Addr} {d : Option Addr} : NoOwn (XO a C d) := ⟨fun y z => (by unfold XO at z; cases z), fun y z => (by unfold XO at z; cases z)⟩
theorem NoOwn.of {o : HO} (h1 : ∀ y, o ≠ .own y := by intro _ z; cases z) (h2 : ∀ y, o ≠ .tbl y := by intro _ z; cases z) : NoOwn o := ⟨h1, h2⟩
/-- the tables of code objects: where they lie, and the name of what is made by them -/
class Tb where
  T : List (Addr × Str)
instance (priority := low) tb0 : Tb := ⟨[]⟩
structure TbOk [Tb] (r : List Addr) (H : Hp) : Prop where
  tab : ∀ p ∈ Tb.T, ∃ ps : Array Value, H p.1 = some (.tbl ps) ∧ p.1 ∉ r ∧ TriplesOk ps.toList ∧ ∀ (pos : Pos) (cv : Value), codeAmong pos ps.toList = some cv → ∃ c, cv = .ref c ∧ c ∉ r ∧ H c = some (LamX.CodeO c p.2)
/-- nothing but a table, perhaps -/
def Fr (H : Hp) (a : Addr) : Prop := ∀ o, H a = some o → ∃ ps, o = .tbl ps
theorem Fr.of {H : Hp} {a : Addr} (h : H a = none) : Fr H a := fun o e => by rw [h] at e; cases e
theorem Fr.no {H : Hp} {a : Addr} {o : HO} (f : Fr H a) (e : H a = some o) (ho : NoOwn o) : False := by
  obtain ⟨ps, z⟩ := f o e
  exact ho.2 ps z
structure Step (rho : List Addr) (H : Hp) (rho' : List Addr) (H' : Hp) : Prop where
  pre : rho <+: rho'
  new : ∀ a, a ∈ rho' → a ∉ rho → Fr H a
  keep : ∀ b o, H b = some o → b ∉ rho → NoOwn o → H' b = some o
  stay : ∀ b, Fr H' b → Fr H b

theorem Step.refl (rho : List Addr) (H : Hp) : Step rho H rho H := ⟨List.prefix_refl _, fun _ a b => absurd a b, fun _ _ h _ _ => h, fun _ h => h⟩
theorem Step.notin {rho rho' : List Addr} {H H' : Hp} (s : Step rho H rho' H') {b : Addr} {o : HO} (hb : b ∉ rho) (h : H b = some o) (ho : NoOwn o) : b ∉ rho' := fun z => (s.new b z hb).no h ho
theorem Step.trans {r r1 r2 : List Addr} {H H1 H2 : Hp} (s : Step r H r1 H1) (t : Step r1 H1 r2 H2) : Step r H r2 H2 where
  pre := s.pre.trans t.pre
  new := fun a h2 h0 => by
    by_cases h1 : a ∈ r1
    · exact s.new a h1 h0
    · exact s.stay a (t.new a h2 h1)
  keep := fun b o h hb ho => t.keep b o (s.keep b o h hb ho) (s.notin hb h ho) ho
  stay := fun b h => s.stay b (t.stay b h)
theorem Step.get {r r' : List Addr} {H H' : Hp} (s : Step r H r' H') {n : Nat} {a : Addr} (h : r[n]? = some a) : r'[n]? = some a := by
  obtain ⟨t, rfl⟩ := s.pre
  have hl : n < r.length := (List.getElem?_eq_some_iff.mp h).1
  rw [List.getElem?_append_left hl]
  exact h
/-- a new object beside -/
theorem Step.alloc {r : List Addr} {H : Hp} {p : Addr} {o : HO} (h : H p = none) : Step r H r (upd H p o) :=
  ⟨List.prefix_refl _, fun _ a b => absurd a b, fun b u e _ _ => by rw [upd_ne (ne_of_none e h)]; exact e, fun b f => by
    by_cases hb : b = p
    · rw [hb]; exact .of h
    · intro u e; exact f u (by rw [upd_ne hb]; exact e)⟩
/-- an object of the list changed -/
theorem Step.mut {r : List Addr} {H : Hp} {p : Addr} {o : HO} (hp : p ∈ r) (hs : H p ≠ none) (ho : ∀ ps, o ≠ .tbl ps := by intro _ z; cases z) : Step r H r (upd H p o) :=
  ⟨List.prefix_refl _, fun _ a b => absurd a b, fun b u e hb _ => by
    have ne : b ≠ p := fun z => hb (z ▸ hp)
    rw [upd_ne ne]; exact e, fun b f => by
    by_cases hb : b = p
    · subst hb
      obtain ⟨ps, z⟩ := f o upd_same
      exact absurd z (ho ps)
    · intro u e; exact f u (by rw [upd_ne hb]; exact e)⟩

/-- what never changes -/
def Fixed : HO → Prop
  | .tup _ => True
  | .frz _ _ => True
  | .ext _ => True
  | .xd _ => True
  | _ => False
theorem Fixed.no {o : HO} (h : Fixed o) : NoOwn o := ⟨fun y z => (by subst z; exact h), fun y z => (by subst z; exact h)⟩
theorem XO_fixed {a C : Addr} {d : Option Addr} : Fixed (XO a C d) := trivial
structure Mn (r : List Addr) (H : Hp) (r' : List Addr) (H' : Hp) : Prop where
  pre : r <+: r'
  keep : ∀ b o, H b = some o → b ∉ r → Fixed o → b ∉ r' ∧ H' b = some o
theorem Step.mn {r r' : List Addr} {H H' : Hp} (s : Step r H r' H') : Mn r H r' H' :=
  ⟨s.pre, fun b o h hb ho => ⟨s.notin hb h ho.no, s.keep b o h hb ho.no⟩⟩
theorem Mn.get {r r' : List Addr} {H H' : Hp} (s : Mn r H r' H') {n : Nat} {a : Addr} (h : r[n]? = some a) : r'[n]? = some a := by
  obtain ⟨t, rfl⟩ := s.pre
  have hl : n < r.length := (List.getElem?_eq_some_iff.mp h).1
  rw [List.getElem?_append_left hl]
  exact h
/-- .. and the instances' own dicts, and the tables -/
structure Mo (r : List Addr) (H : Hp) (r' : List Addr) (H' : Hp) : Prop extends Mn r H r' H' where
  own : ∀ b y, H b = some (.own y) → b ∉ r → b ∉ r' ∧ H' b = some (.own y)
  tbl : ∀ b y, H b = some (.tbl y) → b ∉ r → b ∉ r' ∧ H' b = some (.tbl y)
theorem Mo.alloc {r : List Addr} {H : Hp} {p : Addr} {o : HO} (h : H p = none) (ho : ∀ ps, o ≠ .tbl ps := by intro _ z; cases z) : Mo r H r (upd H p o) :=
  ⟨(Step.alloc h).mn, fun b y e hb => ⟨hb, by rw [upd_ne (ne_of_none e h)]; exact e⟩, fun b y e hb => ⟨hb, by rw [upd_ne (ne_of_none e h)]; exact e⟩⟩
theorem Mo.mut {r : List Addr} {H : Hp} {p : Addr} {o : HO} (hp : p ∈ r) (hs : H p ≠ none) (ho : ∀ ps, o ≠ .tbl ps := by intro _ z; cases z) : Mo r H r (upd H p o) :=
  ⟨(Step.mut hp hs ho).mn, fun b y e hb => ⟨hb, by
    have ne : b ≠ p := fun z => hb (z ▸ hp)
    rw [upd_ne ne]; exact e⟩, fun b y e hb => ⟨hb, by
    have ne : b ≠ p := fun z => hb (z ▸ hp)
    rw [upd_ne ne]; exact e⟩⟩
theorem TbOk.mono [Tb] {r r' : List Addr} {H H' : Hp} (s : Mo r H r' H') (q : TbOk r H) : TbOk r' H' where
  tab := fun p hp => by
    obtain ⟨ps, h1, h2, h3, h4⟩ := q.tab p hp
    refine ⟨ps, (s.tbl _ _ h1 h2).2, (s.tbl _ _ h1 h2).1, h3, fun pos cv hc => ?_⟩
    obtain ⟨c, e1, e2, e3⟩ := h4 pos cv hc
    have z := s.keep _ _ e3 e2 trivial
    exact ⟨c, e1, z.1, z.2⟩
theorem TbOk.cut [Tb] {r r1 : List Addr} {H : Hp} (hp : r <+: r1) (q : TbOk r1 H) : TbOk r H where
  tab := fun p hp' => by
    obtain ⟨ps, h1, h2, h3, h4⟩ := q.tab p hp'
    refine ⟨ps, h1, fun z => h2 (hp.subset z), h3, fun pos cv hc => ?_⟩
    obtain ⟨c, e1, e2, e3⟩ := h4 pos cv hc
    exact ⟨c, e1, fun z => e2 (hp.subset z), e3⟩
/-- an object that may change is taken into the list -/
theorem Mn.push {r : List Addr} {H : Hp} {p : Addr} {o : HO} (hp : H p = some o) (hf : ¬ Fixed o) : Mn r H (r ++ [p]) H :=
  ⟨List.prefix_append _ _, fun b u h hb hu => ⟨fun z => by
    rcases List.mem_append.mp z with z | z
    · exact hb z
    · rw [List.mem_singleton] at z
      subst z
      rw [hp] at h
      cases h
      exact hf hu, h⟩⟩
theorem Mo.push {r : List Addr} {H : Hp} {p : Addr} {o : HO} (hp : H p = some o) (hf : ¬ Fixed o) (hn : NoOwn o) : Mo r H (r ++ [p]) H :=
  ⟨Mn.push hp hf, fun b y h hb => ⟨fun z => by
    rcases List.mem_append.mp z with z | z
    · exact hb z
    · rw [List.mem_singleton] at z
      subst z
      rw [hp] at h
      cases h
      exact hn.1 y rfl, h⟩, fun b y h hb => ⟨fun z => by
    rcases List.mem_append.mp z with z | z
    · exact hb z
    · rw [List.mem_singleton] at z
      subst z
      rw [hp] at h
      cases h
      exact hn.2 y rfl, h⟩⟩

section
variable {K : PySem.W.Frag} {mg : Str → Option Value} {r r' : List Addr} {H H' : Hp}
theorem SqTr.sq {a : Addr} {vs : List V} (h : SqTr K H r a vs) : SqT K H a vs := by
  exact .inl (.inl h.2)
theorem SqTr.mono {a : Addr} {vs : List V} (s : Mn r H r' H') (h : SqTr K H r a vs) : SqTr K H' r' a vs := by
  exact ⟨(s.keep _ _ h.2 h.1 trivial).1, (s.keep _ _ h.2 h.1 trivial).2⟩
theorem SqLr.sq {a : Addr} {vs : List V} (h : SqLr K H r a vs) : SqL K H a vs := by
  rcases h with ⟨_, o, h⟩ | h
  · exact .inl (.inr ⟨o, h⟩)
  · exact h H
theorem SqLr.mono {a : Addr} {vs : List V} (s : Mn r H r' H') (h : SqLr K H r a vs) : SqLr K H' r' a vs := by
  rcases h with ⟨h1, o, h⟩ | h
  · exact .inl ⟨(s.keep _ _ h h1 trivial).1, o, (s.keep _ _ h h1 trivial).2⟩
  · exact .inr h
mutual
theorem Rel.mono (s : Mn r H r' H') : ∀ {v : V} {d : D}, Rel K mg r H v d → Rel K mg r' H' v d
  | _, _, .non => .non
  | _, _, .bl b => .bl b
  | _, _, .int i => .int i
  | _, _, .str x => .str x
  | _, _, .tup h q => .tup (h.mono s) (Rels.mono s q)
  | _, _, .rl h q => .rl (h.mono s) (Rels.mono s q)
  | _, _, .ref h => .ref (s.get h)
  | _, _, .exc0 h1 h2 h3 => .exc0 h1 (s.keep _ _ h3 h2 XO_fixed).1 (s.keep _ _ h3 h2 XO_fixed).2
  | _, _, .exc1 h1 hf h2 h3 h4 h5 q => .exc1 h1 hf (s.keep _ _ h4 h2 XO_fixed).1 (s.keep _ _ h5 h3 trivial).1 (s.keep _ _ h4 h2 XO_fixed).2 (s.keep _ _ h5 h3 trivial).2 (Rel.mono s q)
  | _, _, .kt h => .kt h
theorem Rels.mono (s : Mn r H r' H') : ∀ {vs : List V} {xs : List D}, Rels K mg r H vs xs → Rels K mg r' H' vs xs
  | _, _, .nil => .nil
  | _, _, .cons h q => .cons (Rel.mono s h) (Rels.mono s q)
end
theorem Rels.length : ∀ {vs : List V} {xs : List D}, Rels K mg r H vs xs → vs.length = xs.length
  | _, _, .nil => rfl
  | _, _, .cons _ q => by rw [List.length_cons, List.length_cons, Rels.length q]
theorem Rels.append : ∀ {vs ws : List V} {xs ys : List D}, Rels K mg r H vs xs → Rels K mg r H ws ys → Rels K mg r H (vs ++ ws) (xs ++ ys)
  | _, _, _, _, .nil, q => q
  | _, _, _, _, .cons h t, q => .cons h (Rels.append t q)
theorem Rels.get : ∀ {vs : List V} {xs : List D} {i : Nat} {v : V}, Rels K mg r H vs xs → vs[i]? = some v → ∃ x, xs[i]? = some x ∧ Rel K mg r H v x
  | _, _, i, _, .nil, e => by simp at e
  | _, _, 0, _, .cons h _, e => by
    simp at e; subst e; exact ⟨_, rfl, h⟩
  | _, _, i + 1, v, .cons _ q, e => by
    obtain ⟨x, h1, h2⟩ := Rels.get (i := i) (v := v) q (by simpa using e)
    exact ⟨x, by simpa using h1, h2⟩
theorem Rels.get' : ∀ {vs : List V} {xs : List D} {i : Nat} {x : D}, Rels K mg r H vs xs → xs[i]? = some x → ∃ v, vs[i]? = some v ∧ Rel K mg r H v x
  | _, _, i, _, .nil, e => by simp at e
  | _, _, 0, _, .cons h _, e => by
    simp at e; subst e; exact ⟨_, rfl, h⟩
  | _, _, i + 1, v, .cons _ q, e => by
    obtain ⟨x, h1, h2⟩ := Rels.get' (i := i) (x := v) q (by simpa using e)
    exact ⟨x, by simpa using h1, h2⟩
theorem Rels.set {v : V} {x : D} (h : Rel K mg r H v x) : ∀ {vs : List V} {xs : List D} (i : Nat), Rels K mg r H vs xs → Rels K mg r H (vs.set i v) (xs.set i x)
  | _, _, _, .nil => .nil
  | _, _, 0, .cons _ t => .cons h t
  | _, _, i + 1, .cons q t => .cons q (Rels.set h i t)
theorem Rels.take : ∀ {vs : List V} {xs : List D} (n : Nat), Rels K mg r H vs xs → Rels K mg r H (vs.take n) (xs.take n)
  | _, _, 0, _ => .nil
  | _, _, _ + 1, .nil => .nil
  | _, _, n + 1, .cons q t => .cons q (Rels.take n t)
theorem Rels.drop : ∀ {vs : List V} {xs : List D} (n : Nat), Rels K mg r H vs xs → Rels K mg r H (vs.drop n) (xs.drop n)
  | _, _, 0, q => q
  | _, _, _ + 1, .nil => .nil
  | _, _, n + 1, .cons _ t => Rels.drop n t
theorem Rels.reverse : ∀ {vs : List V} {xs : List D}, Rels K mg r H vs xs → Rels K mg r H vs.reverse xs.reverse
  | _, _, .nil => .nil
  | _, _, .cons h t => by
    rw [List.reverse_cons, List.reverse_cons]
    exact (Rels.reverse t).append (.cons h .nil)
theorem Rels.rep {v : V} {x : D} (h : Rel K mg r H v x) : ∀ n : Nat, Rels K mg r H (List.replicate n v) (List.replicate n x)
  | 0 => .nil
  | n + 1 => .cons h (Rels.rep h n)
/-- which values are which -/
theorem Rel.ref_inv {a : Addr} {n : Nat} (h : Rel K mg r H (.ref a) (.ref n)) : r[n]? = some a := by cases h; assumption
end

section
variable (K : PySem.W.Frag) (mg : Str → Option Value)
/-- what stands at an address of the list -/
inductive RelK (r : List Addr) (H : Hp) : List (Key × V) → List (Key × D) → Prop
  | nil : RelK r H [] []
  | cons {k : Key} {v : V} {x : D} {vs : List (Key × V)} {xs : List (Key × D)} : Rel K mg r H v x → RelK r H vs xs → RelK r H ((k, v) :: vs) ((k, x) :: xs)
inductive RelKT (r : List Addr) (H : Hp) : List (List Key × V) → List (List Key × D) → Prop
  | nil : RelKT r H [] []
  | cons {k : List Key} {v : V} {x : D} {vs : List (List Key × V)} {xs : List (List Key × D)} : Rel K mg r H v x → RelKT r H vs xs → RelKT r H ((k, v) :: vs) ((k, x) :: xs)
inductive RelF (r : List Addr) (H : Hp) : List (Str × V) → List (Str × D) → Prop
  | nil : RelF r H [] []
  | cons {k : Str} {v : V} {x : D} {vs : List (Str × V)} {xs : List (Str × D)} : Rel K mg r H v x → RelF r H vs xs → RelF r H ((k, v) :: vs) ((k, x) :: xs)
inductive RelSl (r : List Addr) (H : Hp) : List (Option V) → List (Option D) → Prop
  | nil : RelSl r H [] []
  | some {v : V} {x : D} {vs : List (Option V)} {xs : List (Option D)} : Rel K mg r H v x → RelSl r H vs xs → RelSl r H (some v :: vs) (some x :: xs)
  | none {vs : List (Option V)} {xs : List (Option D)} : RelSl r H vs xs → RelSl r H (none :: vs) (none :: xs)
def ORel (r : List Addr) (H : Hp) (a : Addr) : AO → Prop
  | .lst xs => ∃ vs, H a = some (.lst vs) ∧ Rels K mg r H vs xs
  | .dk kvs => ∃ vs, H a = some (.dK vs) ∧ RelK K mg r H vs kvs
  | .dt kvs => ∃ vs, H a = some (.dT vs) ∧ RelKT K mg r H vs kvs
  | .ins c fs => ∃ C dx vs, mg c = some (.ref C) ∧ H a = some (.ins C dx vs) ∧ H dx = some (.own a) ∧ dx ∉ r ∧ RelF K mg r H vs fs
  | .sins c fs => ∃ C dx vs, mg c = some (.ref C) ∧ H a = some (SlX.SlO a C dx vs) ∧ H dx = some (.xd []) ∧ dx ∉ r ∧ RelSl K mg r H vs fs
structure HRel [Tb] (r : List Addr) (h : AH) (H : Hp) : Prop where
  len : r.length = h.length
  nd : r.Nodup
  tbs : TbOk r H
  obj : ∀ (i : Nat) (o : AO) (a : Addr), h[i]? = some o → r[i]? = some a → ORel K mg r H a o
/-- the slots of a frame -/
structure ERel (r : List Addr) (e : Env) (σ : L2.St) (H : Hp) : Prop where
  len : σ.length = e.length
  at_ : ∀ (i : Nat) (x : D), e[i]? = some (some x) → ∃ v, σ[i]? = some (some v) ∧ Rel K mg r H v x
end
section
variable {K : PySem.W.Frag} {mg : Str → Option Value} {r r' : List Addr} {H H' : Hp} {h : AH} {e : Env} {σ : L2.St}
theorem RelK.mono (s : Mn r H r' H') : ∀ {vs : List (Key × V)} {xs : List (Key × D)}, RelK K mg r H vs xs → RelK K mg r' H' vs xs
  | _, _, .nil => .nil
  | _, _, .cons h q => .cons (h.mono s) (RelK.mono s q)
theorem RelKT.mono (s : Mn r H r' H') : ∀ {vs : List (List Key × V)} {xs : List (List Key × D)}, RelKT K mg r H vs xs → RelKT K mg r' H' vs xs
  | _, _, .nil => .nil
  | _, _, .cons h q => .cons (h.mono s) (RelKT.mono s q)
theorem RelF.mono (s : Mn r H r' H') : ∀ {vs : List (Str × V)} {xs : List (Str × D)}, RelF K mg r H vs xs → RelF K mg r' H' vs xs
  | _, _, .nil => .nil
  | _, _, .cons h q => .cons (h.mono s) (RelF.mono s q)
theorem RelSl.mono (s : Mn r H r' H') : ∀ {vs : List (Option V)} {xs : List (Option D)}, RelSl K mg r H vs xs → RelSl K mg r' H' vs xs
  | _, _, .nil => .nil
  | _, _, .some h q => .some (h.mono s) (RelSl.mono s q)
  | _, _, .none q => .none (RelSl.mono s q)
theorem ORel.mono {a : Addr} {o : AO} (s : Mo r H r' H') (ha : H' a = H a) (q : ORel K mg r H a o) : ORel K mg r' H' a o := by
  cases o with
  | lst xs => obtain ⟨vs, h1, h2⟩ := q; exact ⟨vs, ha.trans h1, h2.mono s.toMn⟩
  | dk xs => obtain ⟨vs, h1, h2⟩ := q; exact ⟨vs, ha.trans h1, h2.mono s.toMn⟩
  | dt xs => obtain ⟨vs, h1, h2⟩ := q; exact ⟨vs, ha.trans h1, h2.mono s.toMn⟩
  | ins c fs => obtain ⟨C, dx, vs, h0, h1, h2, h3, h4⟩ := q; exact ⟨C, dx, vs, h0, ha.trans h1, (s.own _ _ h2 h3).2, (s.own _ _ h2 h3).1, h4.mono s.toMn⟩
  | sins c fs =>
    obtain ⟨C, dx, vs, h0, h1, h2, h3, h4⟩ := q
    exact ⟨C, dx, vs, h0, ha.trans h1, (s.keep _ _ h2 h3 trivial).2, (s.keep _ _ h2 h3 trivial).1, h4.mono s.toMn⟩
theorem ORel.there {a : Addr} {o : AO} (q : ORel K mg r H a o) : H a ≠ none := by
  cases o with
  | lst xs => obtain ⟨vs, h1, _⟩ := q; rw [h1]; exact fun z => nomatch z
  | dk xs => obtain ⟨vs, h1, _⟩ := q; rw [h1]; exact fun z => nomatch z
  | dt xs => obtain ⟨vs, h1, _⟩ := q; rw [h1]; exact fun z => nomatch z
  | ins c fs => obtain ⟨C, dx, vs, h0, h1, h2⟩ := q; rw [h1]; exact fun z => nomatch z
  | sins c fs => obtain ⟨C, dx, vs, h0, h1, h2, _⟩ := q; rw [h1]; exact fun z => nomatch z
variable [Tb]
theorem HRel.there (q : HRel K mg r h H) {a : Addr} (ha : a ∈ r) : H a ≠ none := by
  obtain ⟨i, hi⟩ := List.getElem?_of_mem ha
  have hl : i < h.length := by rw [← q.len]; exact (List.getElem?_eq_some_iff.mp hi).1
  exact (q.obj i h[i] a (List.getElem?_eq_getElem hl) hi).there
/-- all of the list's objects as they were -/
theorem HRel.mono (s : Mo r H r H') (ha : ∀ a ∈ r, H' a = H a) (q : HRel K mg r h H) : HRel K mg r h H' :=
  ⟨q.len, q.nd, q.tbs.mono s, fun i o a h1 h2 => (q.obj i o a h1 h2).mono s (ha a (List.mem_of_getElem? h2))⟩
theorem HRel.alloc {p : Addr} {o : HO} (q : HRel K mg r h H) (hp : H p = none) (ho : ∀ ps, o ≠ .tbl ps := by intro _ z; cases z) : HRel K mg r h (upd H p o) :=
  q.mono (Mo.alloc hp ho) fun a ha => upd_ne fun z => q.there ha (z ▸ hp)
theorem ERel.mono (s : Mn r H r' H') (q : ERel K mg r e σ H) : ERel K mg r' e σ H' :=
  ⟨q.len, fun i x hx => let ⟨v, h1, h2⟩ := q.at_ i x hx; ⟨v, h1, h2.mono s⟩⟩
theorem ERel.set {v : V} {x : D} (q : ERel K mg r e σ H) (i : Nat) (hv : Rel K mg r H v x) : ERel K mg r (e.set i (some x)) (σ.set i (some v)) H := by
  refine ⟨by rw [List.length_set, List.length_set]; exact q.len, fun j y hy => ?_⟩
  by_cases hj : i = j
  · subst hj
    rw [List.getElem?_set] at hy
    simp only [if_true] at hy
    split at hy
    · rename_i hl
      cases hy
      exact ⟨v, by rw [List.getElem?_set]; simp [q.len, hl], hv⟩
    · cases hy
  · rw [List.getElem?_set_ne hj] at hy
    obtain ⟨w, h1, h2⟩ := q.at_ j y hy
    exact ⟨w, by rw [List.getElem?_set_ne hj]; exact h1, h2⟩
/-- forget a slot -/
theorem ERel.drop (q : ERel K mg r e σ H) (i : Nat) : ERel K mg r (e.set i none) σ H := by
  refine ⟨by rw [List.length_set]; exact q.len, fun j y hy => ?_⟩
  by_cases hj : i = j
  · subst hj
    rw [List.getElem?_set] at hy
    simp only [if_true] at hy
    split at hy <;> cases hy
  · rw [List.getElem?_set_ne hj] at hy
    exact q.at_ j y hy
/-- an object of the list is changed -/
theorem HRel.put {p : Addr} {o : HO} {i : Nat} {ob : AO} (q : HRel K mg r h H) (hi : r[i]? = some p) (new : ORel K mg r (upd H p o) p ob) (ho : ∀ ps, o ≠ .tbl ps := by intro _ z; cases z) : HRel K mg r (h.set i ob) (upd H p o) := by
  have hp : p ∈ r := List.mem_of_getElem? hi
  have s : Mo r H r (upd H p o) := Mo.mut hp (q.there hp) ho
  refine ⟨by rw [List.length_set]; exact q.len, q.nd, q.tbs.mono s, fun j ob' a h1 h2 => ?_⟩
  by_cases hj : i = j
  · subst hj
    rw [hi] at h2
    cases h2
    rw [List.getElem?_set] at h1
    simp only [if_true] at h1
    split at h1
    · cases h1; exact new
    · cases h1
  · rw [List.getElem?_set_ne hj] at h1
    have ne : a ≠ p := fun z => by
      subst z
      exact hj ((List.getElem?_inj (List.getElem?_eq_some_iff.mp hi).1 q.nd).mp (hi.trans h2.symm))
    exact (q.obj j ob' a h1 h2).mono s (upd_ne ne)
/-- an object is taken into the list -/
theorem HRel.push {p : Addr} {ob : AO} (q : HRel K mg r h H) (hp : p ∉ r) (s : Mo r H (r ++ [p]) H) (new : ORel K mg (r ++ [p]) H p ob) : HRel K mg (r ++ [p]) (h ++ [ob]) H := by
  refine ⟨by rw [List.length_append, List.length_append, q.len, List.length_singleton, List.length_singleton], List.nodup_append.mpr ⟨q.nd, by simp, fun a ha b hb => by
    rw [List.mem_singleton] at hb; subst hb; exact fun z => hp (z ▸ ha)⟩, q.tbs.mono s, fun j ob' a h1 h2 => ?_⟩
  by_cases hj : j < r.length
  · rw [List.getElem?_append_left (by rw [← q.len]; exact hj)] at h1
    rw [List.getElem?_append_left hj] at h2
    exact (q.obj j ob' a h1 h2).mono s rfl
  · rw [List.getElem?_append_right (by rw [← q.len]; omega)] at h1
    rw [List.getElem?_append_right (by omega)] at h2
    have h1' : j - h.length = 0 := by
      cases e : j - h.length with
      | zero => rfl
      | succ k => rw [e] at h1; simp at h1
    rw [h1'] at h1
    rw [q.len, h1'] at h2
    simp at h1 h2
    subst h1 h2
    exact new
/-- what came last goes out of sight -/
theorem HRel.cut {r1 : List Addr} {h1 : AH} (q : HRel K mg r1 h1 H) (hp : r <+: r1) (hobj : ∀ (i : Nat) (o : AO) (a : Addr), (h1.take r.length)[i]? = some o → r[i]? = some a → ORel K mg r H a o) : HRel K mg r (h1.take r.length) H := by
  have tb := q.tbs.cut hp
  obtain ⟨t, rfl⟩ := hp
  refine ⟨?_, (List.nodup_append.mp q.nd).1, tb, hobj⟩
  rw [List.length_take, ← q.len, List.length_append]
  omega
end
end BW

set_option Elab.async false
set_option linter.all false
set_option maxRecDepth 100000
set_option maxHeartbeats 4000000
namespace BW
open PySem PySem.Spec PyProof.Rows L2

/-! ### equality of plain values is decided -/
mutual
def D.eqb : D → D → Bool
  | .non, .non => true
  | .bl a, .bl b => a == b
  | .int a, .int b => decide (a = b)
  | .str a, .str b => decide (a = b)
  | .tup a, .tup b => D.eqbs a b
  | .tl a, .tl b => D.eqbs a b
  | .rl a, .rl b => D.eqbs a b
  | .ref a, .ref b => decide (a = b)
  | .exc c a, .exc c' b => decide (c = c') && D.eqbs a b
  | .kt a, .kt b => decide (a = b)
  | _, _ => false
def D.eqbs : List D → List D → Bool
  | [], [] => true
  | x :: xs, y :: ys => D.eqb x y && D.eqbs xs ys
  | _, _ => false
end
mutual
theorem D.eqb_iff : ∀ a b : D, D.eqb a b = true ↔ a = b
  | .non, b => by cases b <;> simp [D.eqb]
  | .bl a, b => by cases b <;> simp [D.eqb]
  | .int a, b => by cases b <;> simp [D.eqb]
  | .str a, b => by cases b <;> simp [D.eqb]
  | .ref a, b => by cases b <;> simp [D.eqb]
  | .kt a, b => by cases b <;> simp [D.eqb]
  | .tup a, b => by
    cases b with
    | tup b => simp only [D.eqb, D.tup.injEq]; exact D.eqbs_iff a b
    | _ => simp [D.eqb]
  | .tl a, b => by
    cases b with
    | tl b => simp only [D.eqb, D.tl.injEq]; exact D.eqbs_iff a b
    | _ => simp [D.eqb]
  | .rl a, b => by
    cases b with
    | rl b => simp only [D.eqb, D.rl.injEq]; exact D.eqbs_iff a b
    | _ => simp [D.eqb]
  | .exc c a, b => by
    cases b with
    | exc c' b => simp only [D.eqb, D.exc.injEq, Bool.and_eq_true, decide_eq_true_eq, D.eqbs_iff a b]
    | _ => simp [D.eqb]
theorem D.eqbs_iff : ∀ a b : List D, D.eqbs a b = true ↔ a = b
  | [], b => by cases b <;> simp [D.eqbs]
  | x :: xs, b => by
    cases b with
    | nil => simp [D.eqbs]
    | cons y ys => simp only [D.eqbs, Bool.and_eq_true, List.cons.injEq, D.eqb_iff x y, D.eqbs_iff xs ys]
end
instance : DecidableEq D := fun a b => decidable_of_iff _ (D.eqb_iff a b)
instance : DecidableEq AO
  | .lst a, .lst b => decidable_of_iff (a = b) (by simp)
  | .dk a, .dk b => decidable_of_iff (a = b) (by simp)
  | .dt a, .dt b => decidable_of_iff (a = b) (by simp)
  | .ins a b, .ins c d => decidable_of_iff (a = c ∧ b = d) (by simp)
  | .sins a b, .sins c d => decidable_of_iff (a = c ∧ b = d) (by simp)
  | .lst _, .dk _ => isFalse (by simp) | .lst _, .dt _ => isFalse (by simp) | .lst _, .ins _ _ => isFalse (by simp) | .lst _, .sins _ _ => isFalse (by simp)
  | .dk _, .lst _ => isFalse (by simp) | .dk _, .dt _ => isFalse (by simp) | .dk _, .ins _ _ => isFalse (by simp) | .dk _, .sins _ _ => isFalse (by simp)
  | .dt _, .lst _ => isFalse (by simp) | .dt _, .dk _ => isFalse (by simp) | .dt _, .ins _ _ => isFalse (by simp) | .dt _, .sins _ _ => isFalse (by simp)
  | .ins _ _, .lst _ => isFalse (by simp) | .ins _ _, .dk _ => isFalse (by simp) | .ins _ _, .dt _ => isFalse (by simp) | .ins _ _, .sins _ _ => isFalse (by simp)
  | .sins _ _, .lst _ => isFalse (by simp) | .sins _ _, .dk _ => isFalse (by simp) | .sins _ _, .dt _ => isFalse (by simp) | .sins _ _, .ins _ _ => isFalse (by simp)

variable [Tb]
/-! ### the places that a value bears lie below n -/
mutual
def D.lt (n : Nat) : D → Bool
  | .tup xs => D.lts n xs
  | .tl xs => false
  | .rl xs => D.lts n xs
  | .ref k => decide (k < n)
  | .exc _ xs => D.lts n xs
  | _ => true
def D.lts (n : Nat) : List D → Bool
  | [] => true
  | x :: xs => D.lt n x && D.lts n xs
end
def AO.lt (n : Nat) : AO → Bool
  | .lst xs => D.lts n xs
  | .dk kvs => kvs.all fun p => p.2.lt n
  | .dt kvs => kvs.all fun p => p.2.lt n
  | .ins _ fs => fs.all fun p => p.2.lt n
  | .sins _ vs => vs.all fun p => p.all (D.lt n)

section
variable {K : PySem.W.Frag} {mg : Str → Option Value} {r r1 : List Addr} {H : Hp}
mutual
theorem Rel.lt : ∀ {v : V} {d : D}, Rel K mg r H v d → d.lt r.length = true
  | _, _, .non => rfl
  | _, _, .bl _ => rfl
  | _, _, .int _ => rfl
  | _, _, .str _ => rfl
  | _, _, .tup _ q => by simp only [D.lt]; exact Rels.lt q
  | _, _, .rl _ q => by simp only [D.lt]; exact Rels.lt q
  | _, _, .ref h => by simp only [D.lt, decide_eq_true_eq]; exact (List.getElem?_eq_some_iff.mp h).1
  | _, _, .exc0 _ _ _ => rfl
  | _, _, .exc1 _ _ _ _ _ _ q => by simp only [D.lt, D.lts, Bool.and_true]; exact Rel.lt q
  | _, _, .kt _ => rfl
theorem Rels.lt : ∀ {vs : List V} {xs : List D}, Rels K mg r H vs xs → D.lts r.length xs = true
  | _, _, .nil => rfl
  | _, _, .cons h q => by simp only [D.lts, Bool.and_eq_true]; exact ⟨Rel.lt h, Rels.lt q⟩
end
theorem SqTr.cut {a : Addr} {vs : List V} (hp : r <+: r1) (h : SqTr K H r1 a vs) : SqTr K H r a vs := by
  exact ⟨fun z => h.1 (hp.subset z), h.2⟩
theorem get_cut {n : Nat} {a : Addr} (hp : r <+: r1) (h : r1[n]? = some a) (hn : n < r.length) : r[n]? = some a := by
  obtain ⟨t, rfl⟩ := hp
  rw [List.getElem?_append_left hn] at h
  exact h
theorem SqLr.cut {a : Addr} {vs : List V} (hp : r <+: r1) (h : SqLr K H r1 a vs) : SqLr K H r a vs := by
  rcases h with ⟨h1, h⟩ | h
  · exact .inl ⟨fun z => h1 (hp.subset z), h⟩
  · exact .inr h
mutual
theorem Rel.cut (hp : r <+: r1) : ∀ {v : V} {d : D}, Rel K mg r1 H v d → d.lt r.length = true → Rel K mg r H v d
  | _, _, .non, _ => .non
  | _, _, .bl b, _ => .bl b
  | _, _, .int i, _ => .int i
  | _, _, .str x, _ => .str x
  | _, _, .tup h q, z => .tup (h.cut hp) (Rels.cut hp q (by simpa only [D.lt] using z))
  | _, _, .rl h q, z => .rl (h.cut hp) (Rels.cut hp q (by simpa only [D.lt] using z))
  | _, _, .ref h, z => .ref (get_cut hp h (by simpa only [D.lt, decide_eq_true_eq] using z))
  | _, _, .exc0 h1 h2 h3, _ => .exc0 h1 (fun z => h2 (hp.subset z)) h3
  | _, _, .exc1 h1 hf h2 h3 h4 h5 q, z => .exc1 h1 hf (fun z => h2 (hp.subset z)) (fun z => h3 (hp.subset z)) h4 h5 (Rel.cut hp q (by simpa only [D.lt, D.lts, Bool.and_true] using z))
  | _, _, .kt h, _ => .kt h
theorem Rels.cut (hp : r <+: r1) : ∀ {vs : List V} {xs : List D}, Rels K mg r1 H vs xs → D.lts r.length xs = true → Rels K mg r H vs xs
  | _, _, .nil, _ => .nil
  | _, _, .cons h q, z => by
    simp only [D.lts, Bool.and_eq_true] at z
    exact .cons (Rel.cut hp h z.1) (Rels.cut hp q z.2)
end
theorem RelK.cut (hp : r <+: r1) : ∀ {vs : List (Key × V)} {xs : List (Key × D)}, RelK K mg r1 H vs xs → (xs.all fun p => p.2.lt r.length) = true → RelK K mg r H vs xs
  | _, _, .nil, _ => .nil
  | _, _, .cons h q, z => by
    simp only [List.all_cons, Bool.and_eq_true] at z
    exact .cons (h.cut hp z.1) (RelK.cut hp q z.2)
theorem RelKT.cut (hp : r <+: r1) : ∀ {vs : List (List Key × V)} {xs : List (List Key × D)}, RelKT K mg r1 H vs xs → (xs.all fun p => p.2.lt r.length) = true → RelKT K mg r H vs xs
  | _, _, .nil, _ => .nil
  | _, _, .cons h q, z => by
    simp only [List.all_cons, Bool.and_eq_true] at z
    exact .cons (h.cut hp z.1) (RelKT.cut hp q z.2)
theorem RelF.cut (hp : r <+: r1) : ∀ {vs : List (Str × V)} {xs : List (Str × D)}, RelF K mg r1 H vs xs → (xs.all fun p => p.2.lt r.length) = true → RelF K mg r H vs xs
  | _, _, .nil, _ => .nil
  | _, _, .cons h q, z => by
    simp only [List.all_cons, Bool.and_eq_true] at z
    exact .cons (h.cut hp z.1) (RelF.cut hp q z.2)
theorem RelSl.cut (hp : r <+: r1) : ∀ {vs : List (Option V)} {xs : List (Option D)}, RelSl K mg r1 H vs xs → (xs.all fun p => p.all (D.lt r.length)) = true → RelSl K mg r H vs xs
  | _, _, .nil, _ => .nil
  | _, _, .some h q, z => by
    simp only [List.all_cons, Bool.and_eq_true, Option.all_some] at z
    exact .some (h.cut hp z.1) (RelSl.cut hp q z.2)
  | _, _, .none q, z => by
    simp only [List.all_cons, Bool.and_eq_true] at z
    exact .none (RelSl.cut hp q z.2)
theorem RelK.lt : ∀ {vs : List (Key × V)} {xs : List (Key × D)}, RelK K mg r H vs xs → (xs.all fun p => p.2.lt r.length) = true
  | _, _, .nil => rfl
  | _, _, .cons h q => by simp only [List.all_cons, Bool.and_eq_true]; exact ⟨h.lt, RelK.lt q⟩
theorem RelKT.lt : ∀ {vs : List (List Key × V)} {xs : List (List Key × D)}, RelKT K mg r H vs xs → (xs.all fun p => p.2.lt r.length) = true
  | _, _, .nil => rfl
  | _, _, .cons h q => by simp only [List.all_cons, Bool.and_eq_true]; exact ⟨h.lt, RelKT.lt q⟩
theorem RelF.lt : ∀ {vs : List (Str × V)} {xs : List (Str × D)}, RelF K mg r H vs xs → (xs.all fun p => p.2.lt r.length) = true
  | _, _, .nil => rfl
  | _, _, .cons h q => by simp only [List.all_cons, Bool.and_eq_true]; exact ⟨h.lt, RelF.lt q⟩
theorem RelSl.lt : ∀ {vs : List (Option V)} {xs : List (Option D)}, RelSl K mg r H vs xs → (xs.all fun p => p.all (D.lt r.length)) = true
  | _, _, .nil => rfl
  | _, _, .some h q => by simp only [List.all_cons, Bool.and_eq_true, Option.all_some]; exact ⟨h.lt, RelSl.lt q⟩
  | _, _, .none q => by simp only [List.all_cons, Bool.and_eq_true, Option.all_none]; exact ⟨trivial, RelSl.lt q⟩
theorem ORel.lt {a : Addr} {o : AO} (q : ORel K mg r H a o) : o.lt r.length = true := by
  cases o with
  | lst xs => obtain ⟨vs, _, h⟩ := q; exact h.lt
  | dk xs => obtain ⟨vs, _, h⟩ := q; exact h.lt
  | dt xs => obtain ⟨vs, _, h⟩ := q; exact h.lt
  | ins c fs => obtain ⟨C, dx, vs, _, _, _, _, h⟩ := q; exact h.lt
  | sins c fs => obtain ⟨C, dx, vs, _, _, _, _, h⟩ := q; exact h.lt
theorem ORel.cut {a : Addr} {o : AO} (hp : r <+: r1) (q : ORel K mg r1 H a o) (z : o.lt r.length = true) : ORel K mg r H a o := by
  cases o with
  | lst xs => obtain ⟨vs, h1, h⟩ := q; exact ⟨vs, h1, h.cut hp z⟩
  | dk xs => obtain ⟨vs, h1, h⟩ := q; exact ⟨vs, h1, h.cut hp z⟩
  | dt xs => obtain ⟨vs, h1, h⟩ := q; exact ⟨vs, h1, h.cut hp z⟩
  | ins c fs => obtain ⟨C, dx, vs, h1, h2, h3, h4, h⟩ := q; exact ⟨C, dx, vs, h1, h2, h3, fun z => h4 (hp.subset z), h.cut hp z⟩
  | sins c fs => obtain ⟨C, dx, vs, h1, h2, h3, h4, h⟩ := q; exact ⟨C, dx, vs, h1, h2, h3, fun z => h4 (hp.subset z), h.cut hp z⟩
/-- each object of the old ones is as it was, or bears old places alone -/
def oldOk (n : Nat) : AH → AH → Bool
  | [], _ => true
  | _ :: _, [] => false
  | o :: h, o' :: h' => (decide (o' = o) || o'.lt n) && oldOk n h h'
theorem oldOk_get {n : Nat} : ∀ {h h' : AH} {i : Nat} {o : AO}, oldOk n h h' = true → i < h.length → h'[i]? = some o → (h[i]? = some o ∨ o.lt n = true)
  | [], _, i, _, _, hi, _ => absurd hi (Nat.not_lt_zero _)
  | _ :: _, [], _, _, z, _, _ => by simp [oldOk] at z
  | a :: h, b :: h', 0, o, z, _, e => by
    simp only [oldOk, Bool.and_eq_true, Bool.or_eq_true, decide_eq_true_eq] at z
    simp at e; subst e
    rcases z.1 with q | q
    · left; rw [q]; rfl
    · exact .inr q
  | a :: h, b :: h', i + 1, o, z, hi, e => by
    simp only [oldOk, Bool.and_eq_true] at z
    have := oldOk_get (i := i) (o := o) z.2 (by simpa using hi) (by simpa using e)
    simpa using this
theorem HRel.cutOld {h h1 : AH} {H0 : Hp} (q0 : HRel K mg r h H0) (q : HRel K mg r1 h1 H) (hp : r <+: r1) (z : oldOk r.length h h1 = true) : HRel K mg r (h1.take r.length) H := by
  refine q.cut hp fun i o a e1 e2 => ?_
  have hi : i < r.length := (List.getElem?_eq_some_iff.mp e2).1
  have e3 : h1[i]? = some o := by rw [List.getElem?_take] at e1; split at e1 <;> first | exact e1 | cases e1
  have e4 : r1[i]? = some a := by obtain ⟨t, rfl⟩ := hp; rw [List.getElem?_append_left hi]; exact e2
  refine (q.obj i o a e3 e4).cut hp ?_
  rcases oldOk_get z (by rw [← q0.len]; exact hi) e3 with y | y
  · exact (q0.obj i o a y e2).lt
  · exact y
end
end BW

set_option Elab.async false
set_option linter.all false
set_option maxRecDepth 100000
set_option maxHeartbeats 4000000
namespace BW
open PySem PySem.Spec PyProof.Rows L2
variable [Tb]

/-- rfl, not seen as such -/
theorem nrfl0 {α : Sort u} {a b : α} (h : a = b) : a = b := h
/-! ### what a piece of text gives -/
inductive Out (α : Type) where
  | stuck
  | ok (a : α) (h : AH)
  | exc (x : D) (h : AH)
def Out.bind {α β : Type} (o : Out α) (f : α → AH → Out β) : Out β :=
  match o with
  | .stuck => .stuck
  | .ok a h => f a h
  | .exc x h => .exc x h
@[simp] theorem Out.bind_stuck {α β : Type} (f : α → AH → Out β) : (Out.stuck : Out α).bind f = .stuck := nrfl0 rfl
@[simp] theorem Out.bind_ok {α β : Type} (a : α) (h : AH) (f : α → AH → Out β) : (Out.ok a h).bind f = f a h := nrfl0 rfl
@[simp] theorem Out.bind_exc {α β : Type} (x : D) (h : AH) (f : α → AH → Out β) : (Out.exc x h : Out α).bind f = .exc x h := nrfl0 rfl
abbrev Ev := Env → AH → Out D
abbrev Tv := Env → AH → Out Bool
abbrev Av := Env → AH → Out (List D)
abbrev Fd := List D → AH → Out D
inductive Fl where
  | stuck
  | nx (e : Env) (h : AH)
  | ret (d : D) (h : AH)
  | brk (e : Env) (h : AH)
  | cont (e : Env) (h : AH)
  | exc (x : D) (e : Env) (h : AH)
abbrev Sv := Env → AH → Fl

/-- what is wanted of an exception, with the slots -/
abbrev Wx := Value → Option Addr → L2.St → Hp → Prop

section
variable (K : PySem.W.Frag) (mg : Str → Option Value)
/-- a value, or a list that nobody else holds -/
inductive RelT (H0 : Hp) (r : List Addr) (H : Hp) : V → D → Prop
  | val {v : V} {d : D} : Rel K mg r H v d → RelT H0 r H v d
  | tl {p : Addr} {vs : List V} {xs : List D} : Fr H0 p → H p = some (.lst vs) → p ∉ r → Rels K mg r H vs xs → RelT H0 r H (.ref p) (.tl xs)
/-- .. whenever it was made -/
abbrev RelU (r : List Addr) (H : Hp) : V → D → Prop := RelT K mg (fun _ => none) r H
inductive RelTs (r : List Addr) (H : Hp) : List V → List D → Prop
  | nil : RelTs r H [] []
  | cons {v : V} {d : D} {vs : List V} {ds : List D} : RelU K mg r H v d → RelTs r H vs ds → RelTs r H (v :: vs) (d :: ds)
/-- an exception that flies -/
inductive ExRel (r : List Addr) (H : Hp) : Value → Option Addr → D → Prop
  | e0 {c : Str} {C : Addr} : mg c = some (.ref C) → ExRel r H (.ref C) none (.exc c [])
  | e1 {c f : Str} {C dx : Addr} {v : V} {x : D} : mg c = some (.ref C) → fieldOf c = some f → dx ∉ r → H dx = some (.xd [(f, v)]) → Rel K mg r H v x → ExRel r H (.ref C) (some dx) (.exc c [x])
def OkE (W : Wx) (σ : L2.St) (r : List Addr) (H : Hp) (Q : VK) : Out D → Prop
  | .stuck => False
  | .ok d h' => ∀ v r' H', Step r H r' H' → HRel K mg r' h' H' → RelT K mg H r' H' v d → Q v H'
  | .exc x h' => ∀ c dx r' H', Step r H r' H' → HRel K mg r' h' H' → ExRel K mg r' H' c dx x → W c dx σ H'
def OkT (W : Wx) (σ : L2.St) (r : List Addr) (H : Hp) (Q : Bool → Hp → Prop) : Out Bool → Prop
  | .stuck => False
  | .ok d h' => ∀ r' H', Step r H r' H' → HRel K mg r' h' H' → Q d H'
  | .exc x h' => ∀ c dx r' H', Step r H r' H' → HRel K mg r' h' H' → ExRel K mg r' H' c dx x → W c dx σ H'
def OkA (W : Wx) (σ : L2.St) (r : List Addr) (H : Hp) (Q : List V → Hp → Prop) : Out (List D) → Prop
  | .stuck => False
  | .ok d h' => ∀ v r' H', Step r H r' H' → HRel K mg r' h' H' → RelTs K mg r' H' v d → Q v H'
  | .exc x h' => ∀ c dx r' H', Step r H r' H' → HRel K mg r' h' H' → ExRel K mg r' H' c dx x → W c dx σ H'
def OkS (W : Wx) (r : List Addr) (H : Hp) (N : Ends) : Fl → Prop
  | .stuck => False
  | .nx e' h' => ∀ σ' r' H', Step r H r' H' → ERel K mg r' e' σ' H' → HRel K mg r' h' H' → N.nx σ' H'
  | .ret d h' => ∀ v r' H', Step r H r' H' → HRel K mg r' h' H' → RelT K mg H r' H' v d → N.rt v H'
  | .brk e' h' => ∀ σ' r' H', Step r H r' H' → ERel K mg r' e' σ' H' → HRel K mg r' h' H' → N.bk σ' H'
  | .cont e' h' => ∀ σ' r' H', Step r H r' H' → ERel K mg r' e' σ' H' → HRel K mg r' h' H' → N.ct σ' H'
  | .exc x e' h' => ∀ c dx σ' r' H', Step r H r' H' → ERel K mg r' e' σ' H' → HRel K mg r' h' H' → ExRel K mg r' H' c dx x → W c dx σ' H'
def rdE (W : Wx) (f : Ev) : TE := fun σ H Q => ∃ r e h, ERel K mg r e σ H ∧ HRel K mg r h H ∧ OkE K mg W σ r H Q (f e h)
def rdT (W : Wx) (f : Tv) : TT := fun σ H Q => ∃ r e h, ERel K mg r e σ H ∧ HRel K mg r h H ∧ OkT K mg W σ r H Q (f e h)
def rdA (W : Wx) (f : Av) : TA := fun σ H Q => ∃ r e h, ERel K mg r e σ H ∧ HRel K mg r h H ∧ OkA K mg W σ r H Q (f e h)
def rdS (W : Wx) (f : Sv) : TS := fun N σ H => ∃ r e h, ERel K mg r e σ H ∧ HRel K mg r h H ∧ OkS K mg W r H N (f e h)
end
abbrev DenE (X : Cx) (W : Wx) (e : Expr) (f : Ev) : Prop := PE X e (rdE X.K X.mg W f)
abbrev DenT (X : Cx) (W : Wx) (e : Expr) (f : Tv) : Prop := PT X e (rdT X.K X.mg W f)
abbrev DenA (X : Cx) (W : Wx) (es : List Expr) (f : Av) : Prop := PA X es (rdA X.K X.mg W f)
abbrev DenS (X : Cx) (W : Wx) (st : Stmt) (f : Sv) : Prop := PS X st (rdS X.K X.mg W f)
abbrev DenB (X : Cx) (W : Wx) (st : List Stmt) (f : Sv) : Prop := PSs X st (rdS X.K X.mg W f)

section
variable {X : Cx}
theorem PE.imp {e : Expr} {t t' : TE} (h : PE X e t) (q : ∀ σ H Q, t' σ H Q → t σ H Q) : PE X e t' := ⟨fun pins s σ H Q I z => h.run pins s σ H Q I (q σ H Q z)⟩
theorem PT.imp {e : Expr} {t t' : TT} (h : PT X e t) (q : ∀ σ H Q, t' σ H Q → t σ H Q) : PT X e t' := ⟨fun pins s σ H Q I z => h.run pins s σ H Q I (q σ H Q z)⟩
theorem PW.imp {e : Expr} {t t' : TT} (h : PW X e t) (q : ∀ σ H Q, t' σ H Q → t σ H Q) : PW X e t' := ⟨fun wh pins s σ H Q I z => h.run wh pins s σ H Q I (q σ H Q z)⟩
theorem PA.imp {es : List Expr} {t t' : TA} (h : PA X es t) (q : ∀ σ H Q, t' σ H Q → t σ H Q) : PA X es t' := ⟨fun pos pins s σ H Q I z => h.run pos pins s σ H Q I (q σ H Q z)⟩
theorem PS.imp {st : Stmt} {t t' : TS} (h : PS X st t) (q : ∀ N σ H, t' N σ H → t N σ H) : PS X st t' := ⟨fun pins s σ H N I z => h.run pins s σ H N I (q N σ H z)⟩
theorem PSs.imp {st : List Stmt} {t t' : TS} (h : PSs X st t) (q : ∀ N σ H, t' N σ H → t N σ H) : PSs X st t' := ⟨fun pins s σ H N I z => h.run pins s σ H N I (q N σ H z)⟩
end

section
variable {K : PySem.W.Frag} {mg : Str → Option Value} {W : Wx} {σ : L2.St} {r r' r1 : List Addr} {H H' H1 H0 : Hp} {h : AH} {e : Env}
theorem RelT.mono {v : V} {d : D} (s : Step r H r' H') (q : RelT K mg H0 r H v d) : RelT K mg H0 r' H' v d := by
  cases q with
  | val q => exact .val (q.mono s.mn)
  | tl a b c q => exact .tl a (s.keep _ _ b c NoOwn.of) (s.notin c b NoOwn.of) (q.mono s.mn)
theorem RelT.u {v : V} {d : D} (q : RelT K mg H0 r H v d) : RelU K mg r H v d := by
  cases q with
  | val q => exact .val q
  | tl a b c q => exact .tl (.of rfl) b c q
theorem RelTs.mono (s : Step r H r' H') : ∀ {v : List V} {d : List D}, RelTs K mg r H v d → RelTs K mg r' H' v d
  | _, _, .nil => .nil
  | _, _, .cons a b => .cons (a.mono s) (RelTs.mono s b)
theorem RelT.back {v : V} {d : D} (s : Step r H r1 H1) (q : RelT K mg H1 r' H' v d) : RelT K mg H r' H' v d := by
  cases q with
  | val q => exact .val q
  | tl a b c q => exact .tl (s.stay _ a) b c q
theorem OkE.after {Q : VK} {o : Out D} (s : Step r H r1 H1) (q : OkE K mg W σ r H Q o) : OkE K mg W σ r1 H1 Q o := by
  cases o with
  | stuck => exact q
  | ok d h' => exact fun v r' H' s' hr t => q v r' H' (s.trans s') hr (t.back s)
  | exc x h' => exact fun c dx r' H' s' hr t => q c dx r' H' (s.trans s') hr t
theorem OkT.after {Q : Bool → Hp → Prop} {o : Out Bool} (s : Step r H r1 H1) (q : OkT K mg W σ r H Q o) : OkT K mg W σ r1 H1 Q o := by
  cases o with
  | stuck => exact q
  | ok d h' => exact fun r' H' s' hr => q r' H' (s.trans s') hr
  | exc x h' => exact fun c dx r' H' s' hr t => q c dx r' H' (s.trans s') hr t
theorem OkA.after {Q : List V → Hp → Prop} {o : Out (List D)} (s : Step r H r1 H1) (q : OkA K mg W σ r H Q o) : OkA K mg W σ r1 H1 Q o := by
  cases o with
  | stuck => exact q
  | ok d h' => exact fun v r' H' s' hr t => q v r' H' (s.trans s') hr t
  | exc x h' => exact fun c dx r' H' s' hr t => q c dx r' H' (s.trans s') hr t
theorem OkS.after {N : Ends} {o : Fl} (s : Step r H r1 H1) (q : OkS K mg W r H N o) : OkS K mg W r1 H1 N o := by
  cases o with
  | stuck => exact q
  | nx e' h' => exact fun σ' r' H' s' => q σ' r' H' (s.trans s')
  | brk e' h' => exact fun σ' r' H' s' => q σ' r' H' (s.trans s')
  | cont e' h' => exact fun σ' r' H' s' => q σ' r' H' (s.trans s')
  | ret d h' => exact fun v r' H' s' hr t => q v r' H' (s.trans s') hr (t.back s)
  | exc x e' h' => exact fun c dx σ' r' H' s' => q c dx σ' r' H' (s.trans s')

/-! ### an expression first, then the rest -/
theorem rdE_bind {f : Ev} {k : D → AH → Out D} {Q Q' : VK} (er : ERel K mg r e σ H) (hr : HRel K mg r h H) (ok : OkE K mg W σ r H Q ((f e h).bind k))
    (hk : ∀ d h1 v r1 H1, Step r H r1 H1 → HRel K mg r1 h1 H1 → RelT K mg H r1 H1 v d → ERel K mg r1 e σ H1 → OkE K mg W σ r1 H1 Q (k d h1) → Q' v H1) : rdE K mg W f σ H Q' := by
  refine ⟨r, e, h, er, hr, ?_⟩
  cases hf : f e h with
  | stuck => rw [hf] at ok; exact ok
  | ok d h1 => rw [hf] at ok; exact fun v r1 H1 s q t => hk d h1 v r1 H1 s q t (er.mono s.mn) (OkE.after s ok)
  | exc x h1 => rw [hf] at ok; exact ok
theorem rdE_bindT {f : Ev} {k : D → AH → Out Bool} {Q : Bool → Hp → Prop} {Q' : VK} (er : ERel K mg r e σ H) (hr : HRel K mg r h H) (ok : OkT K mg W σ r H Q ((f e h).bind k))
    (hk : ∀ d h1 v r1 H1, Step r H r1 H1 → HRel K mg r1 h1 H1 → RelT K mg H r1 H1 v d → ERel K mg r1 e σ H1 → OkT K mg W σ r1 H1 Q (k d h1) → Q' v H1) : rdE K mg W f σ H Q' := by
  refine ⟨r, e, h, er, hr, ?_⟩
  cases hf : f e h with
  | stuck => rw [hf] at ok; exact ok
  | ok d h1 => rw [hf] at ok; exact fun v r1 H1 s q t => hk d h1 v r1 H1 s q t (er.mono s.mn) (OkT.after s ok)
  | exc x h1 => rw [hf] at ok; exact ok
theorem rdT_bindT {f : Tv} {k : Bool → AH → Out Bool} {Q Q' : Bool → Hp → Prop} (er : ERel K mg r e σ H) (hr : HRel K mg r h H) (ok : OkT K mg W σ r H Q ((f e h).bind k))
    (hk : ∀ d h1 r1 H1, Step r H r1 H1 → HRel K mg r1 h1 H1 → ERel K mg r1 e σ H1 → OkT K mg W σ r1 H1 Q (k d h1) → Q' d H1) : rdT K mg W f σ H Q' := by
  refine ⟨r, e, h, er, hr, ?_⟩
  cases hf : f e h with
  | stuck => rw [hf] at ok; exact ok
  | ok d h1 => rw [hf] at ok; exact fun r1 H1 s q => hk d h1 r1 H1 s q (er.mono s.mn) (OkT.after s ok)
  | exc x h1 => rw [hf] at ok; exact ok
theorem rdT_bindE {f : Tv} {k : Bool → AH → Out D} {Q : VK} {Q' : Bool → Hp → Prop} (er : ERel K mg r e σ H) (hr : HRel K mg r h H) (ok : OkE K mg W σ r H Q ((f e h).bind k))
    (hk : ∀ d h1 r1 H1, Step r H r1 H1 → HRel K mg r1 h1 H1 → ERel K mg r1 e σ H1 → OkE K mg W σ r1 H1 Q (k d h1) → Q' d H1) : rdT K mg W f σ H Q' := by
  refine ⟨r, e, h, er, hr, ?_⟩
  cases hf : f e h with
  | stuck => rw [hf] at ok; exact ok
  | ok d h1 => rw [hf] at ok; exact fun r1 H1 s q => hk d h1 r1 H1 s q (er.mono s.mn) (OkE.after s ok)
  | exc x h1 => rw [hf] at ok; exact ok
theorem rdE_bindA {f : Ev} {k : D → AH → Out (List D)} {Q : List V → Hp → Prop} {Q' : VK} (er : ERel K mg r e σ H) (hr : HRel K mg r h H) (ok : OkA K mg W σ r H Q ((f e h).bind k))
    (hk : ∀ d h1 v r1 H1, Step r H r1 H1 → HRel K mg r1 h1 H1 → RelT K mg H r1 H1 v d → ERel K mg r1 e σ H1 → OkA K mg W σ r1 H1 Q (k d h1) → Q' v H1) : rdE K mg W f σ H Q' := by
  refine ⟨r, e, h, er, hr, ?_⟩
  cases hf : f e h with
  | stuck => rw [hf] at ok; exact ok
  | ok d h1 => rw [hf] at ok; exact fun v r1 H1 s q t => hk d h1 v r1 H1 s q t (er.mono s.mn) (OkA.after s ok)
  | exc x h1 => rw [hf] at ok; exact ok
theorem rdA_bindA {f : Av} {k : List D → AH → Out (List D)} {Q Q' : List V → Hp → Prop} (er : ERel K mg r e σ H) (hr : HRel K mg r h H) (ok : OkA K mg W σ r H Q ((f e h).bind k))
    (hk : ∀ d h1 v r1 H1, Step r H r1 H1 → HRel K mg r1 h1 H1 → RelTs K mg r1 H1 v d → ERel K mg r1 e σ H1 → OkA K mg W σ r1 H1 Q (k d h1) → Q' v H1) : rdA K mg W f σ H Q' := by
  refine ⟨r, e, h, er, hr, ?_⟩
  cases hf : f e h with
  | stuck => rw [hf] at ok; exact ok
  | ok d h1 => rw [hf] at ok; exact fun v r1 H1 s q t => hk d h1 v r1 H1 s q t (er.mono s.mn) (OkA.after s ok)
  | exc x h1 => rw [hf] at ok; exact ok
theorem rdA_bindE {f : Av} {k : List D → AH → Out D} {Q : VK} {Q' : List V → Hp → Prop} (er : ERel K mg r e σ H) (hr : HRel K mg r h H) (ok : OkE K mg W σ r H Q ((f e h).bind k))
    (hk : ∀ d h1 v r1 H1, Step r H r1 H1 → HRel K mg r1 h1 H1 → RelTs K mg r1 H1 v d → ERel K mg r1 e σ H1 → OkE K mg W σ r1 H1 Q (k d h1) → Q' v H1) : rdA K mg W f σ H Q' := by
  refine ⟨r, e, h, er, hr, ?_⟩
  cases hf : f e h with
  | stuck => rw [hf] at ok; exact ok
  | ok d h1 => rw [hf] at ok; exact fun v r1 H1 s q t => hk d h1 v r1 H1 s q t (er.mono s.mn) (OkE.after s ok)
  | exc x h1 => rw [hf] at ok; exact ok
/-- .. in a statement -/
def Out.toFl {α : Type} (o : Out α) (e : Env) (k : α → AH → Fl) : Fl :=
  match o with
  | .stuck => .stuck
  | .ok a h => k a h
  | .exc x h => .exc x e h
@[simp] theorem Out.toFl_ok {α : Type} (a : α) (h : AH) (e : Env) (k : α → AH → Fl) : (Out.ok a h).toFl e k = k a h := nrfl0 rfl
@[simp] theorem Out.toFl_stuck {α : Type} (e : Env) (k : α → AH → Fl) : (Out.stuck : Out α).toFl e k = .stuck := nrfl0 rfl
@[simp] theorem Out.toFl_exc {α : Type} (x : D) (h : AH) (e : Env) (k : α → AH → Fl) : (Out.exc x h : Out α).toFl e k = .exc x e h := nrfl0 rfl
theorem rdE_bindS {f : Ev} {k : D → AH → Fl} {N : Ends} {Q' : VK} (er : ERel K mg r e σ H) (hr : HRel K mg r h H) (ok : OkS K mg W r H N ((f e h).toFl e k))
    (hk : ∀ d h1 v r1 H1, Step r H r1 H1 → HRel K mg r1 h1 H1 → RelT K mg H r1 H1 v d → ERel K mg r1 e σ H1 → OkS K mg W r1 H1 N (k d h1) → Q' v H1) : rdE K mg W f σ H Q' := by
  refine ⟨r, e, h, er, hr, ?_⟩
  cases hf : f e h with
  | stuck => rw [hf] at ok; exact ok
  | ok d h1 => rw [hf] at ok; exact fun v r1 H1 s q t => hk d h1 v r1 H1 s q t (er.mono s.mn) (OkS.after s ok)
  | exc x h1 => rw [hf] at ok; exact fun c dx r' H' s q t => ok c dx σ r' H' s (er.mono s.mn) q t
theorem rdT_bindS {f : Tv} {k : Bool → AH → Fl} {N : Ends} {Q' : Bool → Hp → Prop} (er : ERel K mg r e σ H) (hr : HRel K mg r h H) (ok : OkS K mg W r H N ((f e h).toFl e k))
    (hk : ∀ d h1 r1 H1, Step r H r1 H1 → HRel K mg r1 h1 H1 → ERel K mg r1 e σ H1 → OkS K mg W r1 H1 N (k d h1) → Q' d H1) : rdT K mg W f σ H Q' := by
  refine ⟨r, e, h, er, hr, ?_⟩
  cases hf : f e h with
  | stuck => rw [hf] at ok; exact ok
  | ok d h1 => rw [hf] at ok; exact fun r1 H1 s q => hk d h1 r1 H1 s q (er.mono s.mn) (OkS.after s ok)
  | exc x h1 => rw [hf] at ok; exact fun c dx r' H' s q t => ok c dx σ r' H' s (er.mono s.mn) q t
theorem rdA_bindS {f : Av} {k : List D → AH → Fl} {N : Ends} {Q' : List V → Hp → Prop} (er : ERel K mg r e σ H) (hr : HRel K mg r h H) (ok : OkS K mg W r H N ((f e h).toFl e k))
    (hk : ∀ d h1 v r1 H1, Step r H r1 H1 → HRel K mg r1 h1 H1 → RelTs K mg r1 H1 v d → ERel K mg r1 e σ H1 → OkS K mg W r1 H1 N (k d h1) → Q' v H1) : rdA K mg W f σ H Q' := by
  refine ⟨r, e, h, er, hr, ?_⟩
  cases hf : f e h with
  | stuck => rw [hf] at ok; exact ok
  | ok d h1 => rw [hf] at ok; exact fun v r1 H1 s q t => hk d h1 v r1 H1 s q t (er.mono s.mn) (OkS.after s ok)
  | exc x h1 => rw [hf] at ok; exact fun c dx r' H' s q t => ok c dx σ r' H' s (er.mono s.mn) q t
end

/-! ### names, constants -/
section
variable {X : Cx} {W : Wx}
def evVar (i : Nat) : Ev := fun e h => match e[i]? with
  | some (some d) => .ok d h
  | _ => .stuck
theorem den_var {i : Nat} {x : Str} {pos : Pos} (hN : X.N[i]? = some x) (hv : Vis X.env.scope x) (hd : (x == ("__debug__" : Str)) = false := by decide) (hcd : (x == ("__classdict__" : Str)) = false := by decide) : DenE X W (.Name x pos) (evVar i) :=
  PE.imp (pe_var hN hv hd hcd) fun σ H Q ⟨r, e, h, er, hr, ok⟩ => by
    unfold evVar at ok
    split at ok
    · rename_i d hd
      obtain ⟨v, h1, h2⟩ := er.at_ i d hd
      exact ⟨v, h1, ok v r H (Step.refl r H) hr (.val h2)⟩
    · exact ok.elim
def evC (d : D) : Ev := fun _ h => .ok d h
theorem den_int {i : Int} {j pos} : DenE X W (.Constant (.int i) j pos) (evC (.int i)) := PE.imp pe_int fun σ H Q ⟨r, e, h, er, hr, ok⟩ => ok _ r H (Step.refl r H) hr (.val (.int i))
theorem den_bl {b : Bool} {j pos} : DenE X W (.Constant (.bool b) j pos) (evC (.bl b)) := PE.imp pe_bl fun σ H Q ⟨r, e, h, er, hr, ok⟩ => ok _ r H (Step.refl r H) hr (.val (.bl b))
theorem den_non {j pos} : DenE X W (.Constant .none j pos) (evC .non) := PE.imp pe_non fun σ H Q ⟨r, e, h, er, hr, ok⟩ => ok _ r H (Step.refl r H) hr (.val .non)
theorem den_str {x : Str} {j pos} : DenE X W (.Constant (.str x) j pos) (evC (.str x)) := PE.imp pe_str fun σ H Q ⟨r, e, h, er, hr, ok⟩ => ok _ r H (Step.refl r H) hr (.val (.str x))
/-- a constant of the module: a value that needs no heap -/
theorem den_glob {x : Str} {v : V} {u : Value} {d : D} {pos : Pos} (hg : Gl X x) (hm : X.mg x = some u) (rv : RelV v u) (hd : ∀ r H, Rel X.K X.mg r H v d) (hdb : (x == ("__debug__" : Str)) = false := by decide) : DenE X W (.Name x pos) (evC d) :=
  PE.imp (pe_glob hg hm rv hdb) fun σ H Q ⟨r, e, h, er, hr, ok⟩ => ok _ r H (Step.refl r H) hr (.val (hd r H))

/-! ### a list that nobody else holds is laid down -/
def promote (d : D) (h : AH) : Out D := match d with
  | .tl xs => .ok (.ref h.length) (h ++ [.lst xs])
  | d => .ok d h
def pv (f : Ev) : Ev := fun e h => (f e h).bind promote
theorem Step.push {r : List Addr} {H : Hp} {p : Addr} (hp : p ∉ r) {H0 : Hp} {r0 : List Addr} (s : Step r0 H0 r H) (h0 : Fr H0 p) : Step r0 H0 (r ++ [p]) H where
  pre := s.pre.trans (List.prefix_append _ _)
  new := fun a ha hn => by
    rcases List.mem_append.mp ha with z | z
    · exact s.new a z hn
    · rw [List.mem_singleton] at z; rw [z]; exact h0
  keep := s.keep
  stay := s.stay
theorem push_ok {K : PySem.W.Frag} {mg : Str → Option Value} {r : List Addr} {H : Hp} {h : AH} {p : Addr} {vs : List V} {xs : List D} (hr : HRel K mg r h H) (b : H p = some (.lst vs)) (c : p ∉ r) (q : Rels K mg r H vs xs) :
    HRel K mg (r ++ [p]) (h ++ [.lst xs]) H ∧ Rel K mg (r ++ [p]) H (.ref p) (.ref h.length) := by
  have m : Mo r H (r ++ [p]) H := Mo.push b (fun z => z) NoOwn.of
  have hl : (r ++ [p])[h.length]? = some p := by rw [← hr.len, List.getElem?_append_right (Nat.le_refl _), Nat.sub_self]; rfl
  exact ⟨hr.push (ob := .lst xs) c m ⟨vs, b, q.mono m.toMn⟩, .ref hl⟩
end

/-! ### values alone -/
section
variable (K : PySem.W.Frag) (mg : Str → Option Value)
def OkV (W : Wx) (σ : L2.St) (r : List Addr) (H : Hp) (Q : VK) : Out D → Prop
  | .stuck => False
  | .ok d h' => ∀ v r' H', Step r H r' H' → HRel K mg r' h' H' → Rel K mg r' H' v d → Q v H'
  | .exc x h' => ∀ c dx r' H', Step r H r' H' → HRel K mg r' h' H' → ExRel K mg r' H' c dx x → W c dx σ H'
def OkVs (W : Wx) (σ : L2.St) (r : List Addr) (H : Hp) (Q : List V → Hp → Prop) : Out (List D) → Prop
  | .stuck => False
  | .ok d h' => ∀ v r' H', Step r H r' H' → HRel K mg r' h' H' → Rels K mg r' H' v d → Q v H'
  | .exc x h' => ∀ c dx r' H', Step r H r' H' → HRel K mg r' h' H' → ExRel K mg r' H' c dx x → W c dx σ H'
def rdV (W : Wx) (f : Ev) : TE := fun σ H Q => ∃ r e h, ERel K mg r e σ H ∧ HRel K mg r h H ∧ OkV K mg W σ r H Q (f e h)
def rdVs (W : Wx) (f : Av) : TA := fun σ H Q => ∃ r e h, ERel K mg r e σ H ∧ HRel K mg r h H ∧ OkVs K mg W σ r H Q (f e h)
end
section
variable {K : PySem.W.Frag} {mg : Str → Option Value} {W : Wx} {σ : L2.St} {r r' r1 : List Addr} {H H' H1 H0 : Hp} {h : AH} {e : Env}
theorem OkV.after {Q : VK} {o : Out D} (s : Step r H r1 H1) (q : OkV K mg W σ r H Q o) : OkV K mg W σ r1 H1 Q o := by
  cases o with
  | stuck => exact q
  | ok d h' => exact fun v r' H' s' hr t => q v r' H' (s.trans s') hr t
  | exc x h' => exact fun c dx r' H' s' hr t => q c dx r' H' (s.trans s') hr t
theorem OkVs.after {Q : List V → Hp → Prop} {o : Out (List D)} (s : Step r H r1 H1) (q : OkVs K mg W σ r H Q o) : OkVs K mg W σ r1 H1 Q o := by
  cases o with
  | stuck => exact q
  | ok d h' => exact fun v r' H' s' hr t => q v r' H' (s.trans s') hr t
  | exc x h' => exact fun c dx r' H' s' hr t => q c dx r' H' (s.trans s') hr t
theorem OkE.toV {Q : VK} {o : Out D} (q : OkE K mg W σ r H Q o) : OkV K mg W σ r H Q o := by
  cases o with
  | stuck => exact q
  | ok d h' => exact fun v r' H' s' hr t => q v r' H' s' hr (.val t)
  | exc x h' => exact q
/-- the value's step, then the rest, whatever the rest is (G: what is wanted of the rest) -/
theorem rdV_then {f : Ev} {Q' : VK} (er : ERel K mg r e σ H) (hr : HRel K mg r h H) (h0 : f e h ≠ .stuck) (hx : ∀ x h1, f e h = .exc x h1 → ∀ c dx r' H', Step r H r' H' → HRel K mg r' h1 H' → ExRel K mg r' H' c dx x → W c dx σ H')
    (hk : ∀ d h1 v r1 H1, f e h = .ok d h1 → Step r H r1 H1 → HRel K mg r1 h1 H1 → Rel K mg r1 H1 v d → ERel K mg r1 e σ H1 → Q' v H1) : rdV K mg W f σ H Q' := by
  refine ⟨r, e, h, er, hr, ?_⟩
  cases hf : f e h with
  | stuck => exact absurd hf h0
  | ok d h1 => exact fun v r1 H1 s q t => hk d h1 v r1 H1 hf s q t (er.mono s.mn)
  | exc x h1 => exact hx x h1 hf
theorem rdV_bind {f : Ev} {k : D → AH → Out D} {Q Q' : VK} (er : ERel K mg r e σ H) (hr : HRel K mg r h H) (ok : OkE K mg W σ r H Q ((f e h).bind k))
    (hk : ∀ d h1 v r1 H1, Step r H r1 H1 → HRel K mg r1 h1 H1 → Rel K mg r1 H1 v d → ERel K mg r1 e σ H1 → OkE K mg W σ r1 H1 Q (k d h1) → Q' v H1) : rdV K mg W f σ H Q' :=
  rdV_then er hr (fun z => by rw [z] at ok; exact ok) (fun x h1 z => by rw [z] at ok; exact ok) fun d h1 v r1 H1 z s q t e1 => hk d h1 v r1 H1 s q t e1 (by rw [z] at ok; exact OkE.after s ok)
theorem rdV_bindV {f : Ev} {k : D → AH → Out D} {Q Q' : VK} (er : ERel K mg r e σ H) (hr : HRel K mg r h H) (ok : OkV K mg W σ r H Q ((f e h).bind k))
    (hk : ∀ d h1 v r1 H1, Step r H r1 H1 → HRel K mg r1 h1 H1 → Rel K mg r1 H1 v d → ERel K mg r1 e σ H1 → OkV K mg W σ r1 H1 Q (k d h1) → Q' v H1) : rdV K mg W f σ H Q' :=
  rdV_then er hr (fun z => by rw [z] at ok; exact ok) (fun x h1 z => by rw [z] at ok; exact ok) fun d h1 v r1 H1 z s q t e1 => hk d h1 v r1 H1 s q t e1 (by rw [z] at ok; exact OkV.after s ok)
theorem rdV_bindVs {f : Ev} {k : D → AH → Out (List D)} {Q : List V → Hp → Prop} {Q' : VK} (er : ERel K mg r e σ H) (hr : HRel K mg r h H) (ok : OkVs K mg W σ r H Q ((f e h).bind k))
    (hk : ∀ d h1 v r1 H1, Step r H r1 H1 → HRel K mg r1 h1 H1 → Rel K mg r1 H1 v d → ERel K mg r1 e σ H1 → OkVs K mg W σ r1 H1 Q (k d h1) → Q' v H1) : rdV K mg W f σ H Q' :=
  rdV_then er hr (fun z => by rw [z] at ok; exact ok) (fun x h1 z => by rw [z] at ok; exact ok) fun d h1 v r1 H1 z s q t e1 => hk d h1 v r1 H1 s q t e1 (by rw [z] at ok; exact OkVs.after s ok)
theorem rdV_bindS {f : Ev} {k : D → AH → Fl} {N : Ends} {Q' : VK} (er : ERel K mg r e σ H) (hr : HRel K mg r h H) (ok : OkS K mg W r H N ((f e h).toFl e k))
    (hk : ∀ d h1 v r1 H1, Step r H r1 H1 → HRel K mg r1 h1 H1 → Rel K mg r1 H1 v d → ERel K mg r1 e σ H1 → OkS K mg W r1 H1 N (k d h1) → Q' v H1) : rdV K mg W f σ H Q' :=
  rdV_then er hr (fun z => by rw [z] at ok; exact ok) (fun x h1 z => by rw [z] at ok; exact fun c dx r' H' s q t => ok c dx σ r' H' s (er.mono s.mn) q t) fun d h1 v r1 H1 z s q t e1 => hk d h1 v r1 H1 s q t e1 (by rw [z] at ok; exact OkS.after s ok)
theorem rdVs_bind {f : Av} {k : List D → AH → Out D} {Q : VK} {Q' : List V → Hp → Prop} (er : ERel K mg r e σ H) (hr : HRel K mg r h H) (ok : OkE K mg W σ r H Q ((f e h).bind k))
    (hk : ∀ d h1 v r1 H1, Step r H r1 H1 → HRel K mg r1 h1 H1 → Rels K mg r1 H1 v d → ERel K mg r1 e σ H1 → OkE K mg W σ r1 H1 Q (k d h1) → Q' v H1) : rdVs K mg W f σ H Q' := by
  refine ⟨r, e, h, er, hr, ?_⟩
  cases hf : f e h with
  | stuck => rw [hf] at ok; exact ok
  | ok d h1 => rw [hf] at ok; exact fun v r1 H1 s q t => hk d h1 v r1 H1 s q t (er.mono s.mn) (OkE.after s ok)
  | exc x h1 => rw [hf] at ok; exact ok
theorem rdVs_bindVs {f : Av} {k : List D → AH → Out (List D)} {Q Q' : List V → Hp → Prop} (er : ERel K mg r e σ H) (hr : HRel K mg r h H) (ok : OkVs K mg W σ r H Q ((f e h).bind k))
    (hk : ∀ d h1 v r1 H1, Step r H r1 H1 → HRel K mg r1 h1 H1 → Rels K mg r1 H1 v d → ERel K mg r1 e σ H1 → OkVs K mg W σ r1 H1 Q (k d h1) → Q' v H1) : rdVs K mg W f σ H Q' := by
  refine ⟨r, e, h, er, hr, ?_⟩
  cases hf : f e h with
  | stuck => rw [hf] at ok; exact ok
  | ok d h1 => rw [hf] at ok; exact fun v r1 H1 s q t => hk d h1 v r1 H1 s q t (er.mono s.mn) (OkVs.after s ok)
  | exc x h1 => rw [hf] at ok; exact ok
end
abbrev DenV (X : Cx) (W : Wx) (e : Expr) (f : Ev) : Prop := PE X e (rdV X.K X.mg W f)
abbrev DenVs (X : Cx) (W : Wx) (es : List Expr) (f : Av) : Prop := PA X es (rdVs X.K X.mg W f)
section
variable {X : Cx} {W : Wx}
theorem den_pv {ex : Expr} {f : Ev} (hf : DenE X W ex f) : DenV X W ex (pv f) := PE.imp hf fun σ H Q ⟨r, e, h, er, hr, ok⟩ => by
  unfold pv at ok
  refine ⟨r, e, h, er, hr, ?_⟩
  cases hf : f e h with
  | stuck => rw [hf] at ok; exact ok
  | exc x h1 => rw [hf] at ok; exact ok
  | ok d h1 =>
    rw [hf] at ok
    intro v r1 H1 s hr1 t
    cases t with
    | @val v d q =>
      have e : promote d h1 = .ok d h1 := by cases q <;> rfl
      rw [Out.bind_ok, e] at ok
      exact ok v r1 H1 s hr1 q
    | @tl p vs xs a b c q =>
      obtain ⟨g1, g2⟩ := push_ok hr1 b c q
      exact ok _ _ _ (Step.push c s a) g1 g2
/-- a value is an expression's end too -/
theorem DenV.e {ex : Expr} {f : Ev} (hf : DenV X W ex f) : DenE X W ex f := PE.imp hf fun σ H Q ⟨r, e, h, er, hr, ok⟩ => ⟨r, e, h, er, hr, OkE.toV ok⟩

/-! ### rows of expressions -/
def evs : List Ev → Av
  | [], _, h => .ok [] h
  | f :: fs, e, h => (f e h).bind fun d h1 => (evs fs e h1).bind fun ds h2 => .ok (d :: ds) h2
def evsV : List Ev → Av
  | [], _, h => .ok [] h
  | f :: fs, e, h => (pv f e h).bind fun d h1 => (evsV fs e h1).bind fun ds h2 => .ok (d :: ds) h2
theorem den_nil : DenA X W [] (evs []) := PA.imp pa_nil fun σ H Q ⟨r, e, h, er, hr, ok⟩ => ok _ r H (Step.refl r H) hr .nil
theorem den_cons {ex : Expr} {es : List Expr} {f : Ev} {fs : List Ev} (hf : DenE X W ex f) (hfs : DenA X W es (evs fs)) (hs : starEach (ex :: es) X.env = (false, eval ex X.env) :: starEach es X.env := by rfl) : DenA X W (ex :: es) (evs (f :: fs)) :=
  PA.imp (pa_cons hf hfs hs) fun σ H Q ⟨r, e, h, er, hr, ok⟩ => by
    unfold evs at ok
    refine rdE_bindA er hr ok fun d h1 v r1 H1 s1 hr1 t1 er1 ok1 => ?_
    refine rdA_bindA er1 hr1 ok1 fun ds h2 vs r2 H2 s2 hr2 t2 er2 ok2 => ?_
    exact ok2 _ r2 H2 (Step.refl _ _) hr2 (.cons (t1.mono s2).u t2)
theorem den_nilV : DenVs X W [] (evsV []) := PA.imp pa_nil fun σ H Q ⟨r, e, h, er, hr, ok⟩ => ok _ r H (Step.refl r H) hr .nil
theorem den_consV {ex : Expr} {es : List Expr} {f : Ev} {fs : List Ev} (hf : DenE X W ex f) (hfs : DenVs X W es (evsV fs)) (hs : starEach (ex :: es) X.env = (false, eval ex X.env) :: starEach es X.env := by rfl) : DenVs X W (ex :: es) (evsV (f :: fs)) :=
  PA.imp (pa_cons (den_pv hf) hfs hs) fun σ H Q ⟨r, e, h, er, hr, ok⟩ => by
    unfold evsV at ok
    refine rdV_bindVs er hr ok fun d h1 v r1 H1 s1 hr1 t1 er1 ok1 => ?_
    refine rdVs_bindVs er1 hr1 ok1 fun ds h2 vs r2 H2 s2 hr2 t2 er2 ok2 => ?_
    exact ok2 _ r2 H2 (Step.refl _ _) hr2 (.cons (t1.mono s2.mn) t2)
/-! ### tuples and lists written out -/
def evTup (fs : List Ev) : Ev := fun e h => (evsV fs e h).bind fun ds h1 => if ds.length ≤ 16777216 then .ok (.tup ds) h1 else .stuck
def evLst (fs : List Ev) : Ev := fun e h => (evsV fs e h).bind fun ds h1 => if ds.length ≤ 16777216 then .ok (.tl ds) h1 else .stuck
theorem den_tup {es : List Expr} {fs : List Ev} {k : Nat} {pos : Pos} (h : DenVs X W es (evsV fs)) : DenE X W (.Tuple es k pos) (evTup fs) := PE.imp (pe_tup h) fun σ H Q ⟨r, e, h, er, hr, ok⟩ => by
  unfold evTup at ok
  refine rdVs_bind er hr ok fun ds h1 vs r1 H1 s1 hr1 t1 er1 ok1 => ?_
  split at ok1
  · rename_i hz
    refine ⟨by rw [t1.length]; exact hz, fun p hp => ?_⟩
    have s2 : Step r1 H1 r1 (upd H1 p (.tup vs)) := Step.alloc hp
    exact ok1 _ r1 _ s2 (hr1.alloc hp) (.val (.tup ⟨fun z => hr1.there z hp, upd_same⟩ (t1.mono s2.mn)))
  · exact ok1.elim
theorem den_lst {es : List Expr} {fs : List Ev} {pos : Pos} (h : DenVs X W es (evsV fs)) : DenE X W (.List es pos) (evLst fs) := PE.imp (pe_lst h) fun σ H Q ⟨r, e, h, er, hr, ok⟩ => by
  unfold evLst at ok
  refine rdVs_bind er hr ok fun ds h1 vs r1 H1 s1 hr1 t1 er1 ok1 => ?_
  split at ok1
  · rename_i hz
    refine ⟨by rw [t1.length]; exact hz, fun p hp => ?_⟩
    have s2 : Step r1 H1 r1 (upd H1 p (.lst vs)) := Step.alloc hp
    exact ok1 _ r1 _ s2 (hr1.alloc hp) (.tl (.of hp) upd_same (fun z => hr1.there z hp) (t1.mono s2.mn))
  · exact ok1.elim
end
end BW

set_option Elab.async false
set_option linter.all false
set_option maxRecDepth 100000
set_option maxHeartbeats 4000000
namespace BW
open PySem PySem.Spec PyProof.Rows L2
variable [Tb]

def ofO (o : Option D) (h : AH) : Out D := match o with
  | some d => .ok d h
  | none => .stuck
theorem nrfl {α : Sort u} {a b : α} (h : a = b) : a = b := h
@[simp] theorem ofO_some (d : D) (h : AH) : ofO (some d) h = .ok d h := nrfl rfl
@[simp] theorem ofO_none (h : AH) : ofO none h = .stuck := nrfl rfl

section
variable (K : PySem.W.Frag) (mg : Str → Option Value)
/-- an operation upon two values, upon a row of values, that leaves the heap -/
def rdO (g : AH → D → D → Option D) : R2 := fun x y H Q => ∃ r h dx dy d, HRel K mg r h H ∧ RelU K mg r H x dx ∧ RelU K mg r H y dy ∧ g h dx dy = some d ∧ ∀ v H', Step r H r H' → HRel K mg r h H' → RelT K mg H r H' v d → Q v H'
def rdC (g : AH → List D → Option D) : List V → Hp → VK → Prop := fun vs H Q => ∃ r h ds d, HRel K mg r h H ∧ RelTs K mg r H vs ds ∧ g h ds = some d ∧ ∀ v H', Step r H r H' → HRel K mg r h H' → RelT K mg H r H' v d → Q v H'
end
abbrev OpD (X : Cx) (f : Value → Value → Sem Value) (g : AH → D → D → Option D) : Prop := OpR X f (rdO X.K X.mg g)
abbrev CallD (X : Cx) (f : Value) (g : AH → List D → Option D) : Prop := CallR X f (rdC X.K X.mg g)

def evOp (g : AH → D → D → Option D) (fa fb : Ev) : Ev := fun e h => (fa e h).bind fun x h1 => (fb e h1).bind fun y h2 => ofO (g h2 x y) h2
def evB (g : AH → List D → Option D) (fs : List Ev) : Ev := fun e h => (evs fs e h).bind fun ds h1 => ofO (g h1 ds) h1

section
variable {X : Cx} {W : Wx}
theorem rdO_of {K : PySem.W.Frag} {mg : Str → Option Value} {g : AH → D → D → Option D} {fa fb : Ev} {σ : L2.St} {H : Hp} {Q : VK} (q : rdE K mg W (evOp g fa fb) σ H Q) : tOp (rdO K mg g) (rdE K mg W fa) (rdE K mg W fb) σ H Q := by
  obtain ⟨r, e, h, er, hr, ok⟩ := q
  unfold evOp at ok
  refine rdE_bind er hr ok fun x h1 v r1 H1 s1 hr1 t1 er1 ok1 => ?_
  refine rdE_bind er1 hr1 ok1 fun y h2 w r2 H2 s2 hr2 t2 er2 ok2 => ?_
  cases hg : g h2 x y with
  | none => rw [hg] at ok2; exact ok2.elim
  | some d =>
    rw [hg] at ok2
    exact ⟨r2, h2, x, y, d, hr2, (t1.mono s2).u, t2.u, hg, fun v H' s q t => ok2 v r2 H' s q t⟩
theorem den_op {a b : Expr} {op : Operator} {pos : Pos} {g : AH → D → D → Option D} {fa fb : Ev} (ho : OpD X (binaryOp op) g) (ha : DenE X W a fa) (hb : DenE X W b fb) : DenE X W (.BinOp a op b pos) (evOp g fa fb) :=
  PE.imp (pe_op ho ha hb) fun σ H Q q => rdO_of q
theorem den_cmp {a b : Expr} {op : CmpOp} {pos : Pos} {g : AH → D → D → Option D} {fa fb : Ev} (ho : OpD X (compareOp op) g) (ha : DenE X W a fa) (hb : DenE X W b fb) (hm : behindInMarks op b = false := by first | exact nomark _ | rfl) : DenE X W (.Compare a [op] [b] pos) (evOp g fa fb) :=
  PE.imp (pe_cmpR ho ha hb hm) fun σ H Q q => rdO_of q
/-- an own text for a built-in -/
theorem rdC_of {K : PySem.W.Frag} {mg : Str → Option Value} {g : AH → List D → Option D} {fs : List Ev} {σ : L2.St} {H : Hp} {Q : VK} (q : rdE K mg W (evB g fs) σ H Q) : tCB (rdC K mg g) (rdA K mg W (evs fs)) σ H Q := by
  obtain ⟨r, e, h, er, hr, ok⟩ := q
  unfold evB at ok
  refine rdA_bindE er hr ok fun x h1 v r1 H1 s1 hr1 t1 er1 ok1 => ?_
  cases hg : g h1 x with
  | none => rw [hg] at ok1; exact ok1.elim
  | some d =>
    rw [hg] at ok1
    exact ⟨r1, h1, x, d, hr1, t1, hg, fun v H' s q t => ok1 v r1 H' s q t⟩
theorem den_callB {x : Str} {id : String} {ex : Expr} {es : List Expr} {p pos : Pos} {g : AH → List D → Option D} {fs : List Ev} (hc : CallD X (.builtin id) g) (hg : Gl X x) (hm : X.mg x = none) (hv : bootBuiltins x = some (.builtin id)) (ha : DenA X W (ex :: es) (evs fs))
    (hn : x ≠ "__name__" := by decide) (hdb : (x == ("__debug__" : Str)) = false := by decide) (he : starEach (ex :: es) X.env = (false, eval ex X.env) :: starEach es X.env := by rfl) (hpl : (backTo pos (starEach es X.env)).any (·.1) = false := by rfl) :
    DenE X W (.Call (.Name x p) (ex :: es) [] pos) (evB g fs) :=
  PE.imp (pe_callB hc hg hm hv ha hn hdb he hpl) fun σ H Q q => rdC_of q
theorem den_callTy {x : Str} {T : String} {ex : Expr} {es : List Expr} {p pos : Pos} {g : AH → List D → Option D} {fs : List Ev} (hc : CallD X (.type T) g) (hg : Gl X x) (hm : X.mg x = none) (hv : bootBuiltins x = some (.type T)) (ha : DenA X W (ex :: es) (evs fs))
    (hn : x ≠ "__name__" := by decide) (hdb : (x == ("__debug__" : Str)) = false := by decide) (he : starEach (ex :: es) X.env = (false, eval ex X.env) :: starEach es X.env := by rfl) (hpl : (backTo pos (starEach es X.env)).any (·.1) = false := by rfl) :
    DenE X W (.Call (.Name x p) (ex :: es) [] pos) (evB g fs) :=
  PE.imp (pe_callTy hc hg hm hv ha hn hdb he hpl) fun σ H Q q => rdC_of q
theorem OpR.or {f : Value → Value → Sem Value} {r1 r2 : R2} (a : OpR X f r1) (b : OpR X f r2) : OpR X f (fun x y H Q => r1 x y H Q ∨ r2 x y H Q) := fun pins s σ H x y v u Q I rx ry q => by
  rcases q with q | q
  · exact a pins s σ H x y v u Q I rx ry q
  · exact b pins s σ H x y v u Q I rx ry q
theorem OpR.imp {f : Value → Value → Sem Value} {r1 r2 : R2} (a : OpR X f r1) (q : ∀ x y H Q, r2 x y H Q → r1 x y H Q) : OpR X f r2 := fun pins s σ H x y v u Q I rx ry z => a pins s σ H x y v u Q I rx ry (q x y H Q z)
theorem CallR.or {f : Value} {r1 r2 : List V → Hp → VK → Prop} (a : CallR X f r1) (b : CallR X f r2) : CallR X f (fun x H Q => r1 x H Q ∨ r2 x H Q) := fun pins s σ H xs us Q I rx q => by
  rcases q with q | q
  · exact a pins s σ H xs us Q I rx q
  · exact b pins s σ H xs us Q I rx q
theorem CallR.imp {f : Value} {r1 r2 : List V → Hp → VK → Prop} (a : CallR X f r1) (q : ∀ x H Q, r2 x H Q → r1 x H Q) : CallR X f r2 := fun pins s σ H xs us Q I rx z => a pins s σ H xs us Q I rx (q xs H Q z)

/-! ### lists and tuples as they are read -/
theorem RelU.tup_inv {K : PySem.W.Frag} {mg : Str → Option Value} {r : List Addr} {H : Hp} {v : V} {xs : List D} (q : RelU K mg r H v (.tup xs)) : ∃ a vs, v = .ref a ∧ SqTr K H r a vs ∧ Rels K mg r H vs xs := by
  cases q with
  | val q => cases q with
    | tup h1 h2 => exact ⟨_, _, rfl, h1, h2⟩
/-- the items of a list -/
def lstOf (h : AH) : D → Option (List D)
  | .tl xs => some xs
  | .ref n => match h[n]? with
    | some (.lst xs) => some xs
    | _ => none
  | _ => none
/-- the items of a list that may be the script's -/
def lstOfR (h : AH) : D → Option (List D)
  | .tl xs => some xs
  | .rl xs => some xs
  | .ref n => match h[n]? with
    | some (.lst xs) => some xs
    | _ => none
  | _ => none
theorem lstOf_inv {K : PySem.W.Frag} {mg : Str → Option Value} {r : List Addr} {h : AH} {H : Hp} {v : V} {d : D} {xs : List D} (hr : HRel K mg r h H) (q : RelU K mg r H v d) (e : lstOf h d = some xs) : ∃ a vs, v = .ref a ∧ H a = some (.lst vs) ∧ Rels K mg r H vs xs := by
  cases q with
  | tl a b c q => cases e; exact ⟨_, _, rfl, b, q⟩
  | val q => cases q with
    | @ref n a hn =>
      simp only [lstOf] at e
      · split at e
        · rename_i ys hy
          cases e
          obtain ⟨vs, h1, h2⟩ := hr.obj _ _ _ hy hn
          exact ⟨_, vs, rfl, h1, h2⟩
        · cases e
    | _ => cases e
theorem lstOfR_inv {K : PySem.W.Frag} {mg : Str → Option Value} {r : List Addr} {h : AH} {H : Hp} {v : V} {d : D} {xs : List D} (hr : HRel K mg r h H) (q : RelU K mg r H v d) (e : lstOfR h d = some xs) : ∃ a vs, v = .ref a ∧ SqL K H a vs ∧ Rels K mg r H vs xs := by
  cases q with
  | tl a b c q => cases e; exact ⟨_, _, rfl, .inl (.inl b), q⟩
  | val q => cases q with
    | @ref n a hn =>
      simp only [lstOfR] at e
      · split at e
        · rename_i ys hy
          cases e
          obtain ⟨vs, h1, h2⟩ := hr.obj _ _ _ hy hn
          exact ⟨_, vs, rfl, .inl (.inl h1), h2⟩
        · cases e
    | rl h1 h2 => cases e; exact ⟨_, _, rfl, h1.sq, h2⟩
    | _ => cases e

theorem newT {K : PySem.W.Frag} {mg : Str → Option Value} {r : List Addr} {h : AH} {H : Hp} {p : Addr} {vs : List V} {xs : List D} {Q : VK} (hr : HRel K mg r h H) (hp : H p = none) (q : Rels K mg r H vs xs)
    (k : ∀ v H', Step r H r H' → HRel K mg r h H' → RelT K mg H r H' v (.tup xs) → Q v H') : Q (.ref p) (upd H p (.tup vs)) := by
  have s : Step r H r (upd H p (.tup vs)) := Step.alloc hp
  exact k _ _ s (hr.alloc hp) (.val (.tup ⟨fun z => hr.there z hp, upd_same⟩ (q.mono s.mn)))
theorem newL {K : PySem.W.Frag} {mg : Str → Option Value} {r : List Addr} {h : AH} {H : Hp} {p : Addr} {vs : List V} {xs : List D} {Q : VK} (hr : HRel K mg r h H) (hp : H p = none) (q : Rels K mg r H vs xs)
    (k : ∀ v H', Step r H r H' → HRel K mg r h H' → RelT K mg H r H' v (.tl xs) → Q v H') : Q (.ref p) (upd H p (.lst vs)) := by
  have s : Step r H r (upd H p (.lst vs)) := Step.alloc hp
  exact k _ _ s (hr.alloc hp) (.tl (.of hp) upd_same (fun z => hr.there z hp) (q.mono s.mn))

/-! ### arithmetic -/
def opAdd (h : AH) : D → D → Option D
  | .int a, .int b => some (.int (a + b))
  | .str a, .str b => if a.length + b.length ≤ sizeLine then some (.str (a ++ b)) else none
  | .tup a, .tup b => if a.length + b.length ≤ sizeLine then some (.tup (a ++ b)) else none
  | a, b => match lstOf h a, lstOf h b with
    | some xs, some ys => if xs.length + ys.length ≤ sizeLine then some (.tl (xs ++ ys)) else none
    | _, _ => none
def opSub (_ : AH) : D → D → Option D
  | .int a, .int b => some (.int (a - b))
  | _, _ => none
def smallI (i : Int) : Bool := decide (-(2 ^ 64) < i) && decide (i < 2 ^ 64)
def opMul (h : AH) : D → D → Option D
  | .int a, .int b => if smallI a || smallI b then some (.int (a * b)) else none
  | .tup xs, .int k => if k = 1 then some (.tup xs) else if xs ≠ [] ∧ 2 ≤ k ∧ k ≤ 1000 ∧ xs.length ≤ 1000 then some (.tup (List.replicate k.toNat xs).flatten) else none
  | a, .int k => match lstOf h a with
    | some xs => if -(2 ^ 63) ≤ k ∧ k < 2 ^ 63 ∧ xs.length * k.toNat ≤ sizeLine then some (.tl (List.replicate k.toNat xs).flatten) else none
    | none => none
  | _, _ => none
def opMod (_ : AH) : D → D → Option D
  | .int a, .int b => if 0 < b then some (.int (a % b)) else none
  | _, _ => none
def opFdiv (_ : AH) : D → D → Option D
  | .int a, .int b => if 0 < b ∧ b.natAbs.log2 < 9000 then some (.int (a / b)) else none
  | _, _ => none
def opPow (_ : AH) : D → D → Option D
  | .int a, .int b => if 0 ≤ b ∧ b ≤ 1000 ∧ a.natAbs < 2 ^ 1000 then some (.int (a ^ b.toNat)) else none
  | _, _ => none
theorem RelU.int_inv {K : PySem.W.Frag} {mg : Str → Option Value} {r : List Addr} {H : Hp} {v : V} {i : Int} (q : RelU K mg r H v (.int i)) : v = .int i := by
  cases q with
  | val q => cases q; rfl
theorem RelU.str_inv {K : PySem.W.Frag} {mg : Str → Option Value} {r : List Addr} {H : Hp} {v : V} {i : Str} (q : RelU K mg r H v (.str i)) : v = .str i := by
  cases q with
  | val q => cases q; rfl
theorem RelU.bl_inv {K : PySem.W.Frag} {mg : Str → Option Value} {r : List Addr} {H : Hp} {v : V} {i : Bool} (q : RelU K mg r H v (.bl i)) : v = .bl i := by
  cases q with
  | val q => cases q; rfl
theorem opd_sub : OpD X (binaryOp .Sub) opSub := OpR.imp op_sub fun x y H Q ⟨r, h, dx, dy, d, hr, tx, ty, hg, q⟩ => by
  unfold opSub at hg
  split at hg
  · cases hg; exact ⟨_, _, tx.int_inv, ty.int_inv, q _ H (Step.refl r H) hr (.val (.int _))⟩
  · cases hg
theorem opd_mod : OpD X (binaryOp .Mod) opMod := OpR.imp op_mod fun x y H Q ⟨r, h, dx, dy, d, hr, tx, ty, hg, q⟩ => by
  unfold opMod at hg
  split at hg
  · split at hg
    · cases hg; exact ⟨_, _, tx.int_inv, ty.int_inv, by assumption, q _ H (Step.refl r H) hr (.val (.int _))⟩
    · cases hg
  · cases hg
theorem opd_fdiv : OpD X (binaryOp .FloorDiv) opFdiv := OpR.imp op_fdivW fun x y H Q ⟨r, h, dx, dy, d, hr, tx, ty, hg, q⟩ => by
  unfold opFdiv at hg
  split at hg
  · split at hg
    · cases hg; exact ⟨_, _, tx.int_inv, ty.int_inv, by assumption, q _ H (Step.refl r H) hr (.val (.int _))⟩
    · cases hg
  · cases hg
def CPowW (i j : Int) : Prop := 0 ≤ j ∧ j ≤ 1000 ∧ i.natAbs < 2 ^ 1000
theorem op_powW : OpR X (binaryOp .Pow) (rI CPowW fun i j => .int (i ^ j.toNat)) := opI fun i j _ _ _ _ _ hc q => pow_int hc.1 (by
  have hb : Builtin.Int.intBits i ≤ 1000 := intBits_le hc.2.2
  have h0 : (0 : Int) ≤ j := hc.1
  have hj : j ≤ 1000 := hc.2.1
  have h1 : (Builtin.Int.intBits i : Int) * j ≤ 1000 * j := Int.mul_le_mul_of_nonneg_right (by omega) h0
  omega) q
theorem opd_pow : OpD X (binaryOp .Pow) opPow := OpR.imp op_powW fun x y H Q ⟨r, h, dx, dy, d, hr, tx, ty, hg, q⟩ => by
  unfold opPow at hg
  split at hg
  · split at hg
    · cases hg; exact ⟨_, _, tx.int_inv, ty.int_inv, by assumption, q _ H (Step.refl r H) hr (.val (.int _))⟩
    · cases hg
  · cases hg
theorem Rels.flat {K : PySem.W.Frag} {mg : Str → Option Value} {r : List Addr} {H : Hp} {vs : List V} {xs : List D} (q : Rels K mg r H vs xs) : ∀ n : Nat, Rels K mg r H (List.replicate n vs).flatten (List.replicate n xs).flatten
  | 0 => .nil
  | n + 1 => by
    rw [List.replicate_succ, List.replicate_succ, List.flatten_cons, List.flatten_cons]
    exact q.append (Rels.flat q n)
theorem Rels.nil_iff {K : PySem.W.Frag} {mg : Str → Option Value} {r : List Addr} {H : Hp} {vs : List V} {xs : List D} (q : Rels K mg r H vs xs) : vs = [] ↔ xs = [] := by
  cases q <;> simp
theorem opd_add : OpD X (binaryOp .Add) opAdd := OpR.imp (OpR.or (OpR.or op_add op_add_str) (OpR.or op_catA op_cat)) fun x y H Q ⟨r, h, dx, dy, d, hr, tx, ty, hg, q⟩ => by
  unfold opAdd at hg
  split at hg
  · cases hg; exact .inl (.inl ⟨_, _, tx.int_inv, ty.int_inv, q _ H (Step.refl r H) hr (.val (.int _))⟩)
  · split at hg
    · cases hg; exact .inl (.inr ⟨_, _, tx.str_inv, ty.str_inv, by assumption, q _ H (Step.refl r H) hr (.val (.str _))⟩)
    · cases hg
  · split at hg
    · rename_i hz
      cases hg
      obtain ⟨a, vs, rfl, h1, h2⟩ := tx.tup_inv
      obtain ⟨b, ws, rfl, h3, h4⟩ := ty.tup_inv
      refine .inr (.inl ⟨a, b, vs, ws, rfl, rfl, h1.sq, h3.sq, by rw [h2.length, h4.length]; exact hz, fun z => ?_, fun z1 z2 => ?_, fun z1 z2 p hp => ?_⟩)
      · rw [h2.nil_iff.mp z] at q
        exact q _ H (Step.refl r H) hr (.val (.tup h3 h4))
      · rw [h4.nil_iff.mp z2, List.append_nil] at q
        exact q _ H (Step.refl r H) hr (.val (.tup h1 h2))
      · exact newT hr hp (h2.append h4) q
    · cases hg
  · split at hg
    · rename_i xs ys ex ey
      split at hg
      · rename_i hz
        cases hg
        obtain ⟨a, vs, rfl, h1, h2⟩ := lstOf_inv hr tx ex
        obtain ⟨b, ws, rfl, h3, h4⟩ := lstOf_inv hr ty ey
        refine .inr (.inr ⟨a, b, vs, ws, rfl, rfl, h1, h3, by rw [h2.length, h4.length]; exact hz, fun p hp => ?_⟩)
        exact newL hr hp (h2.append h4) q
      · cases hg
    · cases hg
theorem smallI_ok {i : Int} (h : smallI i = true) : -(2 ^ 64) < i ∧ i < 2 ^ 64 := by
  unfold smallI at h
  simpa [Bool.and_eq_true, decide_eq_true_eq] using h
/-- a tuple times one is itself -/
theorem tuple_mul1 (l : Addr) (items : Array Value) (n : Nat) (dd : Option Addr) (sl : Array (Option Value)) (u : Tok) :
    Meets (Builtin.«tuple.__mul__» ⟨[.ref l, .int 1 u], []⟩) (fun _ R s => s.heap.get? l = some { cls := .type "tuple", dict := dd, data := .seq items n, slots := sl } ∧ R (.ok (.ret (Value.ref l))) s) :=
  .of_wp fun prog w A R s h => by
    obtain ⟨hp, g, d, tk, os⟩ := s
    obtain ⟨hl, h⟩ := h
    have f1 := AutoSeq1.idx_int
    have c1 : (items.isEmpty || (1 : Int) == 1) = true := by simp
    wp_walk using wpAny_loadPart' hl
    repeat (first | (refine wpAny_ite_true (decide_eq_true c1) ?_; wp_walk using wpAny_loadPart' hl) | (refine wpAny_ite_false (decide_eq_false (by decide)) ?_; wp_walk using wpAny_loadPart' hl))
    wp_walk using wpAny_loadPart' hl
    exact ⟨_, rfl, h⟩
theorem op_rep1 : OpR X (binaryOp .Mult) (fun x y H Q => ∃ l xs, x = .ref l ∧ y = .int 1 ∧ SqT X.K H l xs ∧ Q (.ref l) H) := by
  intro pins s σ H x y v u Q I rx ry h
  obtain ⟨l, xs, rfl, rfl, hT, q⟩ := h
  cases rx
  obtain ⟨t, rfl⟩ := ry
  obtain ⟨its, r, ⟨⟨cls, dd, data, sl⟩, ho, hc, n, hd⟩, hs⟩ := I.tuple hT
  simp only at hc hd
  subst hc hd
  refine wpAny_binaryOp_repeat_ref (T := "tuple") (U := "int") (by decide) ⟨_, ho, rfl⟩ (fun s' => typeIs_int s' 1 t) noFill_tuple_mul F.fills_int_mul F.slot_int_rmul repeat_tuple F.slot_int_index.lookup
    (call_meets F.slot_int_rmul (typeIs_int s 1 t) F.entry_int_rmul (F.args_int_rmul_2 _ _) (int_rmul_tuple 1 t l its.toArray n dd sl)
      ⟨ho, rfl, ⟨_, ho, rfl⟩, call_meets F.slot_tuple_mul ⟨_, ho, rfl⟩ F.entry_tuple_mul (F.args_tuple_mul_2 _ _) (tuple_mul1 l its.toArray n dd sl t) ⟨ho, ?_⟩⟩)
  exact ⟨.ref l, H, I, rfl, q⟩
theorem opd_mul : OpD X (binaryOp .Mult) opMul := OpR.imp (OpR.or op_mul (OpR.or op_rep1 (OpR.or op_repT op_rep))) fun x y H Q ⟨r, h, dx, dy, d, hr, tx, ty, hg, q⟩ => by
  unfold opMul at hg
  split at hg
  · split at hg
    · rename_i hc
      cases hg
      refine .inl ⟨_, _, tx.int_inv, ty.int_inv, ?_, q _ H (Step.refl r H) hr (.val (.int _))⟩
      rcases Bool.or_eq_true_iff.mp hc with z | z
      · exact .inl (smallI_ok z)
      · exact .inr (smallI_ok z)
    · cases hg
  · split at hg
    · rename_i hc
      cases hg
      subst hc
      obtain ⟨a, vs, rfl, h1, h2⟩ := tx.tup_inv
      exact .inr (.inl ⟨a, vs, rfl, ty.int_inv, h1.sq, q _ H (Step.refl r H) hr (.val (.tup h1 h2))⟩)
    · split at hg
      · rename_i hc
        cases hg
        obtain ⟨a, vs, rfl, h1, h2⟩ := tx.tup_inv
        refine .inr (.inr (.inl ⟨a, _, vs, rfl, ty.int_inv, h1.sq, fun z => hc.1 (h2.nil_iff.mp z), hc.2.1, hc.2.2.1, by rw [h2.length]; exact hc.2.2.2, fun p hp => ?_⟩))
        exact newT hr hp (h2.flat _) q
      · cases hg
  · split at hg
    · rename_i xs ex
      split at hg
      · rename_i hc
        cases hg
        obtain ⟨a, vs, rfl, h1, h2⟩ := lstOf_inv hr tx ex
        refine .inr (.inr (.inr ⟨a, _, vs, rfl, ty.int_inv, h1, hc.1, hc.2.1, by rw [h2.length]; exact hc.2.2, fun p hp => ?_⟩))
        exact newL hr hp (h2.flat _) q
      · cases hg
    · cases hg
  · cases hg
end
end BW

set_option Elab.async false
set_option linter.all false
set_option maxRecDepth 100000
set_option maxHeartbeats 4000000
namespace BW
open PySem PySem.Spec PyProof.Rows L2
variable [Tb]

/-! ### values as data -/
def allK {α β : Type} (f : α → Option β) : List α → Option (List β)
  | [] => some []
  | x :: xs => match f x, allK f xs with
    | some y, some ys => some (y :: ys)
    | _, _ => none
def dataK (h : AH) : Nat → D → Option PyData
  | _, .non => some .none
  | _, .bl b => some (.bool b)
  | _, .int i => some (.int i)
  | _, .str x => if PyData.strOk x = true then some (.str x) else none
  | n + 1, .tup xs => (allK (dataK h n) xs).map .tuple
  | n + 1, .tl xs => (allK (dataK h n) xs).map .list
  | n + 1, .rl xs => (allK (dataK h n) xs).map .list
  | n + 1, .ref k => match h[k]? with
    | some (.lst xs) => (allK (dataK h n) xs).map .list
    | _ => none
  | _, _ => none
theorem allK_shape {f : D → Option PyData} {P : PyData → Prop} (hf : ∀ x y, f x = some y → P y) : ∀ {xs : List D} {ys : List PyData}, allK f xs = some ys → ∀ y ∈ ys, P y
  | [], _, e, y, hy => by cases e; cases hy
  | x :: xs, _, e, y, hy => by
    unfold allK at e
    split at e
    · rename_i a as h1 h2
      cases e
      rcases List.mem_cons.mp hy with rfl | hy
      · exact hf _ _ h1
      · exact allK_shape hf h2 y hy
    · cases e
theorem canAll : ∀ {ys : List PyData}, (∀ y ∈ ys, PyData.canLay0 y = true) → PyData.canLayAll0 ys = true
  | [], _ => by simp [PyData.canLayAll0]
  | y :: ys, h => by simp [PyData.canLayAll0, h y List.mem_cons_self, canAll fun z hz => h z (List.mem_cons_of_mem _ hz)]
theorem depthAll_le {n : Nat} : ∀ {ys : List PyData}, (∀ y ∈ ys, y.depth ≤ n) → PyData.depthAll ys ≤ n
  | [], _ => by simp [PyData.depthAll]
  | y :: ys, h => by
    have h1 := h y List.mem_cons_self
    have h2 := depthAll_le fun z hz => h z (List.mem_cons_of_mem _ hz)
    simp [PyData.depthAll]; omega
theorem dataK_shape (h : AH) : ∀ (n : Nat) (d : D) (p : PyData), dataK h n d = some p → PyData.canLay0 p = true ∧ p.depth ≤ n := by
  intro n
  induction n with
  | zero =>
    intro d p e
    cases d <;> simp only [dataK] at e <;> first | (cases e; done) | (cases e; simp [PyData.canLay0, PyData.depth]; done) | skip
    split at e
    · cases e; rename_i hs; exact ⟨by simp [PyData.canLay0, hs], by simp [PyData.depth]⟩
    · cases e
  | succ n ih =>
    have list_ok : ∀ {xs : List D} {ys : List PyData}, allK (dataK h n) xs = some ys → PyData.canLayAll0 ys = true ∧ PyData.depthAll ys ≤ n := fun e =>
      ⟨canAll (allK_shape (fun x y z => (ih x y z).1) e), depthAll_le (allK_shape (fun x y z => (ih x y z).2) e)⟩
    intro d p e
    cases d with
    | str x =>
      simp only [dataK] at e
      split at e
      · cases e; rename_i hs; exact ⟨by simp [PyData.canLay0, hs], by simp [PyData.depth]⟩
      · cases e
    | tup xs =>
      simp only [dataK, Option.map_eq_some_iff] at e
      obtain ⟨ys, e1, rfl⟩ := e
      have := list_ok e1
      exact ⟨by simp [PyData.canLay0, this.1], by simp [PyData.depth]; omega⟩
    | tl xs =>
      simp only [dataK, Option.map_eq_some_iff] at e
      obtain ⟨ys, e1, rfl⟩ := e
      have := list_ok e1
      exact ⟨by simp [PyData.canLay0, this.1], by simp [PyData.depth]; omega⟩
    | ref k =>
      simp only [dataK] at e
      split at e
      · simp only [Option.map_eq_some_iff] at e
        obtain ⟨ys, e1, rfl⟩ := e
        have := list_ok e1
        exact ⟨by simp [PyData.canLay0, this.1], by simp [PyData.depth]; omega⟩
      · cases e
    | rl xs =>
      simp only [dataK, Option.map_eq_some_iff] at e
      obtain ⟨ys, e1, rfl⟩ := e
      have := list_ok e1
      exact ⟨by simp [PyData.canLay0, this.1], by simp [PyData.depth]; omega⟩
    | exc c xs => cases e
    | kt xs => cases e
    | _ => simp only [dataK] at e; cases e; simp [PyData.canLay0, PyData.depth]
section
variable {K : PySem.W.Frag} {mg : Str → Option Value} {r : List Addr} {h : AH} {H : Hp}
theorem dp_all {n : Nat} (ih : ∀ (d : D) (p : PyData) (v : V), dataK h n d = some p → Rel K mg r H v d → Dp K H v p) : ∀ {vs : List V} {xs : List D} {ps : List PyData}, Rels K mg r H vs xs → allK (dataK h n) xs = some ps → DpAll K H vs ps
  | _, _, _, .nil, e => by cases e; exact .nil
  | _, _, _, .cons q t, e => by
    unfold allK at e
    split at e
    · rename_i a as h1 h2
      cases e
      exact .cons (ih _ _ _ h1 q) (dp_all ih t h2)
    · cases e
theorem dp_of (hr : HRel K mg r h H) : ∀ (n : Nat) (d : D) (p : PyData) (v : V), dataK h n d = some p → Rel K mg r H v d → Dp K H v p := by
  intro n
  induction n with
  | zero =>
    intro d p v e q
    cases q with
    | non => cases e; exact .non
    | bl b => cases e; exact .bl b
    | int i => cases e; exact .int i
    | str x => simp only [dataK] at e; split at e <;> cases e; exact .str x
    | _ => cases e
  | succ n ih =>
    intro d p v e q
    cases q with
    | non => cases e; exact .non
    | bl b => cases e; exact .bl b
    | int i => cases e; exact .int i
    | str x => simp only [dataK] at e; split at e <;> cases e; exact .str x
    | tup h1 h2 =>
      simp only [dataK, Option.map_eq_some_iff] at e
      obtain ⟨ys, e1, rfl⟩ := e
      exact .tup h1.sq (dp_all ih h2 e1)
    | ref hn =>
      simp only [dataK] at e
      split at e
      · rename_i xs hx
        simp only [Option.map_eq_some_iff] at e
        obtain ⟨ys, e1, rfl⟩ := e
        obtain ⟨vs, z1, z2⟩ := hr.obj _ _ _ hx hn
        exact .lst (.inl (.inl z1)) (dp_all ih z2 e1)
      · cases e
    | rl h1 h2 =>
      simp only [dataK, Option.map_eq_some_iff] at e
      obtain ⟨ys, e1, rfl⟩ := e
      exact .lst h1.sq (dp_all ih h2 e1)
    | _ => cases e
theorem dp_ofU (hr : HRel K mg r h H) {n : Nat} {d : D} {p : PyData} {v : V} (e : dataK h n d = some p) (q : RelU K mg r H v d) : Dp K H v p := by
  cases q with
  | val q => exact dp_of hr n d p v e q
  | tl a b c q =>
    cases n with
    | zero => cases e
    | succ n =>
      simp only [dataK, Option.map_eq_some_iff] at e
      obtain ⟨ys, e1, rfl⟩ := e
      exact .lst (.inl (.inl b)) (dp_all (fun d p v => dp_of hr n d p v) q e1)
end
theorem shaped_of {h : AH} {n : Nat} {d : D} {p : PyData} (hn : n ≤ 64) (e : dataK h n d = some p) : SeqAt.shaped p = true := by
  obtain ⟨h1, h2⟩ := dataK_shape h n d p e
  unfold SeqAt.shaped
  simp only [Bool.and_eq_true, decide_eq_true_eq]
  exact ⟨h1, by omega⟩

/-! ### comparisons -/
def eqD (h : AH) (x y : D) : Option Bool := match dataK h 9 x, dataK h 9 y with
  | some a, some b => some (PyData.eqv a b)
  | _, _ => none
def opEq (h : AH) (x y : D) : Option D := (eqD h x y).map .bl
def opNe (h : AH) (x y : D) : Option D := (eqD h x y).map fun b => .bl (!b)
def cmpI (p : Int → Int → Bool) (_ : AH) : D → D → Option D
  | .int a, .int b => some (.bl (p a b))
  | _, _ => none
def opLt := cmpI fun a b => decide (a < b)
def opLe := cmpI fun a b => decide (a ≤ b)
def opGt := cmpI fun a b => decide (b < a)
def opGe := cmpI fun a b => decide (b ≤ a)
def opIsN (_ : AH) : D → D → Option D
  | .tl _, .non => none
  | x, .non => some (.bl (decide (x = .non)))
  | _, _ => none
def opNotN (_ : AH) : D → D → Option D
  | .tl _, .non => none
  | x, .non => some (.bl (!decide (x = .non)))
  | _, _ => none
/-- flat values as they are held -/
def flatD : D → Option V
  | .non => some .non
  | .bl b => some (.bl b)
  | .int i => some (.int i)
  | .str x => some (.str x)
  | _ => none
def seqOf (h : AH) : D → Option (List D)
  | .tup xs => some xs
  | d => lstOfR h d
def inD (neg : Bool) (h : AH) (x y : D) : Option D := match flatD x, (seqOf h y).bind (allK flatD) with
  | some v, some vs => some (.bl (if neg then !inV v vs else inV v vs))
  | _, _ => none
section
variable {X : Cx} {W : Wx}
theorem opd_eq (hu : X.A.units + 64 < cLine) : OpD X (compareOp .Eq) opEq := OpR.imp (op_eqD hu) fun x y H Q ⟨r, h, dx, dy, d, hr, tx, ty, hg, q⟩ => by
  unfold opEq eqD at hg
  split at hg
  · rename_i a b ha hb
    cases hg
    exact ⟨a, b, dp_ofU hr ha tx, dp_ofU hr hb ty, shaped_of (by decide) ha, shaped_of (by decide) hb, q _ H (Step.refl r H) hr (.val (.bl _))⟩
  · cases hg
theorem opd_ne (hu : X.A.units + 64 < cLine) : OpD X (compareOp .NotEq) opNe := OpR.imp (op_neD hu) fun x y H Q ⟨r, h, dx, dy, d, hr, tx, ty, hg, q⟩ => by
  unfold opNe eqD at hg
  split at hg
  · rename_i a b ha hb
    cases hg
    exact ⟨a, b, dp_ofU hr ha tx, dp_ofU hr hb ty, shaped_of (by decide) ha, shaped_of (by decide) hb, q _ H (Step.refl r H) hr (.val (.bl _))⟩
  · cases hg
theorem opd_cmpI {op : CmpOp} {p : Int → Int → Bool} (ho : OpR X (compareOp op) (rI0 fun i j => .bl (p i j))) : OpD X (compareOp op) (cmpI p) := OpR.imp ho fun x y H Q ⟨r, h, dx, dy, d, hr, tx, ty, hg, q⟩ => by
  unfold cmpI at hg
  split at hg
  · cases hg; exact ⟨_, _, tx.int_inv, ty.int_inv, q _ H (Step.refl r H) hr (.val (.bl _))⟩
  · cases hg
theorem opd_lt : OpD X (compareOp .Lt) opLt := opd_cmpI op_lt
theorem opd_le : OpD X (compareOp .LtE) opLe := opd_cmpI op_le
theorem opd_gt : OpD X (compareOp .Gt) opGt := opd_cmpI op_gt
theorem opd_ge : OpD X (compareOp .GtE) opGe := opd_cmpI op_ge
theorem rel_non {K : PySem.W.Frag} {mg : Str → Option Value} {r : List Addr} {H : Hp} {v : V} {d : D} (q : Rel K mg r H v d) : decide (v = .non) = decide (d = .non) := by
  cases q <;> simp
theorem opd_isN : OpD X (compareOp .Is) opIsN := OpR.imp op_isN fun x y H Q ⟨r, h, dx, dy, d, hr, tx, ty, hg, q⟩ => by
  unfold opIsN at hg
  split at hg
  · cases hg
  · cases hg
    cases ty with
    | val ty =>
      cases ty
      cases tx with
      | val tx => exact ⟨rfl, by rw [rel_non tx]; exact q _ H (Step.refl r H) hr (.val (.bl _))⟩
      | tl a b c z => rename_i hne; exact (hne _ rfl).elim
  · cases hg
theorem opd_notN : OpD X (compareOp .IsNot) opNotN := OpR.imp op_notN fun x y H Q ⟨r, h, dx, dy, d, hr, tx, ty, hg, q⟩ => by
  unfold opNotN at hg
  split at hg
  · cases hg
  · cases hg
    cases ty with
    | val ty =>
      cases ty
      cases tx with
      | val tx => exact ⟨rfl, by rw [rel_non tx]; exact q _ H (Step.refl r H) hr (.val (.bl _))⟩
      | tl a b c z => rename_i hne; exact (hne _ rfl).elim
  · cases hg
theorem flat_rel {K : PySem.W.Frag} {mg : Str → Option Value} {r : List Addr} {H : Hp} {v w : V} {d : D} (e : flatD d = some w) (q : RelU K mg r H v d) : v = w ∧ flatV w = true := by
  cases q with
  | val q => cases q <;> cases e <;> exact ⟨rfl, rfl⟩
  | tl => cases e
theorem flat_rels {K : PySem.W.Frag} {mg : Str → Option Value} {r : List Addr} {H : Hp} : ∀ {vs ws : List V} {xs : List D}, allK flatD xs = some ws → Rels K mg r H vs xs → vs = ws ∧ ws.all flatV = true
  | _, _, _, e, .nil => by cases e; exact ⟨rfl, rfl⟩
  | _, _, _, e, .cons q t => by
    unfold allK at e
    split at e
    · rename_i a as h1 h2
      cases e
      obtain ⟨e1, e2⟩ := flat_rel h1 (.val q)
      obtain ⟨e3, e4⟩ := flat_rels h2 t
      exact ⟨by rw [e1, e3], by simp [e2, e4]⟩
    · cases e
theorem seqOf_inv {K : PySem.W.Frag} {mg : Str → Option Value} {r : List Addr} {h : AH} {H : Hp} {v : V} {d : D} {xs : List D} (hr : HRel K mg r h H) (q : RelU K mg r H v d) (e : seqOf h d = some xs) : ∃ a vs, v = .ref a ∧ (SqL K H a vs ∨ SqT K H a vs) ∧ Rels K mg r H vs xs := by
  unfold seqOf at e
  split at e
  · cases e
    obtain ⟨a, vs, e1, e2, e3⟩ := q.tup_inv
    exact ⟨a, vs, e1, .inr e2.sq, e3⟩
  · obtain ⟨a, vs, e1, e2, e3⟩ := lstOfR_inv hr q e
    exact ⟨a, vs, e1, .inl e2, e3⟩
theorem inD_ok {neg : Bool} {K : PySem.W.Frag} {mg : Str → Option Value} {x y : V} {H : Hp} {Q : VK} (z : rdO K mg (inD neg) x y H Q) : rIn K neg x y H Q := by
  obtain ⟨r, h, dx, dy, d, hr, tx, ty, hg, q⟩ := z
  unfold inD at hg
  split at hg
  · rename_i v vs h1 h2
    cases hg
    obtain ⟨rfl, f1⟩ := flat_rel h1 tx
    simp only [Option.bind_eq_some_iff] at h2
    obtain ⟨xs, h3, h4⟩ := h2
    obtain ⟨a, ws, rfl, e2, e3⟩ := seqOf_inv hr ty h3
    obtain ⟨rfl, f2⟩ := flat_rels h4 e3
    exact ⟨a, ws, rfl, e2, f1, f2, q _ H (Step.refl r H) hr (.val (.bl _))⟩
  · cases hg
theorem opd_in : OpD X (compareOp .In) (inD false) := OpR.imp op_in_seq fun x y H Q z => inD_ok z
theorem opd_notIn : OpD X (compareOp .NotIn) (inD true) := OpR.imp op_notIn_seq fun x y H Q z => inD_ok z

/-! ### a <= b <= c -/
def evChain (g g' : AH → D → D → Option D) (fa fb fc : Ev) : Ev := fun e h => (fa e h).bind fun x h1 => (fb e h1).bind fun y h2 => match g h2 x y with
  | some (.bl true) => (fc e h2).bind fun z h3 => ofO (g' h3 y z) h3
  | some (.bl false) => .ok (.bl false) h2
  | _ => .stuck
theorem rd_chain {K : PySem.W.Frag} {mg : Str → Option Value} {g g' : AH → D → D → Option D} {fa fb fc : Ev} {σ : L2.St} {H : Hp} {Q : VK} (q : rdE K mg W (evChain g g' fa fb fc) σ H Q) : tChain (rdO K mg g) (rdO K mg g') (rdE K mg W fa) (rdE K mg W fb) (rdE K mg W fc) σ H Q := by
  obtain ⟨r, e, h, er, hr, ok⟩ := q
  unfold evChain at ok
  refine rdE_bind er hr ok fun x h1 v r1 H1 s1 hr1 t1 er1 ok1 => ?_
  refine rdE_bind er1 hr1 ok1 fun y h2 w r2 H2 s2 hr2 t2 er2 ok2 => ?_
  split at ok2
  · rename_i hg
    refine ⟨r2, h2, x, y, _, hr2, (t1.mono s2).u, t2.u, hg, fun v3 H3 s3 hr3 t3 => ⟨true, t3.u.bl_inv, ?_⟩⟩
    rw [if_pos rfl]
    refine rdE_bind (er2.mono s3.mn) hr3 (OkE.after s3 ok2) fun z h4 v4 r4 H4 s4 hr4 t4 er4 ok4 => ?_
    cases hg' : g' h4 y z with
    | none => rw [hg'] at ok4; exact ok4.elim
    | some d =>
      rw [hg'] at ok4
      exact ⟨r4, h4, y, z, d, hr4, ((t2.mono s3).mono s4).u, t4.u, hg', fun v H' s q t => ok4 v r4 H' s q t⟩
  · rename_i hg
    refine ⟨r2, h2, x, y, _, hr2, (t1.mono s2).u, t2.u, hg, fun v3 H3 s3 hr3 t3 => ⟨false, t3.u.bl_inv, ?_⟩⟩
    rw [if_neg Bool.false_ne_true]
    exact ok2 _ r2 H3 s3 hr3 (.val (.bl _))
  · exact ok2.elim
theorem den_chain {a b c : Expr} {op op' : CmpOp} {pos : Pos} {g g' : AH → D → D → Option D} {fa fb fc : Ev} (ho : OpD X (compareOp op) g) (ho' : OpD X (compareOp op') g') (ha : DenE X W a fa) (hb : DenE X W b fb) (hc : DenE X W c fc)
    (hm : lastMarks [op, op'] [b, c] = false := by with_unfolding_all rfl) : DenE X W (.Compare a [op, op'] [b, c] pos) (evChain g g' fa fb fc) :=
  PE.imp (pe_chain ho ho' ha hb hc hm) fun σ H Q q => rd_chain q

/-! ### tests -/
def tvOf (f : Ev) : Tv := fun e h => (f e h).bind fun d h1 => match d with
  | .bl b => .ok b h1
  | _ => .stuck
theorem rdT_of {K : PySem.W.Frag} {mg : Str → Option Value} {f : Ev} {σ : L2.St} {H : Hp} {Q : Bool → Hp → Prop} (q : rdT K mg W (tvOf f) σ H Q) : tB (rdE K mg W f) σ H Q := by
  obtain ⟨r, e, h, er, hr, ok⟩ := q
  unfold tvOf at ok
  refine rdE_bindT er hr ok fun d h1 v r1 H1 s1 hr1 t1 er1 ok1 => ?_
  cases d with
  | bl b => exact ⟨b, t1.u.bl_inv, ok1 r1 H1 (Step.refl _ _) hr1⟩
  | _ => exact ok1.elim
theorem den_tval {ex : Expr} {f : Ev} (hf : DenE X W ex f) (he : ∀ whole, isTrue ex X.env whole = (do let v ← whole; standAt ex.pos; holding [v] (truthy v)) := by intro _; rfl) : DenT X W ex (tvOf f) :=
  PT.imp (pt_val hf he) fun σ H Q q => rdT_of q
theorem den_tcmp {a b : Expr} {op : CmpOp} {pos : Pos} {g : AH → D → D → Option D} {fa fb : Ev} (ho : OpD X (compareOp op) g) (ha : DenE X W a fa) (hb : DenE X W b fb) (hm : behindInMarks op b = false := by first | exact nomark _ | rfl) : DenT X W (.Compare a [op] [b] pos) (tvOf (evOp g fa fb)) :=
  PT.imp (pt_cmpR ho ha hb hm) fun σ H Q q => by
    have q2 : tB (rdE X.K X.mg W (evOp g fa fb)) σ H Q := rdT_of q
    exact rdO_of q2
theorem den_tchain {a b c : Expr} {op op' : CmpOp} {pos : Pos} {g g' : AH → D → D → Option D} {fa fb fc : Ev} (ho : OpD X (compareOp op) g) (ho' : OpD X (compareOp op') g') (ha : DenE X W a fa) (hb : DenE X W b fb) (hc : DenE X W c fc)
    (hm : lastMarks [op, op'] [b, c] = false := by with_unfolding_all rfl) : DenT X W (.Compare a [op, op'] [b, c] pos) (tvOf (evChain g g' fa fb fc)) :=
  PT.imp (pt_chain ho ho' ha hb hc hm) fun σ H Q q => by
    have q2 : tB (rdE X.K X.mg W (evChain g g' fa fb fc)) σ H Q := rdT_of q
    exact rd_chain q2
def tvAnd (t u : Tv) : Tv := fun e h => (t e h).bind fun b h1 => if b then u e h1 else .ok false h1
def tvOr (t u : Tv) : Tv := fun e h => (t e h).bind fun b h1 => if b then .ok true h1 else u e h1
def tvNot (t : Tv) : Tv := fun e h => (t e h).bind fun b h1 => .ok (!b) h1
abbrev DenW (X : Cx) (W : Wx) (e : Expr) (f : Tv) : Prop := PW X e (rdT X.K X.mg W f)
theorem den_and1 {a : Expr} {pos : Pos} {t : Tv} (ha : DenT X W a t) : DenW X W (.BoolOp .And [a] pos) t := pw_and1 ha
theorem den_or1 {a : Expr} {pos : Pos} {t : Tv} (ha : DenT X W a t) : DenW X W (.BoolOp .Or [a] pos) t := pw_or1 ha
theorem den_and {a b : Expr} {rest : List Expr} {pos : Pos} {t u : Tv} (ha : DenT X W a t) (hb : DenW X W (.BoolOp .And (b :: rest) pos) u) : DenW X W (.BoolOp .And (a :: b :: rest) pos) (tvAnd t u) :=
  PW.imp (pw_and ha hb) fun σ H Q ⟨r, e, h, er, hr, ok⟩ => by
    unfold tvAnd at ok
    refine rdT_bindT er hr ok fun d h1 r1 H1 s1 hr1 er1 ok1 => ?_
    cases d with
    | true => rw [if_pos rfl]; exact ⟨r1, e, h1, er1, hr1, ok1⟩
    | false => rw [if_neg Bool.false_ne_true]; exact ok1 r1 H1 (Step.refl _ _) hr1
theorem den_or {a b : Expr} {rest : List Expr} {pos : Pos} {t u : Tv} (ha : DenT X W a t) (hb : DenW X W (.BoolOp .Or (b :: rest) pos) u) : DenW X W (.BoolOp .Or (a :: b :: rest) pos) (tvOr t u) :=
  PW.imp (pw_or ha hb) fun σ H Q ⟨r, e, h, er, hr, ok⟩ => by
    unfold tvOr at ok
    refine rdT_bindT er hr ok fun d h1 r1 H1 s1 hr1 er1 ok1 => ?_
    cases d with
    | false => rw [if_neg Bool.false_ne_true]; exact ⟨r1, e, h1, er1, hr1, ok1⟩
    | true => rw [if_pos rfl]; exact ok1 r1 H1 (Step.refl _ _) hr1
theorem den_tnot {a : Expr} {pos : Pos} {t : Tv} (ha : DenT X W a t) : DenT X W (.UnaryOp .Not a pos) (tvNot t) := PT.imp (pt_not ha) fun σ H Q ⟨r, e, h, er, hr, ok⟩ => by
  unfold tvNot at ok
  exact rdT_bindT er hr ok fun d h1 r1 H1 s1 hr1 er1 ok1 => ok1 r1 H1 (Step.refl _ _) hr1
/-! .. as values -/
def evAnd (f g : Ev) : Ev := fun e h => (f e h).bind fun d h1 => match d with
  | .bl true => g e h1
  | .bl false => .ok (.bl false) h1
  | _ => .stuck
def evOr (f g : Ev) : Ev := fun e h => (f e h).bind fun d h1 => match d with
  | .bl true => .ok (.bl true) h1
  | .bl false => g e h1
  | _ => .stuck
def evNot (f : Ev) : Ev := fun e h => (f e h).bind fun d h1 => match d with
  | .bl b => .ok (.bl (!b)) h1
  | _ => .stuck
theorem den_vone {a : Expr} {op} {pos : Pos} {f : Ev} (ha : DenE X W a f) : DenE X W (.BoolOp op [a] pos) f := pe_one ha
theorem den_vand {a b : Expr} {rest : List Expr} {pos : Pos} {f g : Ev} (ha : DenE X W a f) (hb : DenE X W (.BoolOp .And (b :: rest) pos) g) : DenE X W (.BoolOp .And (a :: b :: rest) pos) (evAnd f g) :=
  PE.imp (pe_and ha hb) fun σ H Q ⟨r, e, h, er, hr, ok⟩ => by
    unfold evAnd at ok
    refine rdE_bind er hr ok fun d h1 v r1 H1 s1 hr1 t1 er1 ok1 => ?_
    split at ok1
    · exact ⟨true, t1.u.bl_inv, by rw [if_pos rfl]; exact ⟨r1, e, h1, er1, hr1, ok1⟩⟩
    · exact ⟨false, t1.u.bl_inv, by rw [if_neg Bool.false_ne_true]; exact ok1 _ r1 H1 (Step.refl _ _) hr1 (.val (.bl _))⟩
    · exact ok1.elim
theorem den_vor {a b : Expr} {rest : List Expr} {pos : Pos} {f g : Ev} (ha : DenE X W a f) (hb : DenE X W (.BoolOp .Or (b :: rest) pos) g) : DenE X W (.BoolOp .Or (a :: b :: rest) pos) (evOr f g) :=
  PE.imp (pe_or ha hb) fun σ H Q ⟨r, e, h, er, hr, ok⟩ => by
    unfold evOr at ok
    refine rdE_bind er hr ok fun d h1 v r1 H1 s1 hr1 t1 er1 ok1 => ?_
    split at ok1
    · exact ⟨true, t1.u.bl_inv, by rw [if_pos rfl]; exact ok1 _ r1 H1 (Step.refl _ _) hr1 (.val (.bl _))⟩
    · exact ⟨false, t1.u.bl_inv, by rw [if_neg Bool.false_ne_true]; exact ⟨r1, e, h1, er1, hr1, ok1⟩⟩
    · exact ok1.elim
theorem den_vnot {a : Expr} {pos : Pos} {f : Ev} (ha : DenE X W a f) : DenE X W (.UnaryOp .Not a pos) (evNot f) := PE.imp (pe_not ha) fun σ H Q ⟨r, e, h, er, hr, ok⟩ => by
  unfold evNot at ok
  refine rdE_bind er hr ok fun d h1 v r1 H1 s1 hr1 t1 er1 ok1 => ?_
  split at ok1
  · exact ⟨_, t1.u.bl_inv, ok1 _ r1 H1 (Step.refl _ _) hr1 (.val (.bl _))⟩
  · exact ok1.elim
def evIf (t : Tv) (f g : Ev) : Ev := fun e h => (t e h).bind fun b h1 => if b then f e h1 else g e h1
theorem den_if {c a b : Expr} {pos : Pos} {t : Tv} {f g : Ev} (hc : DenT X W c t) (ha : DenE X W a f) (hb : DenE X W b g) : DenE X W (.IfExp c a b pos) (evIf t f g) :=
  PE.imp (pe_ifExp hc ha hb) fun σ H Q ⟨r, e, h, er, hr, ok⟩ => by
    unfold evIf at ok
    refine rdT_bindE er hr ok fun d h1 r1 H1 s1 hr1 er1 ok1 => ?_
    cases d with
    | true => rw [if_pos rfl]; exact ⟨r1, e, h1, er1, hr1, ok1⟩
    | false => rw [if_neg Bool.false_ne_true]; exact ⟨r1, e, h1, er1, hr1, ok1⟩
def evNeg (f : Ev) : Ev := fun e h => (f e h).bind fun d h1 => match d with
  | .int i => .ok (.int (-i)) h1
  | _ => .stuck
theorem den_neg {a : Expr} {pos : Pos} {f : Ev} (ha : DenE X W a f) : DenE X W (.UnaryOp .USub a pos) (evNeg f) := PE.imp (pe_un un_neg ha) fun σ H Q ⟨r, e, h, er, hr, ok⟩ => by
  unfold evNeg at ok
  refine rdE_bind er hr ok fun d h1 v r1 H1 s1 hr1 t1 er1 ok1 => ?_
  split at ok1
  · exact ⟨_, t1.u.int_inv, ok1 _ r1 H1 (Step.refl _ _) hr1 (.val (.int _))⟩
  · exact ok1.elim
end
end BW

set_option Elab.async false
set_option linter.all false
set_option maxRecDepth 100000
set_option maxHeartbeats 4000000
namespace BW
open PySem PySem.Spec PyProof.Rows L2
variable [Tb]

/-! ### items, slices -/
def opIx (h : AH) (x y : D) : Option D := match y with
  | .int i => match x with
    | .str z => if z.length ≤ sizeLine then (atI z.cps.toList i).map fun c => .str ⟨#[c]⟩ else none
    | x => (seqOf h x).bind fun xs => atI xs i
  | _ => none
theorem Rels.atI {K : PySem.W.Frag} {mg : Str → Option Value} {r : List Addr} {H : Hp} {vs : List V} {xs : List D} {i : Int} {x : D} (q : Rels K mg r H vs xs) (e : L2.atI xs i = some x) : ∃ v, L2.atI vs i = some v ∧ Rel K mg r H v x := by
  unfold L2.atI at e ⊢
  rw [q.length]
  cases hj : ixN xs.length i with
  | none => rw [hj] at e; cases e
  | some j =>
    rw [hj] at e
    simp only [Option.bind_some] at e ⊢
    exact q.get' e
def cutD (xs : List D) (lo hi : Option Int) : List D := (xs.drop (HT.sIx xs.length 0 lo)).take (HT.sIx xs.length xs.length hi - HT.sIx xs.length 0 lo)
theorem Rels.cutD {K : PySem.W.Frag} {mg : Str → Option Value} {r : List Addr} {H : Hp} {vs : List V} {xs : List D} (q : Rels K mg r H vs xs) (lo hi : Option Int) : Rels K mg r H (cutV vs lo hi) (BW.cutD xs lo hi) := by
  unfold cutV BW.cutD
  rw [q.length]
  exact (q.drop _).take _
section
variable {X : Cx} {W : Wx}
theorem ixd : IxR X (rdO X.K X.mg opIx) := fun value slice pins s σ H x y v u Q I rx ry q => by
  obtain ⟨r, h, dx, dy, d, hr, tx, ty, hg, q⟩ := q
  unfold opIx at hg
  split at hg
  · split at hg
    · split at hg
      · rename_i hz
        simp only [Option.map_eq_some_iff] at hg
        obtain ⟨c, hc, rfl⟩ := hg
        exact ix_str value slice pins s σ H x y v u Q I rx ry ⟨_, _, c, tx.str_inv, ty.int_inv, hz, hc, q _ H (Step.refl r H) hr (.val (.str _))⟩
      · cases hg
    · simp only [Option.bind_eq_some_iff] at hg
      obtain ⟨xs, h1, h2⟩ := hg
      obtain ⟨a, vs, rfl, h3, h4⟩ := seqOf_inv hr tx h1
      obtain ⟨w, h5, h6⟩ := h4.atI h2
      rcases h3 with h3 | h3
      · exact ix_list value slice pins s σ H _ y v u Q I rx ry ⟨a, vs, _, w, rfl, ty.int_inv, h3, h5, q _ H (Step.refl r H) hr (.val h6)⟩
      · exact ix_tup value slice pins s σ H _ y v u Q I rx ry ⟨a, vs, _, w, rfl, ty.int_inv, h3, h5, q _ H (Step.refl r H) hr (.val h6)⟩
  · cases hg
theorem den_ix {a b : Expr} {pos : Pos} {fa fb : Ev} (ha : DenE X W a fa) (hb : DenE X W b fb) (hs : PlainIx b := by exact fun _ _ => rfl) : DenE X W (.Subscript a b pos) (evOp opIx fa fb) :=
  PE.imp (pe_ix ixd ha hb hs) fun σ H Q q => rdO_of q

abbrev Pv := Env → AH → Out (Option Int)
def pvNone : Pv := fun _ h => .ok none h
def pvSome (f : Ev) : Pv := fun e h => (f e h).bind fun d h1 => match d with
  | .int i => .ok (some i) h1
  | _ => .stuck
def OkP (K : PySem.W.Frag) (mg : Str → Option Value) (W : Wx) (σ : L2.St) (r : List Addr) (H : Hp) (Q : Option Int → Hp → Prop) : Out (Option Int) → Prop
  | .stuck => False
  | .ok d h' => ∀ r' H', Step r H r' H' → HRel K mg r' h' H' → Q d H'
  | .exc x h' => ∀ c dx r' H', Step r H r' H' → HRel K mg r' h' H' → ExRel K mg r' H' c dx x → W c dx σ H'
def rdP (K : PySem.W.Frag) (mg : Str → Option Value) (W : Wx) (f : Pv) : TO := fun σ H Q => ∃ r e h, ERel K mg r e σ H ∧ HRel K mg r h H ∧ OkP K mg W σ r H Q (f e h)
abbrev DenP (X : Cx) (W : Wx) (o : Option Expr) (f : Pv) : Prop := PO X o (rdP X.K X.mg W f)
theorem PO.imp {o : Option Expr} {t t' : TO} (h : PO X o t) (q : ∀ σ H Q, t' σ H Q → t σ H Q) : PO X o t' := ⟨fun pins s σ H Q I z => h.run pins s σ H Q I (q σ H Q z)⟩
theorem den_pnone : DenP X W none pvNone := PO.imp po_none fun σ H Q ⟨r, e, h, er, hr, ok⟩ => ok r H (Step.refl r H) hr
theorem OkP.after {K : PySem.W.Frag} {mg : Str → Option Value} {σ : L2.St} {r r1 : List Addr} {H H1 : Hp} {Q : Option Int → Hp → Prop} {o : Out (Option Int)} (s : Step r H r1 H1) (q : OkP K mg W σ r H Q o) : OkP K mg W σ r1 H1 Q o := by
  cases o with
  | stuck => exact q
  | ok d h' => exact fun r' H' s' hr => q r' H' (s.trans s') hr
  | exc x h' => exact fun c dx r' H' s' hr t => q c dx r' H' (s.trans s') hr t
theorem den_psome {ex : Expr} {f : Ev} (hf : DenE X W ex f) : DenP X W (some ex) (pvSome f) := PO.imp (po_some hf) fun σ H Q ⟨r, e, h, er, hr, ok⟩ => by
  unfold pvSome at ok
  refine ⟨r, e, h, er, hr, ?_⟩
  cases hf : f e h with
  | stuck => rw [hf] at ok; exact ok
  | exc x h1 => rw [hf] at ok; exact ok
  | ok d h1 =>
    rw [hf] at ok
    intro v r1 H1 s q t
    cases d with
    | int i => exact ⟨i, t.u.int_inv, ok r1 H1 s q⟩
    | _ => exact ok.elim
def slD (h : AH) (x : D) (lo hi : Option Int) : Option D := match x with
  | .str z => if z.length ≤ sizeLine then some (.str (cutS z lo hi)) else none
  | .tup xs => some (.tup (cutD xs lo hi))
  | x => (lstOfR h x).map fun xs => .tl (cutD xs lo hi)
def evSl (f : Ev) (lo hi : Pv) : Ev := fun e h => (f e h).bind fun x h1 => (lo e h1).bind fun l h2 => (hi e h2).bind fun u h3 => ofO (slD h3 x l u) h3
theorem cutD_whole {xs : List D} {lo hi : Option Int} (h : HT.sIx xs.length 0 lo = 0 ∧ HT.sIx xs.length xs.length hi = xs.length) : cutD xs lo hi = xs := by
  unfold cutD
  rw [h.1, h.2]
  simp
def rdSl (K : PySem.W.Frag) (mg : Str → Option Value) : V → Option Int → Option Int → Hp → VK → Prop := fun x lo hi H Q => ∃ r h dx d, HRel K mg r h H ∧ RelU K mg r H x dx ∧ slD h dx lo hi = some d ∧ ∀ v H', Step r H r H' → HRel K mg r h H' → RelT K mg H r H' v d → Q v H'
theorem SlR.imp {r1 r2 : V → Option Int → Option Int → Hp → VK → Prop} (a : SlR X r1) (q : ∀ x lo hi H Q, r2 x lo hi H Q → r1 x lo hi H Q) : SlR X r2 := fun pins s σ H x v vl vu lo hi sl Q I rx hs pl pu z => a pins s σ H x v vl vu lo hi sl Q I rx hs pl pu (q _ _ _ _ _ z)
theorem sld : SlR X (rdSl X.K X.mg) := SlR.imp (SlR.or sl_str (SlR.or sl_tupA sl_list)) fun x lo hi H Q ⟨r, h, dx, d, hr, tx, hg, q⟩ => by
  unfold slD at hg
  split at hg
  · split at hg
    · cases hg; rename_i hz; exact .inl ⟨_, tx.str_inv, hz, q _ H (Step.refl r H) hr (.val (.str _))⟩
    · cases hg
  · cases hg
    obtain ⟨a, vs, rfl, h1, h2⟩ := tx.tup_inv
    refine .inr (.inl ⟨a, vs, rfl, h1.sq, fun z => ?_, fun z p hp => ?_⟩)
    · rw [h2.length] at z
      rw [cutD_whole z] at q
      exact q _ H (Step.refl r H) hr (.val (.tup h1 h2))
    · exact newT hr hp (h2.cutD lo hi) q
  · simp only [Option.map_eq_some_iff] at hg
    obtain ⟨xs, h1, rfl⟩ := hg
    obtain ⟨a, vs, rfl, h3, h4⟩ := lstOfR_inv hr tx h1
    exact .inr (.inr ⟨a, vs, rfl, h3, fun p hp => newL hr hp (h4.cutD lo hi) q⟩)
theorem rdP_bind {K : PySem.W.Frag} {mg : Str → Option Value} {σ : L2.St} {r : List Addr} {H : Hp} {h : AH} {e : Env} {f : Pv} {k : Option Int → AH → Out D} {Q : VK} {Q' : Option Int → Hp → Prop} (er : ERel K mg r e σ H) (hr : HRel K mg r h H) (ok : OkE K mg W σ r H Q ((f e h).bind k))
    (hk : ∀ d h1 r1 H1, Step r H r1 H1 → HRel K mg r1 h1 H1 → ERel K mg r1 e σ H1 → OkE K mg W σ r1 H1 Q (k d h1) → Q' d H1) : rdP K mg W f σ H Q' := by
  refine ⟨r, e, h, er, hr, ?_⟩
  cases hf : f e h with
  | stuck => rw [hf] at ok; exact ok
  | ok d h1 => rw [hf] at ok; exact fun r1 H1 s q => hk d h1 r1 H1 s q (er.mono s.mn) (OkE.after s ok)
  | exc x h1 => rw [hf] at ok; exact ok
theorem den_sl {ex : Expr} {lo hi : Option Expr} {p2 pos : Pos} {f : Ev} {fl fh : Pv} (hf : DenE X W ex f) (hl : DenP X W lo fl) (hh : DenP X W hi fh) : DenE X W (.Subscript ex (.Slice lo hi none p2) pos) (evSl f fl fh) :=
  PE.imp (pe_slice sld hf hl hh) fun σ H Q ⟨r, e, h, er, hr, ok⟩ => by
    unfold evSl at ok
    refine rdE_bind er hr ok fun x h1 v r1 H1 s1 hr1 t1 er1 ok1 => ?_
    refine rdP_bind er1 hr1 ok1 fun l h2 r2 H2 s2 hr2 er2 ok2 => ?_
    refine rdP_bind er2 hr2 ok2 fun u h3 r3 H3 s3 hr3 er3 ok3 => ?_
    cases hg : slD h3 x l u with
    | none => rw [hg] at ok3; exact ok3.elim
    | some d =>
      rw [hg] at ok3
      exact ⟨r3, h3, x, d, hr3, ((t1.mono s2).mono s3).u, hg, fun v H' s q t => ok3 v r3 H' s q t⟩
/-- xs[::-1] of a list -/
def evRevL (f : Ev) : Ev := fun e h => (f e h).bind fun x h1 => ofO ((lstOfR h1 x).map fun xs => .tl xs.reverse) h1
theorem den_revL {ex : Expr} {k : Nat} {p1 p2 p3 pos : Pos} {f : Ev} (hf : DenE X W ex f) : DenE X W (.Subscript ex (.Slice none none (some (.UnaryOp .USub (.Constant (.int 1) k p1) p2)) p3) pos) (evRevL f) :=
  PE.imp (pe_revL hf) fun σ H Q ⟨r, e, h, er, hr, ok⟩ => by
    unfold evRevL at ok
    refine rdE_bind er hr ok fun x h1 v r1 H1 s1 hr1 t1 er1 ok1 => ?_
    cases hl : lstOfR h1 x with
    | none => rw [hl] at ok1; exact ok1.elim
    | some xs =>
      rw [hl] at ok1
      obtain ⟨a, vs, rfl, h3, h4⟩ := lstOfR_inv hr1 t1.u hl
      exact ⟨a, vs, rfl, h3, fun p hp => newL hr1 hp h4.reverse fun v H' s q t => ok1 v r1 H' s q t⟩

/-! ### built-in functions -/
def bLen (h : AH) : List D → Option D
  | [.str z] => if z.length ≤ sizeLine then some (.int z.length) else none
  | [x] => (seqOf h x).map fun xs => .int xs.length
  | _ => none
def bTuple (h : AH) : List D → Option D
  | [.tup xs] => some (.tup xs)
  | [x] => (lstOfR h x).map .tup
  | _ => none
def bList (h : AH) : List D → Option D
  | [x] => (seqOf h x).map .tl
  | _ => none
def bInt (_ : AH) : List D → Option D
  | [.int i] => some (.int i)
  | [.bl b] => some (.int (if b then 1 else 0))
  | _ => none
def blsOf : List D → Option (List Bool)
  | [] => some []
  | .bl b :: xs => (blsOf xs).map (b :: ·)
  | _ => none
def intsOf : List D → Option (List Int)
  | [] => some []
  | .int b :: xs => (intsOf xs).map (b :: ·)
  | _ => none
def bAll (h : AH) : List D → Option D
  | [x] => ((lstOfR h x).bind blsOf).map fun bs => .bl (bs.all id)
  | _ => none
def bAny (h : AH) : List D → Option D
  | [x] => ((lstOfR h x).bind blsOf).map fun bs => .bl (bs.any id)
  | _ => none
def bSum (h : AH) : List D → Option D
  | [x] => ((lstOfR h x).bind intsOf).map fun bs => .int bs.sum
  | _ => none
theorem bls_rel {K : PySem.W.Frag} {mg : Str → Option Value} {r : List Addr} {H : Hp} : ∀ {vs : List V} {xs : List D} {bs : List Bool}, Rels K mg r H vs xs → blsOf xs = some bs → vs = bs.map V.bl
  | _, _, _, .nil, e => by cases e; rfl
  | _, _, _, .cons q t, e => by
    cases q with
    | bl b =>
      simp only [blsOf, Option.map_eq_some_iff] at e
      obtain ⟨cs, e1, rfl⟩ := e
      rw [bls_rel t e1]; rfl
    | _ => simp [blsOf] at e
theorem ints_rel {K : PySem.W.Frag} {mg : Str → Option Value} {r : List Addr} {H : Hp} : ∀ {vs : List V} {xs : List D} {bs : List Int}, Rels K mg r H vs xs → intsOf xs = some bs → vs = bs.map V.int
  | _, _, _, .nil, e => by cases e; rfl
  | _, _, _, .cons q t, e => by
    cases q with
    | int b =>
      simp only [intsOf, Option.map_eq_some_iff] at e
      obtain ⟨cs, e1, rfl⟩ := e
      rw [ints_rel t e1]; rfl
    | _ => simp [intsOf] at e
theorem RelTs.one {K : PySem.W.Frag} {mg : Str → Option Value} {r : List Addr} {H : Hp} {vs : List V} {d : D} (q : RelTs K mg r H vs [d]) : ∃ v, vs = [v] ∧ RelU K mg r H v d := by
  cases q with
  | cons a b => cases b; exact ⟨_, rfl, a⟩
theorem RelTs.two {K : PySem.W.Frag} {mg : Str → Option Value} {r : List Addr} {H : Hp} {vs : List V} {d d' : D} (q : RelTs K mg r H vs [d, d']) : ∃ v v', vs = [v, v'] ∧ RelU K mg r H v d ∧ RelU K mg r H v' d' := by
  cases q with
  | cons a b => cases b with
    | cons b c => cases c; exact ⟨_, _, rfl, a, b⟩
theorem cd_len : CallD X (.builtin "len") bLen := CallR.imp call_len fun vs H Q ⟨r, h, ds, d, hr, ts, hg, q⟩ => by
  unfold bLen at hg
  split at hg
  · split at hg
    · cases hg
      rename_i hz
      obtain ⟨v, rfl, t⟩ := ts.one
      obtain rfl := t.str_inv
      exact ⟨_, _, rfl, ⟨hz, rfl⟩, q _ H (Step.refl r H) hr (.val (.int _))⟩
    · cases hg
  · simp only [Option.map_eq_some_iff] at hg
    obtain ⟨xs, h1, rfl⟩ := hg
    obtain ⟨v, rfl, t⟩ := ts.one
    obtain ⟨a, ws, rfl, h2, h3⟩ := seqOf_inv hr t h1
    refine ⟨_, xs.length, rfl, ?_, q _ H (Step.refl r H) hr (.val (.int _))⟩
    rcases h2 with h2 | h2
    · exact .inl ⟨ws, h2, h3.length.symm⟩
    · exact .inr ⟨ws, h2, h3.length.symm⟩
  · cases hg
theorem cd_tuple : CallD X (.type "tuple") bTuple := CallR.imp call_tuple_of fun vs H Q ⟨r, h, ds, d, hr, ts, hg, q⟩ => by
  unfold bTuple at hg
  split at hg
  · cases hg
    obtain ⟨v, rfl, t⟩ := ts.one
    obtain ⟨a, ws, rfl, h1, h2⟩ := t.tup_inv
    exact ⟨a, ws, rfl, .inr ⟨h1.sq, q _ H (Step.refl r H) hr (.val (.tup h1 h2))⟩⟩
  · simp only [Option.map_eq_some_iff] at hg
    obtain ⟨xs, h1, rfl⟩ := hg
    obtain ⟨v, rfl, t⟩ := ts.one
    obtain ⟨a, ws, rfl, h2, h3⟩ := lstOfR_inv hr t h1
    exact ⟨a, ws, rfl, .inl ⟨h2, fun p hp => newT hr hp h3 q⟩⟩
  · cases hg
theorem cd_list : CallD X (.type "list") bList := CallR.imp call_list_of fun vs H Q ⟨r, h, ds, d, hr, ts, hg, q⟩ => by
  unfold bList at hg
  split at hg
  · simp only [Option.map_eq_some_iff] at hg
    obtain ⟨xs, h1, rfl⟩ := hg
    obtain ⟨v, rfl, t⟩ := ts.one
    obtain ⟨a, ws, rfl, h2, h3⟩ := seqOf_inv hr t h1
    exact ⟨a, ws, rfl, h2, fun p hp => newL hr hp h3 q⟩
  · cases hg
theorem cd_int : CallD X (.type "int") bInt := CallR.imp call_int1 fun vs H Q ⟨r, h, ds, d, hr, ts, hg, q⟩ => by
  unfold bInt at hg
  split at hg
  · cases hg
    obtain ⟨v, rfl, t⟩ := ts.one
    obtain rfl := t.int_inv
    exact .inl ⟨_, rfl, q _ H (Step.refl r H) hr (.val (.int _))⟩
  · cases hg
    obtain ⟨v, rfl, t⟩ := ts.one
    obtain rfl := t.bl_inv
    exact .inr ⟨_, rfl, q _ H (Step.refl r H) hr (.val (.int _))⟩
  · cases hg
theorem cd_all (hc : X.calm = true) : CallD X (.builtin "all") bAll := CallR.imp (cr_all hc) fun vs H Q ⟨r, h, ds, d, hr, ts, hg, q⟩ => by
  unfold bAll at hg
  split at hg
  · simp only [Option.map_eq_some_iff, Option.bind_eq_some_iff] at hg
    obtain ⟨bs, ⟨xs, h1, h2⟩, rfl⟩ := hg
    obtain ⟨v, rfl, t⟩ := ts.one
    obtain ⟨a, ws, rfl, h3, h4⟩ := lstOfR_inv hr t h1
    obtain rfl := bls_rel h4 h2
    exact ⟨a, bs, rfl, h3, q _ H (Step.refl r H) hr (.val (.bl _))⟩
  · cases hg
theorem cd_any (hc : X.calm = true) : CallD X (.builtin "any") bAny := CallR.imp (cr_any hc) fun vs H Q ⟨r, h, ds, d, hr, ts, hg, q⟩ => by
  unfold bAny at hg
  split at hg
  · simp only [Option.map_eq_some_iff, Option.bind_eq_some_iff] at hg
    obtain ⟨bs, ⟨xs, h1, h2⟩, rfl⟩ := hg
    obtain ⟨v, rfl, t⟩ := ts.one
    obtain ⟨a, ws, rfl, h3, h4⟩ := lstOfR_inv hr t h1
    obtain rfl := bls_rel h4 h2
    exact ⟨a, bs, rfl, h3, q _ H (Step.refl r H) hr (.val (.bl _))⟩
  · cases hg
theorem cd_sum (hc : X.calm = true) : CallD X (.builtin "sum") bSum := CallR.imp (cr_sum hc) fun vs H Q ⟨r, h, ds, d, hr, ts, hg, q⟩ => by
  unfold bSum at hg
  split at hg
  · simp only [Option.map_eq_some_iff, Option.bind_eq_some_iff] at hg
    obtain ⟨bs, ⟨xs, h1, h2⟩, rfl⟩ := hg
    obtain ⟨v, rfl, t⟩ := ts.one
    obtain ⟨a, ws, rfl, h3, h4⟩ := lstOfR_inv hr t h1
    obtain rfl := ints_rel h4 h2
    exact ⟨a, bs, rfl, h3, q _ H (Step.refl r H) hr (.val (.int _))⟩
  · cases hg
end
end BW

set_option Elab.async false
set_option linter.all false
set_option maxRecDepth 100000
set_option maxHeartbeats 4000000
namespace BW
open PySem PySem.Spec PyProof.Rows L2
variable [Tb]

/-! ### targets -/
abbrev Gv := D → Env → AH → Out Env
section
variable (K : PySem.W.Frag) (mg : Str → Option Value)
def OkG (r : List Addr) (H : Hp) (Q : L2.St → Hp → Prop) : Out Env → Prop
  | .ok e' h' => ∀ σ' r' H', Step r H r' H' → ERel K mg r' e' σ' H' → HRel K mg r' h' H' → Q σ' H'
  | _ => False
def rdG (g : Gv) : TG := fun v σ H Q => ∃ r e h d, ERel K mg r e σ H ∧ HRel K mg r h H ∧ Rel K mg r H v d ∧ OkG K mg r H Q (g d e h)
def rdGs (g : List D → Env → AH → Out Env) : TGs := fun vs σ H Q => ∃ r e h ds, ERel K mg r e σ H ∧ HRel K mg r h H ∧ Rels K mg r H vs ds ∧ OkG K mg r H Q (g ds e h)
end
abbrev DenG (X : Cx) (tg : Expr) (g : Gv) : Prop := PG X tg (rdG X.K X.mg g)
abbrev DenGs (X : Cx) (tg : List Expr) (g : List D → Env → AH → Out Env) : Prop := PGs X tg (rdGs X.K X.mg g)
def gvName (i : Nat) : Gv := fun d e h => .ok (e.set i (some d)) h
def gvs : List Gv → List D → Env → AH → Out Env
  | [], [], e, h => .ok e h
  | g :: gs, d :: ds, e, h => match g d e h with
    | .ok e1 h1 => gvs gs ds e1 h1
    | _ => .stuck
  | _, _, _, _ => .stuck
def gvTup (gs : List Gv) : Gv := fun d e h => match d with
  | .tup ds => gvs gs ds e h
  | _ => .stuck
def gvSubL (fo fi : Ev) : Gv := fun d e h => match fo e h with
  | .ok o h1 => match fi e h1 with
    | .ok i h2 => match o, i with
      | .ref n, .int k => match h2[n]? with
        | some (.lst xs) => match ixN xs.length k with
          | some j => .ok e (h2.set n (.lst (xs.set j d)))
          | none => .stuck
        | _ => .stuck
      | _, _ => .stuck
    | _ => .stuck
  | _ => .stuck
section
variable {X : Cx}
theorem PG.imp {tg : Expr} {t t' : TG} (h : PG X tg t) (q : ∀ v σ H Q, t' v σ H Q → t v σ H Q) : PG X tg t' := ⟨fun pins s σ H v u Q I r z => h.run pins s σ H v u Q I r (q v σ H Q z)⟩
theorem PGs.imp {tg : List Expr} {t t' : TGs} (h : PGs X tg t) (q : ∀ v σ H Q, t' v σ H Q → t v σ H Q) : PGs X tg t' := ⟨fun pins s σ H v u Q I r z => h.run pins s σ H v u Q I r (q v σ H Q z)⟩
theorem OkG.after {K : PySem.W.Frag} {mg : Str → Option Value} {r r1 : List Addr} {H H1 : Hp} {Q : L2.St → Hp → Prop} {o : Out Env} (s : Step r H r1 H1) (q : OkG K mg r H Q o) : OkG K mg r1 H1 Q o := by
  cases o with
  | ok e' h' => exact fun σ' r' H' s' => q σ' r' H' (s.trans s')
  | _ => exact q
theorem den_gname {i : Nat} {x : Str} {pos : Pos} (hN : X.N.Nodup) (hi : X.N[i]? = some x) (hx : Loc X.env.scope x) (hf : X.fn x = true ∨ X.env.scope.names.lookup x = some .local := by first | exact .inl rfl | exact .inr rfl | assumption) : DenG X (.Name x pos) (gvName i) :=
  PG.imp (pg_name hN hi hx hf) fun v σ H Q ⟨r, e, h, d, er, hr, q, ok⟩ => ok _ r H (Step.refl r H) (er.set i q) hr
theorem den_gnil : DenGs X [] (gvs []) := PGs.imp pgs_nil fun vs σ H Q ⟨r, e, h, ds, er, hr, q, ok⟩ => by
  cases q with
  | nil => exact ⟨rfl, ok _ r H (Step.refl r H) er hr⟩
  | cons => exact ok.elim
theorem den_gcons {t : Expr} {ts : List Expr} {g : Gv} {gs : List Gv} (hg : DenG X t g) (hgs : DenGs X ts (gvs gs)) (hs : (assignEach (t :: ts) X.env).map (·.2) = assign t X.env :: (assignEach ts X.env).map (·.2) := by rfl) : DenGs X (t :: ts) (gvs (g :: gs)) :=
  PGs.imp (pgs_cons hg hgs hs) fun vs σ H Q ⟨r, e, h, ds, er, hr, q, ok⟩ => by
    cases q with
    | nil => exact ok.elim
    | @cons v vs d ds q1 q2 =>
      refine ⟨v, vs, rfl, r, e, h, d, er, hr, q1, ?_⟩
      simp only [gvs] at ok
      cases hgd : g d e h with
      | ok e1 h1 => rw [hgd] at ok; exact fun σ' r' H' s' er' hr' => ⟨r', e1, h1, ds, er', hr', q2.mono s'.mn, OkG.after s' ok⟩
      | stuck => rw [hgd] at ok; exact ok.elim
      | exc x h1 => rw [hgd] at ok; exact ok.elim
theorem gvs_len : ∀ {gs : List Gv} {ds : List D} {e : Env} {h : AH} {e' : Env} {h' : AH}, gvs gs ds e h = .ok e' h' → ds.length = gs.length
  | [], [], _, _, _, _, _ => rfl
  | [], _ :: _, _, _, _, _, z => by simp [gvs] at z
  | _ :: _, [], _, _, _, _, z => by simp [gvs] at z
  | g :: gs, d :: ds, e, h, e', h', z => by
    simp only [gvs] at z
    split at z
    · rw [List.length_cons, List.length_cons, gvs_len z]
    · cases z
theorem den_gtup {ts : List Expr} {gs : List Gv} {k : Nat} {pos : Pos} (hc : X.calm = true) (hg : DenGs X ts (gvs gs)) (hn : (assignEach ts X.env).length = gs.length := by rfl) (hst : (assignEach ts X.env).findIdx? (·.1) = none := by rfl) : DenG X (.Tuple ts k pos) (gvTup gs) :=
  PG.imp (pg_tup (n := gs.length) hc hg hn hst) fun v σ H Q ⟨r, e, h, d, er, hr, q, ok⟩ => by
    cases d with
    | tup ds =>
      obtain ⟨a, vs, rfl, h1, h2⟩ := RelU.tup_inv (RelT.val q : RelU X.K X.mg r H v (.tup ds))
      refine ⟨a, vs, rfl, h1.sq, ?_, r, e, h, ds, er, hr, h2, ok⟩
      rw [h2.length]
      simp only [gvTup] at ok
      cases hz : gvs gs ds e h with
      | ok e1 h1 => exact gvs_len hz
      | stuck => rw [hz] at ok; exact ok.elim
      | exc => rw [hz] at ok; exact ok.elim
    | _ => exact ok.elim
theorem den_gsubL {o i : Expr} {pos : Pos} {fo fi : Ev} {W : Wx} (ho : DenE X W o fo) (hi : DenE X W i fi)
    (ha : ∀ z, assign (.Subscript o i pos) X.env z = (do
      let zo ← holding [z] (eval o X.env)
      let zi ← holding [z, zo] (eval i X.env)
      standAt pos
      holding [z, zo, zi] (setItem zo zi z)
      release [z, zo, zi] []) := by intro _; rfl) : DenG X (.Subscript o i pos) (gvSubL fo fi) :=
  PG.imp (pg_sub ho hi set_list ha) fun v σ H Q ⟨r, e, h, d, er, hr, q, ok⟩ => by
    unfold gvSubL at ok
    refine ⟨r, e, h, er, hr, ?_⟩
    cases hfo : fo e h with
    | stuck => rw [hfo] at ok; exact ok.elim
    | exc => rw [hfo] at ok; exact ok.elim
    | ok o h1 =>
      rw [hfo] at ok
      dsimp only at ok
      refine fun v1 r1 H1 s1 hr1 t1 => ⟨r1, e, h1, er.mono s1.mn, hr1, ?_⟩
      cases hfi : fi e h1 with
      | stuck => rw [hfi] at ok; exact ok.elim
      | exc => rw [hfi] at ok; exact ok.elim
      | ok i h2 =>
        rw [hfi] at ok
        dsimp only at ok
        refine fun v2 r2 H2 s2 hr2 t2 => ?_
        split at ok
        · rename_i n k
          split at ok
          · rename_i xs hx
            split at ok
            · rename_i j hj
              obtain ⟨p, vs, rfl, h5, h6⟩ := lstOf_inv (d := .ref n) (xs := xs) hr2 (t1.mono s2).u (by simp only [lstOf, hx])
              obtain rfl := t2.u.int_inv
              have hn : r2[n]? = some p := by
                cases (t1.mono s2) with
                | val z => exact z.ref_inv
              have hp : p ∈ r2 := List.mem_of_getElem? hn
              have s3 : Step r2 H2 r2 (upd H2 p (.lst (vs.set j v))) := Step.mut hp (hr2.there hp)
              have q2 : Rel X.K X.mg r2 H2 v d := (q.mono s1.mn).mono s2.mn
              refine ⟨p, vs, k, j, rfl, rfl, h5, by rw [h6.length]; exact hj, ?_⟩
              refine ok σ r2 _ ((s1.trans s2).trans s3) (((er.mono s1.mn).mono s2.mn).mono s3.mn) ?_
              exact hr2.put (ob := .lst (xs.set j d)) hn ⟨vs.set j v, upd_same, (h6.set q2 j).mono s3.mn⟩
            · exact ok.elim
          · exact ok.elim
        · exact ok.elim
end

/-! ### statements -/
def svNil : Sv := fun e h => .nx e h
def svSeq (a b : Sv) : Sv := fun e h => match a e h with
  | .nx e1 h1 => b e1 h1
  | o => o
def svPass : Sv := fun e h => .nx e h
def svBrk : Sv := fun e h => .brk e h
def svCont : Sv := fun e h => .cont e h
def svStuck : Sv := fun _ _ => .stuck
def svExpr (f : Ev) : Sv := fun e h => (f e h).toFl e fun _ h1 => .nx e h1
def svRet (f : Ev) : Sv := fun e h => (f e h).toFl e fun d h1 => .ret d h1
def svRetN : Sv := fun _ h => .ret .non h
def svIf (t : Tv) (a b : Sv) : Sv := fun e h => (t e h).toFl e fun c h1 => if c then a e h1 else b e h1
def svAsg (f : Ev) (g : Gv) : Sv := fun e h => (pv f e h).toFl e fun d h1 => match g d e h1 with
  | .ok e1 h2 => .nx e1 h2
  | _ => .stuck
section
variable {X : Cx} {W : Wx}
theorem den_bnil : DenB X W [] svNil := PSs.imp pss_nil fun N σ H ⟨r, e, h, er, hr, ok⟩ => ok σ r H (Step.refl r H) er hr
theorem den_bcons {st : Stmt} {sts : List Stmt} {a b : Sv} (ha : DenS X W st a) (hb : DenB X W sts b) : DenB X W (st :: sts) (svSeq a b) := PSs.imp (pss_cons ha hb) fun N σ H ⟨r, e, h, er, hr, ok⟩ => by
  refine ⟨r, e, h, er, hr, ?_⟩
  unfold svSeq at ok
  cases ha : a e h with
  | nx e1 h1 => rw [ha] at ok; exact fun σ' r' H' s er' hr' => ⟨r', e1, h1, er', hr', OkS.after s ok⟩
  | stuck => rw [ha] at ok; exact ok
  | ret d h1 => rw [ha] at ok; exact ok
  | brk e1 h1 => rw [ha] at ok; exact ok
  | cont e1 h1 => rw [ha] at ok; exact ok
  | exc x e1 h1 => rw [ha] at ok; exact ok
theorem den_bone {st : Stmt} {a : Sv} (ha : DenS X W st a) : DenB X W [st] a := pss_one ha
theorem den_pass {pos : Pos} : DenS X W (.Pass pos) svPass := PS.imp ps_pass fun N σ H ⟨r, e, h, er, hr, ok⟩ => ok σ r H (Step.refl r H) er hr
theorem den_break {pos : Pos} : DenS X W (.Break pos) svBrk := PS.imp ps_break fun N σ H ⟨r, e, h, er, hr, ok⟩ => ok σ r H (Step.refl r H) er hr
theorem den_cont {pos : Pos} : DenS X W (.Continue pos) svCont := PS.imp ps_continue fun N σ H ⟨r, e, h, er, hr, ok⟩ => ok σ r H (Step.refl r H) er hr
/-- what is never come to -/
theorem den_never {st : Stmt} : DenS X W st svStuck := PS.imp ps_never fun N σ H ⟨r, e, h, er, hr, ok⟩ => ok
theorem den_expr {ex : Expr} {pos : Pos} {f : Ev} (hf : DenE X W ex f) (hs : swapsWith ex none pos.line X.env = pure false := by rfl) : DenS X W (.Expr ex pos) (svExpr f) := PS.imp (ps_expr hf hs) fun N σ H ⟨r, e, h, er, hr, ok⟩ => by
  unfold svExpr at ok
  exact rdE_bindS er hr ok fun d h1 v r1 H1 s1 hr1 t1 er1 ok1 => ok1 σ r1 H1 (Step.refl _ _) er1 hr1
theorem den_ret {ex : Expr} {pos : Pos} {f : Ev} (hf : DenE X W ex f) : DenS X W (.Return (some ex) pos) (svRet f) := PS.imp (ps_ret hf) fun N σ H ⟨r, e, h, er, hr, ok⟩ => by
  unfold svRet at ok
  refine ⟨r, e, h, er, hr, ?_⟩
  cases hfe : f e h with
  | stuck => rw [hfe] at ok; exact ok
  | ok d h1 => rw [hfe] at ok; exact ok
  | exc x h1 => rw [hfe] at ok; exact fun c dx r' H' s hr' t => ok c dx σ r' H' s (er.mono s.mn) hr' t
theorem den_retN {pos : Pos} : DenS X W (.Return none pos) svRetN := PS.imp ps_retN fun N σ H ⟨r, e, h, er, hr, ok⟩ => ok _ r H (Step.refl r H) hr (.val .non)
theorem den_ifS {c : Expr} {a b : List Stmt} {pos : Pos} {t : Tv} {fa fb : Sv} (hc : DenT X W c t) (ha : DenB X W a fa) (hb : DenB X W b fb) : DenS X W (.If c a b pos) (svIf t fa fb) := PS.imp (ps_if hc ha hb) fun N σ H ⟨r, e, h, er, hr, ok⟩ => by
  unfold svIf at ok
  refine rdT_bindS er hr ok fun d h1 r1 H1 s1 hr1 er1 ok1 => ?_
  cases d with
  | true => rw [if_pos rfl]; exact ⟨r1, e, h1, er1, hr1, ok1⟩
  | false => rw [if_neg Bool.false_ne_true]; exact ⟨r1, e, h1, er1, hr1, ok1⟩
theorem rd_asg {K : PySem.W.Frag} {mg : Str → Option Value} {f : Ev} {g : Gv} {N : Ends} {σ : L2.St} {H : Hp} (q : rdS K mg W (svAsg f g) N σ H) : tAsg (rdV K mg W (pv f)) (rdG K mg g) N σ H := by
  obtain ⟨r, e, h, er, hr, ok⟩ := q
  unfold svAsg at ok
  refine rdV_bindS er hr ok fun d h1 v r1 H1 s1 hr1 t1 er1 ok1 => ?_
  refine ⟨r1, e, h1, d, er1, hr1, t1, ?_⟩
  cases hg : g d e h1 with
  | ok e1 h2 => rw [hg] at ok1; exact fun σ' r' H' s er' hr' => ok1 σ' r' H' s er' hr'
  | stuck => rw [hg] at ok1; exact ok1
  | exc => rw [hg] at ok1; exact ok1
theorem den_asg {tg ex : Expr} {pos : Pos} {f : Ev} {g : Gv} (hf : DenE X W ex f) (hg : DenG X tg g) (hs : swapsWithSole [tg] ex pos.line X.env = pure false := by rfl) (hw : swappedStores [tg] ex X.env = pure none := by rfl) (h1 : (assignEach [tg] X.env).map (·.2) = [assign tg X.env] := by rfl) : DenS X W (.Assign [tg] ex pos) (svAsg f g) := by
  exact PS.imp (ps_asg (den_pv hf) hg hs hw h1) fun N σ H q => rd_asg q
theorem den_set {i : Nat} {x : Str} {ex : Expr} {pos pos' : Pos} {f : Ev} (hN : X.N.Nodup) (hi : X.N[i]? = some x) (hx : Loc X.env.scope x) (hf : DenE X W ex f) (hs : swapsWith ex (some (.Name x pos')) pos.line X.env = pure false := by rfl) (hfn : X.fn x = true ∨ X.env.scope.names.lookup x = some .local := by first | exact .inl rfl | exact .inr rfl | assumption) : DenS X W (.Assign [.Name x pos'] ex pos) (svAsg f (gvName i)) :=
  PS.imp (ps_set hN hi hx (den_pv hf) hs hfn) fun N σ H q => by
    obtain ⟨r, e, h, er, hr, ok⟩ := q
    unfold svAsg at ok
    exact rdV_bindS er hr ok fun d h1 v r1 H1 s1 hr1 t1 er1 ok1 => ok1 _ r1 H1 (Step.refl _ _) (er1.set i t1) hr1
end
end BW

set_option Elab.async false
set_option linter.all false
set_option maxRecDepth 100000
set_option maxHeartbeats 4000000
namespace BW
open PySem PySem.Spec PyProof.Rows L2
variable [Tb]

/-! ### what is walked -/
structure Its where
  xs : List D
  /-- the list that must stay as it is -/
  g : Option (Nat × AO) := none
def guardOk (g : Option (Nat × AO)) (h : AH) : Bool := match g with
  | none => true
  | some (n, o) => decide (h[n]? = some o)
abbrev Iv := Env → AH → Out Its
section
variable (K : PySem.W.Frag) (mg : Str → Option Value)
/-- a walk over these items, from here on -/
def WalkRel (J : It) (r : List Addr) (H : Hp) (it : Its) : Prop := ∃ (G : Hp → Prop) (Y : Nat → Hp → V → Hp → Prop), Walk J it.xs.length G Y ∧
  (∀ r' H' h', Step r H r' H' → HRel K mg r' h' H' → guardOk it.g h' = true → G H') ∧
  (∀ i r1 h1 H1 x H2, i < it.xs.length → Step r H r1 H1 → HRel K mg r1 h1 H1 → guardOk it.g h1 = true → Y i H1 x H2 → Step r1 H1 r1 H2 ∧ HRel K mg r1 h1 H2 ∧ ∃ d, it.xs[i]? = some d ∧ Rel K mg r1 H2 x d)
def OkI (W : Wx) (σ : L2.St) (r : List Addr) (H : Hp) (R : It → Hp → Prop) : Out Its → Prop
  | .stuck => False
  | .ok it h' => ∀ J r' H', Step r H r' H' → HRel K mg r' h' H' → WalkRel K mg J r' H' it → R J H'
  | .exc x h' => ∀ c dx r' H', Step r H r' H' → HRel K mg r' h' H' → ExRel K mg r' H' c dx x → W c dx σ H'
def rdI (W : Wx) (f : Iv) : TI := fun σ H R => ∃ r e h, ERel K mg r e σ H ∧ HRel K mg r h H ∧ OkI K mg W σ r H R (f e h)
end
abbrev DenI (X : Cx) (W : Wx) (tg iter : Expr) (f : Iv) : Prop := PI X tg iter (rdI X.K X.mg W f)
section
variable {X : Cx} {W : Wx}
theorem PI.imp {tg iter : Expr} {t t' : TI} (h : PI X tg iter t) (q : ∀ σ H R, t' σ H R → t σ H R) : PI X tg iter t' := ⟨fun pins s σ H R I z => h.run pins s σ H R I (q σ H R z)⟩
theorem PI.or {tg iter : Expr} {t u : TI} (h : PI X tg iter t) (h' : PI X tg iter u) : PI X tg iter (fun σ H R => t σ H R ∨ u σ H R) := ⟨fun pins s σ H R I z => by
  rcases z with z | z
  · exact h.run pins s σ H R I z
  · exact h'.run pins s σ H R I z⟩
theorem PE.or {ex : Expr} {t u : TE} (h : PE X ex t) (h' : PE X ex u) : PE X ex (fun σ H Q => t σ H Q ∨ u σ H Q) := ⟨fun pins s σ H Q I z => by
  rcases z with z | z
  · exact h.run pins s σ H Q I z
  · exact h'.run pins s σ H Q I z⟩
/-- a list or a tuple, walked -/
def itsOf (h : AH) : D → Option Its
  | .tup xs => some { xs := xs }
  | .tl xs => some { xs := xs }
  | .rl xs => some { xs := xs }
  | .ref n => match h[n]? with
    | some (.lst xs) => some { xs := xs, g := some (n, .lst xs) }
    | _ => none
  | _ => none
def ivSeq (f : Ev) : Iv := fun e h => (f e h).bind fun d h1 => match itsOf h1 d with
  | some it => .ok it h1
  | none => .stuck
theorem yat_ok {K : PySem.W.Frag} {mg : Str → Option Value} {r : List Addr} {H : Hp} {vs : List V} {xs : List D} (q : Rels K mg r H vs xs) : ∀ i r1 h1 H1 x H2, i < xs.length → Step r H r1 H1 → HRel K mg r1 h1 H1 → YAt vs i H1 x H2 → Step r1 H1 r1 H2 ∧ HRel K mg r1 h1 H2 ∧ ∃ d, xs[i]? = some d ∧ Rel K mg r1 H2 x d := by
  rintro i r1 h1 H1 x H2 hi s hr ⟨rfl, hx⟩
  obtain ⟨d, h1, h2⟩ := (q.mono s.mn).get hx
  exact ⟨Step.refl _ _, hr, d, h1, h2⟩
theorem walk_len {J : It} {n m : Nat} {G : Hp → Prop} {Y : Nat → Hp → V → Hp → Prop} (w : Walk J n G Y) (e : n = m) : Walk J m G Y := e ▸ w
theorem itsOf_list {K : PySem.W.Frag} {mg : Str → Option Value} {r : List Addr} {h : AH} {H : Hp} {v : V} {d : D} {it : Its} (hr : HRel K mg r h H) (q : RelU K mg r H v d) (e : itsOf h d = some it) (ht : ∀ xs, d ≠ .tup xs) :
    ∃ a vs, v = .ref a ∧ SqL K H a vs ∧ WalkRel K mg (Itl K a) r H it := by
  cases q with
  | @tl p vs xs a b c q =>
    cases e
    refine ⟨p, vs, rfl, .inl (.inl b), _, _, walk_len walk_list q.length, fun r' H' h' s _ _ => .inl (.inl (s.keep _ _ b c NoOwn.of)), fun i r1 h1 H1 x H2 hi s hr1 _ y => yat_ok q i r1 h1 H1 x H2 hi s hr1 y⟩
  | val q => cases q with
    | tup => exact absurd rfl (ht _)
    | @ref n a hn =>
      simp only [itsOf] at e
      split at e
      · rename_i xs hx
        cases e
        obtain ⟨vs, h1, h2⟩ := hr.obj _ _ _ hx hn
        refine ⟨a, vs, rfl, .inl (.inl h1), fun H => ∃ ws, SqL K H a ws ∧ ws.length = xs.length, fun i H1 x H2 => H2 = H1 ∧ ∀ ws, SqL K H1 a ws → ws[i]? = some x, ?_, ?_, ?_⟩
        · refine ⟨fun i H hi ⟨ws, z1, z2⟩ => ⟨ws, ws[i]'(by rw [z2]; exact hi), z1, by simp [z2, hi]⟩, fun H ⟨ws, z1, z2⟩ => ⟨ws, z1, by rw [z2]; exact Nat.le_refl _⟩, fun i H x H' hi ⟨ws, z1, z2⟩ y => ⟨y.1, y.2⟩⟩
        · intro r' H' h' s hr' hg
          simp only [guardOk, decide_eq_true_eq] at hg
          obtain ⟨ws, z1, z2⟩ := hr'.obj _ _ _ hg (s.get hn)
          exact ⟨ws, .inl (.inl z1), z2.length⟩
        · rintro i r1 h1 H1 x H2 hi s hr1 hg ⟨rfl, y⟩
          simp only [guardOk, decide_eq_true_eq] at hg
          obtain ⟨ws, z1, z2⟩ := hr1.obj _ _ _ hg (s.get hn)
          obtain ⟨d, z3, z4⟩ := z2.get (y ws (.inl (.inl z1)))
          exact ⟨Step.refl _ _, hr1, d, z3, z4⟩
      · cases e
    | @rl a vs xs h1 h2 =>
      cases e
      exact ⟨a, vs, rfl, h1.sq, _, _, walk_len walk_list h2.length, fun r' H' h' s _ _ => (h1.mono s.mn).sq, fun i r1 h1 H1 x H2 hi s hr1 _ y => yat_ok h2 i r1 h1 H1 x H2 hi s hr1 y⟩
    | _ => cases e
theorem walk_tuple {K : PySem.W.Frag} {mg : Str → Option Value} {r : List Addr} {H : Hp} {a : Addr} {vs : List V} {xs : List D} (h1 : SqTr K H r a vs) (h2 : Rels K mg r H vs xs) : WalkRel K mg (Itt K a) r H { xs := xs } :=
  ⟨_, _, walk_len walk_tup h2.length, fun r' H' h' s _ _ => (h1.mono s.mn).sq, fun i r1 h1 H1 x H2 hi s hr1 _ y => yat_ok h2 i r1 h1 H1 x H2 hi s hr1 y⟩
theorem rdI_bind {K : PySem.W.Frag} {mg : Str → Option Value} {σ : L2.St} {r : List Addr} {e : Env} {H : Hp} {h : AH} {f : Ev} {k : D → AH → Out Its} {R : It → Hp → Prop} {Q' : VK} (er : ERel K mg r e σ H) (hr : HRel K mg r h H) (ok : OkI K mg W σ r H R ((f e h).bind k))
    (hk : ∀ d h1 v r1 H1, f e h = .ok d h1 → Step r H r1 H1 → HRel K mg r1 h1 H1 → RelT K mg H r1 H1 v d → ERel K mg r1 e σ H1 → OkI K mg W σ r1 H1 R (k d h1) → Q' v H1) : rdE K mg W f σ H Q' := by
  refine ⟨r, e, h, er, hr, ?_⟩
  cases hf : f e h with
  | stuck => rw [hf] at ok; exact ok
  | ok d h1 =>
    rw [hf] at ok
    refine fun v r1 H1 s q t => hk d h1 v r1 H1 hf s q t (er.mono s.mn) ?_
    rw [Out.bind_ok] at ok
    cases hkd : k d h1 with
    | stuck => rw [hkd] at ok; exact ok
    | ok it h' => rw [hkd] at ok; exact fun J r' H' s' => ok J r' H' (s.trans s')
    | exc x h' => rw [hkd] at ok; exact fun c dx r' H' s' => ok c dx r' H' (s.trans s')
  | exc x h1 => rw [hf] at ok; exact ok
/-- for x in e, e a list or a tuple -/
theorem den_iseq {tg ex : Expr} {f : Ev} (hf : DenE X W ex f) : DenI X W tg ex (ivSeq f) := PI.imp (PI.or (pi_list hf) (pi_tup hf)) fun σ H R ⟨r, e, h, er, hr, ok⟩ => by
  unfold ivSeq at ok
  cases hfe : f e h with
  | stuck => rw [hfe] at ok; exact ok.elim
  | exc x h1 => exact .inl ⟨r, e, h, er, hr, by rw [hfe] at ok ⊢; exact ok⟩
  | ok d h1 =>
    cases hi : itsOf h1 d with
    | none => rw [hfe, Out.bind_ok, hi] at ok; exact ok.elim
    | some it =>
      by_cases ht : ∃ xs, d = .tup xs
      · obtain ⟨xs, rfl⟩ := ht
        cases hi
        refine .inr (rdI_bind er hr ok fun d' h1' v r1 H1 hz s1 hr1 t1 er1 ok1 => ?_)
        rw [hfe] at hz
        cases hz
        obtain ⟨a, vs, rfl, z1, z2⟩ := t1.u.tup_inv
        exact ⟨a, rfl, ⟨vs, z1.sq⟩, ok1 _ r1 H1 (Step.refl _ _) hr1 (walk_tuple z1 z2)⟩
      · refine .inl (rdI_bind er hr ok fun d' h1' v r1 H1 hz s1 hr1 t1 er1 ok1 => ?_)
        rw [hfe] at hz
        cases hz
        obtain ⟨a, vs, rfl, z1, z2⟩ := itsOf_list hr1 t1.u hi (fun xs z => ht ⟨xs, z⟩)
        rw [hi] at ok1
        exact ⟨a, rfl, ⟨vs, z1⟩, ok1 _ r1 H1 (Step.refl _ _) hr1 z2⟩
/-- ranges -/
def rangeD (lo : Int) (n : Nat) : List D := (List.range n).map fun i => .int (lo + (i : Nat))
def rangeC (lo c : Int) (n : Nat) : List D := (List.range n).map fun i => .int (lo + (i : Nat) * c)
def in62 (i : Int) : Bool := decide (-(2 ^ 62) ≤ i) && decide (i < 2 ^ 62)
def ivRange1 (f : Ev) : Iv := fun e h => (f e h).bind fun d h1 => match d with
  | .int n => if in62 n then .ok { xs := rangeD 0 n.toNat } h1 else .stuck
  | _ => .stuck
def ivRange2 (f g : Ev) : Iv := fun e h => (f e h).bind fun d h1 => (g e h1).bind fun d2 h2 => match d, d2 with
  | .int a, .int b => if in62 a && in62 b then .ok { xs := rangeD a (b - a).toNat } h2 else .stuck
  | _, _ => .stuck
theorem walk_rng {K : PySem.W.Frag} {mg : Str → Option Value} {r : List Addr} {H : Hp} {lo : Int} {n : Nat} : WalkRel K mg (Itr lo n) r H { xs := rangeD lo n } := by
  have hl : (rangeD lo n).length = n := by simp [rangeD]
  refine ⟨_, _, walk_len walk_range hl.symm, fun _ _ _ _ _ _ => trivial, ?_⟩
  rintro i r1 h1 H1 x H2 hi s hr1 _ ⟨rfl, rfl⟩
  rw [show (Its.mk (rangeD lo n) none).xs = rangeD lo n from rfl, hl] at hi
  exact ⟨Step.refl _ _, hr1, .int (lo + i), by simp [rangeD, hi], .int _⟩
end
end BW

set_option Elab.async false
set_option linter.all false
set_option maxRecDepth 100000
set_option maxHeartbeats 4000000
namespace BW
open PySem PySem.Spec PyProof.Rows L2
variable [Tb]
section
variable {X : Cx} {W : Wx}
theorem OkI.after {K : PySem.W.Frag} {mg : Str → Option Value} {σ : L2.St} {r r1 : List Addr} {H H1 : Hp} {R : It → Hp → Prop} {o : Out Its} (s : Step r H r1 H1) (q : OkI K mg W σ r H R o) : OkI K mg W σ r1 H1 R o := by
  cases o with
  | stuck => exact q
  | ok it h' => exact fun J r' H' s' => q J r' H' (s.trans s')
  | exc x h' => exact fun c dx r' H' s' => q c dx r' H' (s.trans s')
/-- a row of arguments, then an iterator -/
def ivBy (fs : List Ev) (k : List D → AH → Out Its) : Iv := fun e h => (evs fs e h).bind k
theorem rdA_bindI {K : PySem.W.Frag} {mg : Str → Option Value} {σ : L2.St} {r : List Addr} {e : Env} {H : Hp} {h : AH} {f : Av} {k : List D → AH → Out Its} {R : It → Hp → Prop} {Q' : List V → Hp → Prop} (er : ERel K mg r e σ H) (hr : HRel K mg r h H) (ok : OkI K mg W σ r H R ((f e h).bind k))
    (hk : ∀ d h1 v r1 H1, Step r H r1 H1 → HRel K mg r1 h1 H1 → RelTs K mg r1 H1 v d → ERel K mg r1 e σ H1 → OkI K mg W σ r1 H1 R (k d h1) → Q' v H1) : rdA K mg W f σ H Q' := by
  refine ⟨r, e, h, er, hr, ?_⟩
  cases hf : f e h with
  | stuck => rw [hf] at ok; exact ok
  | ok d h1 => rw [hf] at ok; exact fun v r1 H1 s q t => hk d h1 v r1 H1 s q t (er.mono s.mn) (OkI.after s ok)
  | exc x h1 => rw [hf] at ok; exact ok
theorem RelTs.three {K : PySem.W.Frag} {mg : Str → Option Value} {r : List Addr} {H : Hp} {vs : List V} {d d' d2 : D} (q : RelTs K mg r H vs [d, d', d2]) : ∃ v v' v2, vs = [v, v', v2] ∧ RelU K mg r H v d ∧ RelU K mg r H v' d' ∧ RelU K mg r H v2 d2 := by
  cases q with
  | cons a b => cases b with
    | cons b c => cases c with
      | cons c z => cases z; exact ⟨_, _, _, rfl, a, b, c⟩
def kR1 : List D → AH → Out Its
  | [.int n], h => if in62 n then .ok { xs := rangeD 0 n.toNat } h else .stuck
  | _, _ => .stuck
def kR2 : List D → AH → Out Its
  | [.int a, .int b], h => if in62 a && in62 b then .ok { xs := rangeD a (b - a).toNat } h else .stuck
  | _, _ => .stuck
def kR3 : List D → AH → Out Its
  | [.int a, .int b, .int c], h => if in62 a && in62 b && decide (c = -1) then .ok { xs := rangeC a (-1) (a - b).toNat } h else .stuck
  | _, _ => .stuck
theorem in62_ok {i : Int} (h : in62 i = true) : -(2 ^ 62) ≤ i ∧ i < 2 ^ 62 := by
  unfold in62 at h
  simpa [Bool.and_eq_true, decide_eq_true_eq] using h
theorem den_range1 {a tg : Expr} {p pos : Pos} {f : Ev} (hg : Gl X "range") (hm : X.mg "range" = none) (ha : DenA X W [a] (evs [f])) (hs : starEach [a] X.env = [(false, eval a X.env)] := by rfl) : DenI X W tg (.Call (.Name "range" p) [a] [] pos) (ivBy [f] kR1) :=
  PI.imp (pi_range1 hg hm ha hs) fun σ H R ⟨r, e, h, er, hr, ok⟩ => by
    refine rdA_bindI (k := kR1) er hr ok fun ds h1 vs r1 H1 s1 hr1 t1 er1 ok1 => ?_
    unfold kR1 at ok1
    split at ok1
    · split at ok1
      · rename_i hz
        obtain ⟨v, rfl, t⟩ := t1.one
        obtain rfl := t.int_inv
        obtain ⟨z1, z2⟩ := in62_ok hz
        exact ⟨_, rfl, z1, z2, ok1 _ r1 H1 (Step.refl _ _) hr1 walk_rng⟩
      · exact ok1.elim
    · exact ok1.elim
theorem den_range2 {a b tg : Expr} {p pos : Pos} {f g : Ev} (hg : Gl X "range") (hm : X.mg "range" = none) (ha : DenA X W [a, b] (evs [f, g])) (hs : starEach [a, b] X.env = [(false, eval a X.env), (false, eval b X.env)] := by rfl) (hs2 : starEach [b] X.env = [(false, eval b X.env)] := by rfl) : DenI X W tg (.Call (.Name "range" p) [a, b] [] pos) (ivBy [f, g] kR2) :=
  PI.imp (pi_range2 hg hm ha hs hs2) fun σ H R ⟨r, e, h, er, hr, ok⟩ => by
    refine rdA_bindI (k := kR2) er hr ok fun ds h1 vs r1 H1 s1 hr1 t1 er1 ok1 => ?_
    unfold kR2 at ok1
    split at ok1
    · split at ok1
      · rename_i hz
        obtain ⟨v, v', rfl, t, t'⟩ := t1.two
        obtain rfl := t.int_inv
        obtain rfl := t'.int_inv
        obtain ⟨z0, z3⟩ := Bool.and_eq_true_iff.mp hz
        exact ⟨_, _, rfl, ⟨(in62_ok z0).1, (in62_ok z0).2, (in62_ok z3).1, (in62_ok z3).2⟩, ok1 _ r1 H1 (Step.refl _ _) hr1 walk_rng⟩
      · exact ok1.elim
    · exact ok1.elim
theorem walk_rngC {K : PySem.W.Frag} {mg : Str → Option Value} {r : List Addr} {H : Hp} {lo c : Int} {n : Nat} : WalkRel K mg (Itc lo c n) r H { xs := rangeC lo c n } := by
  have hl : (rangeC lo c n).length = n := by simp [rangeC]
  refine ⟨_, _, walk_len walk_rangeC hl.symm, fun _ _ _ _ _ _ => trivial, ?_⟩
  rintro i r1 h1 H1 x H2 hi s hr1 _ ⟨rfl, rfl⟩
  rw [show (Its.mk (rangeC lo c n) none).xs = rangeC lo c n from rfl, hl] at hi
  exact ⟨Step.refl _ _, hr1, .int (lo + i * c), by simp [rangeC, hi], .int _⟩
theorem den_range3 {a b c tg : Expr} {p pos : Pos} {f g k : Ev} (hg : Gl X "range") (hm : X.mg "range" = none) (ha : DenA X W [a, b, c] (evs [f, g, k])) (hs : starEach [a, b, c] X.env = (false, eval a X.env) :: starEach [b, c] X.env := by rfl) (hpl : (backTo pos (starEach [b, c] X.env)).any (·.1) = false := by rfl) : DenI X W tg (.Call (.Name "range" p) [a, b, c] [] pos) (ivBy [f, g, k] kR3) :=
  PI.imp (pi_range3 hg hm ha hs hpl) fun σ H R ⟨r, e, h, er, hr, ok⟩ => by
    refine rdA_bindI (k := kR3) er hr ok fun ds h1 vs r1 H1 s1 hr1 t1 er1 ok1 => ?_
    unfold kR3 at ok1
    split at ok1
    · split at ok1
      · rename_i hz
        obtain ⟨v, v', v2, rfl, t, t', t2⟩ := t1.three
        obtain rfl := t.int_inv
        obtain rfl := t'.int_inv
        obtain rfl := t2.int_inv
        obtain ⟨z0, z5⟩ := Bool.and_eq_true_iff.mp hz
        obtain ⟨z0, z3⟩ := Bool.and_eq_true_iff.mp z0
        have e5 := of_decide_eq_true z5
        subst e5
        exact ⟨_, _, _, _, rfl, RgC.neg (in62_ok z0).1 (in62_ok z0).2 (in62_ok z3).1 (in62_ok z3).2, ok1 _ r1 H1 (Step.refl _ _) hr1 walk_rngC⟩
      · exact ok1.elim
    · exact ok1.elim

/-! ### for -/
def forGo (g : Option (Nat × AO)) (gv : Gv) (body : Sv) : List D → Env → AH → Fl
  | [], e, h => if guardOk g h then .nx e h else .stuck
  | d :: ds, e, h => if guardOk g h then match gv d e h with
    | .ok e1 h1 => match body e1 h1 with
      | .nx e2 h2 => forGo g gv body ds e2 h2
      | .cont e2 h2 => forGo g gv body ds e2 h2
      | .brk e2 h2 => .nx e2 h2
      | o => o
    | _ => .stuck
    else .stuck
def svFor (iv : Iv) (gv : Gv) (body : Sv) : Sv := fun e h => (iv e h).toFl e fun it h1 => forGo it.g gv body it.xs e h1
theorem den_for {tg iter : Expr} {body : List Stmt} {pos : Pos} {iv : Iv} {gv : Gv} {fb : Sv} (hp : PassesOwn (model X.prog X.w) X.A X.env X.xe) (hc : X.calm = true) (hi : DenI X W tg iter iv) (hg : DenG X tg gv) (hb : DenB X W body fb)
    (hs : ∀ x, foldedSetIterable iter X.env x = pure x := by intro _; rfl) : DenS X W (.For tg iter body [] pos) (svFor iv gv fb) :=
  PS.imp (ps_for hp hc hi hg hb hs) fun N σ H ⟨r, e, h, er, hr, ok⟩ => by
    unfold svFor at ok
    refine ⟨r, e, h, er, hr, ?_⟩
    cases hiv : iv e h with
    | stuck => rw [hiv] at ok; exact ok
    | exc x h1 => rw [hiv] at ok; exact fun c dx r' H' s q t => ok c dx σ r' H' s (er.mono s.mn) q t
    | ok it h1 =>
      rw [hiv, Out.toFl_ok] at ok
      intro J r1 H1 s1 hr1 ⟨G, Y, wk, wg, wy⟩
      refine for_it wk (fun i σ' H' => ∃ r' e' h', Step r1 H1 r' H' ∧ ERel X.K X.mg r' e' σ' H' ∧ HRel X.K X.mg r' h' H' ∧ OkS X.K X.mg W r' H' N (forGo it.g gv fb (it.xs.drop i) e' h'))
        ⟨r1, e, h1, Step.refl _ _, er.mono s1.mn, hr1, OkS.after s1 ok⟩ ?_ ?_ ?_
      · rintro i σ' H' hi ⟨r', e', h', s', er', hr', ok'⟩
        refine wg r' H' h' s' hr' ?_
        cases hd : it.xs.drop i with
        | nil =>
          rw [hd] at ok'
          simp only [forGo] at ok'
          split at ok'
          · assumption
          · exact ok'.elim
        | cons d ds =>
          rw [hd] at ok'
          simp only [forGo] at ok'
          split at ok'
          · assumption
          · exact ok'.elim
      · rintro i x σ' H' H2 hi ⟨r', e', h', s', er', hr', ok'⟩ hy
        have hd : it.xs.drop i = it.xs[i] :: it.xs.drop (i + 1) := List.drop_eq_getElem_cons hi
        rw [hd] at ok'
        simp only [forGo] at ok'
        split at ok'
        · rename_i hgd
          obtain ⟨s2, hr2, d, hd2, q2⟩ := wy i r' h' H' x H2 hi s' hr' hgd hy
          rw [List.getElem?_eq_getElem hi] at hd2
          cases hd2
          refine ⟨r', e', h', _, er'.mono s2.mn, hr2, q2, ?_⟩
          cases hgv : gv it.xs[i] e' h' with
          | stuck => rw [hgv] at ok'; exact ok'
          | exc => rw [hgv] at ok'; exact ok'
          | ok e3 h3 =>
            rw [hgv] at ok'
            dsimp only at ok'
            intro σ3 r3 H3 s3 er3 hr3
            refine ⟨r3, e3, h3, er3, hr3, ?_⟩
            have ok3 := OkS.after (s2.trans s3) ok'
            cases hbd : fb e3 h3 with
            | stuck => rw [hbd] at ok3; exact ok3
            | nx e4 h4 =>
              rw [hbd] at ok3
              exact fun σ4 r4 H4 s4 er4 hr4 => ⟨r4, e4, h4, ((s'.trans s2).trans s3).trans s4, er4, hr4, OkS.after s4 ok3⟩
            | cont e4 h4 =>
              rw [hbd] at ok3
              exact fun σ4 r4 H4 s4 er4 hr4 => ⟨r4, e4, h4, ((s'.trans s2).trans s3).trans s4, er4, hr4, OkS.after s4 ok3⟩
            | brk e4 h4 => rw [hbd] at ok3; exact ok3
            | ret d h4 => rw [hbd] at ok3; exact ok3
            | exc x e4 h4 => rw [hbd] at ok3; exact ok3
        · exact ok'.elim
      · rintro σ' H' ⟨r', e', h', s', er', hr', ok'⟩
        rw [List.drop_length] at ok'
        simp only [forGo] at ok'
        split at ok'
        · exact ok' σ' r' H' (Step.refl _ _) er' hr'
        · exact ok'.elim
/-! ### while -/
def svWhile (t : Tv) (body : Sv) : Nat → Sv
  | 0, _, _ => .stuck
  | n + 1, e, h => (t e h).toFl e fun b h1 => if b then match body e h1 with
      | .nx e2 h2 => svWhile t body n e2 h2
      | .cont e2 h2 => svWhile t body n e2 h2
      | .brk e2 h2 => .nx e2 h2
      | o => o
    else .nx e h1
theorem den_while {c : Expr} {body : List Stmt} {pos : Pos} {t : Tv} {fb : Sv} {n : Nat} (hp : PassesOwn (model X.prog X.w) X.A X.env X.xe) (hc : DenT X W c t) (hb : DenB X W body fb) : DenS X W (.While c body [] pos) (svWhile t fb n) :=
  PS.imp (ps_while hp hc hb) fun N σ H ⟨r, e, h, er, hr, ok⟩ => by
    refine ⟨fun m σ' H' => ∃ r' e' h', ERel X.K X.mg r' e' σ' H' ∧ HRel X.K X.mg r' h' H' ∧ OkS X.K X.mg W r' H' N (svWhile t fb m e' h'), ⟨n, r, e, h, er, hr, ok⟩, ?_⟩
    rintro m σ' H' ⟨r', e', h', er', hr', ok'⟩
    cases m with
    | zero => exact ok'.elim
    | succ m =>
      simp only [svWhile] at ok'
      refine rdT_bindS er' hr' ok' fun b h1 r1 H1 s1 hr1 er1 ok1 => ?_
      cases b with
      | false => rw [if_neg Bool.false_ne_true]; exact ok1 σ' r1 H1 (Step.refl _ _) er1 hr1
      | true =>
        rw [if_pos rfl]
        refine ⟨fun σ4 H4 => ∃ r4 e4 h4, ERel X.K X.mg r4 e4 σ4 H4 ∧ HRel X.K X.mg r4 h4 H4 ∧ OkS X.K X.mg W r4 H4 N (svWhile t fb m e4 h4), fun σ4 H4 z => ⟨m, Nat.lt_succ_self m, z⟩, r1, e', h1, er1, hr1, ?_⟩
        rw [if_pos rfl] at ok1
        cases hbd : fb e' h1 with
        | stuck => rw [hbd] at ok1; exact ok1
        | nx e4 h4 => rw [hbd] at ok1; exact fun σ4 r4 H4 s4 er4 hr4 => ⟨r4, e4, h4, er4, hr4, OkS.after s4 ok1⟩
        | cont e4 h4 => rw [hbd] at ok1; exact fun σ4 r4 H4 s4 er4 hr4 => ⟨r4, e4, h4, er4, hr4, OkS.after s4 ok1⟩
        | brk e4 h4 => rw [hbd] at ok1; exact ok1
        | ret d h4 => rw [hbd] at ok1; exact ok1
        | exc x e4 h4 => rw [hbd] at ok1; exact ok1
end
end BW

set_option Elab.async false
set_option linter.all false
set_option maxRecDepth 100000
set_option maxHeartbeats 4000000
namespace BW
open PySem PySem.Spec PyProof.Rows L2
variable [Tb]

/-! ### comprehensions -/
def wipeE (e : Env) : List Nat → Env
  | [] => e
  | v :: vs => (wipeE e vs).set v none
def lcGo (g : Option (Nat × AO)) (gv : Gv) (tt : Tv) (elt : Ev) (e : Env) : List D → AH → Out (List D)
  | [], h => if guardOk g h then .ok [] h else .stuck
  | d :: ds, h => if guardOk g h then match gv d e h with
    | .ok e1 h1 => match tt e1 h1 with
      | .ok true h2 => match pv elt e1 h2 with
        | .ok y h3 => (lcGo g gv tt elt e ds h3).bind fun ys h4 => .ok (y :: ys) h4
        | _ => .stuck
      | .ok false h2 => lcGo g gv tt elt e ds h2
      | _ => .stuck
    | _ => .stuck
    else .stuck
def evLc (iv : Iv) (own : List Nat) (gv : Gv) (tt : Tv) (elt : Ev) : Ev := fun e h => (iv e h).bind fun it h1 => if it.xs.length < 16777216 then (lcGo it.g gv tt elt (wipeE e own) it.xs h1).bind fun ds h2 => .ok (.tl ds) h2 else .stuck
def tvYes : Tv := fun _ h => .ok true h
/-- the target of a comprehension: slots alone -/
inductive Tgt where
  | one (i : Nat)
  | two (i j : Nat)
  | three (i j k : Nat)
def Tgt.gv : Tgt → Gv
  | .one i => gvName i
  | .two i j => gvTup [gvName i, gvName j]
  | .three i j k => gvTup [gvName i, gvName j, gvName k]
def Tgt.own : Tgt → List Nat
  | .one i => [i]
  | .two i j => [i, j]
  | .three i j k => [i, j, k]
section
variable {X : Cx} {W : Wx}
abbrev W0 : Wx := fun _ _ _ _ => False
theorem wipe_set {σ : L2.St} {v : Option V} {i : Nat} : ∀ {vs : List Nat}, i ∈ vs → wipe (σ.set i v) vs = wipe σ vs
  | [], h => by cases h
  | w :: vs, h => by
    unfold wipe
    by_cases hm : i ∈ vs
    · rw [wipe_set hm]
    · rcases List.mem_cons.mp h with rfl | h
      · have : ∀ (ws : List Nat), i ∉ ws → wipe (σ.set i v) ws = (wipe σ ws).set i v := by
          intro ws
          induction ws with
          | nil => intro _; rfl
          | cons a ws ih =>
            intro hn
            unfold wipe
            rw [ih (fun z => hn (List.mem_cons_of_mem _ z)), List.set_comm _ _ (fun z => hn (by rw [z]; exact List.mem_cons_self))]
        rw [this vs hm, List.set_set]
      · exact absurd h hm
theorem wipe_sub {σ : L2.St} : ∀ (vs ws : List Nat), (∀ v ∈ vs, v ∈ ws) → L2.wipe (L2.wipe σ vs) ws = L2.wipe σ ws
  | [], _, _ => rfl
  | v :: vs, ws, h => by
    show L2.wipe ((L2.wipe σ vs).set v none) ws = _
    rw [wipe_set (h v List.mem_cons_self)]
    exact wipe_sub vs ws fun z hz => h z (List.mem_cons_of_mem _ hz)
theorem ERel.wipe {K : PySem.W.Frag} {mg : Str → Option Value} {r : List Addr} {e : Env} {σ : L2.St} {H : Hp} (q : ERel K mg r e σ H) : ∀ vs : List Nat, ERel K mg r (wipeE e vs) (L2.wipe σ vs) H
  | [] => q
  | v :: vs => by
    have ih := ERel.wipe q vs
    unfold wipeE L2.wipe
    refine ⟨by rw [List.length_set, List.length_set]; exact ih.len, fun j y hy => ?_⟩
    by_cases hj : v = j
    · subst hj
      rw [List.getElem?_set] at hy
      simp only [if_true] at hy
      split at hy <;> cases hy
    · rw [List.getElem?_set_ne hj] at hy ⊢
      exact ih.at_ j y hy
def Tgt.tg (K : PySem.W.Frag) : Tgt → TG
  | .one i => gName i
  | .two i j => gTup K 2 (gCons (gName i) (gCons (gName j) gNil))
  | .three i j k => gTup K 3 (gCons (gName i) (gCons (gName j) (gCons (gName k) gNil)))
theorem tgt_run {K : PySem.W.Frag} {mg : Str → Option Value} (tg : Tgt) {r : List Addr} {H : Hp} {σ : L2.St} {x : V} {d : D} {e e1 : Env} {h h1 : AH} {Q : L2.St → Hp → Prop} (z : tg.gv d e h = .ok e1 h1) (er : ERel K mg r e σ H) (q : Rel K mg r H x d)
    (k : ∀ σ1, ERel K mg r e1 σ1 H → L2.wipe σ1 tg.own = L2.wipe σ tg.own → h1 = h → Q σ1 H) : tg.tg K x σ H Q := by
  cases tg with
  | one i =>
    simp only [Tgt.gv, gvName] at z
    cases z
    exact k _ (er.set i q) (wipe_set (by simp [Tgt.own])) rfl
  | two i j =>
    simp only [Tgt.gv, gvTup] at z
    split at z
    · rename_i ds
      rcases ds with _ | ⟨a, _ | ⟨b, _ | ⟨c, ds⟩⟩⟩ <;> simp [gvs, gvName] at z
      obtain ⟨rfl, rfl⟩ := z
      obtain ⟨p, vs, rfl, h1, h2⟩ := RelU.tup_inv (RelT.val q : RelU K mg r H x _)
      cases h2 with
      | cons q1 h2 => cases h2 with
        | cons q2 h2 =>
          cases h2
          exact ⟨p, _, rfl, h1.sq, rfl, _, _, rfl, _, _, rfl, rfl, k _ ((er.set i q1).set j q2) (by rw [wipe_set (by simp [Tgt.own]), wipe_set (by simp [Tgt.own])]) rfl⟩
    · cases z
  | three i j l =>
    simp only [Tgt.gv, gvTup] at z
    split at z
    · rename_i ds
      rcases ds with _ | ⟨a, _ | ⟨b, _ | ⟨c, _ | ⟨c', ds⟩⟩⟩⟩ <;> simp [gvs, gvName] at z
      obtain ⟨rfl, rfl⟩ := z
      obtain ⟨p, vs, rfl, h1, h2⟩ := RelU.tup_inv (RelT.val q : RelU K mg r H x _)
      cases h2 with
      | cons q1 h2 => cases h2 with
        | cons q2 h2 => cases h2 with
          | cons q3 h2 =>
            cases h2
            exact ⟨p, _, rfl, h1.sq, rfl, _, _, rfl, _, _, rfl, _, _, rfl, rfl, k _ (((er.set i q1).set j q2).set l q3) (by rw [wipe_set (by simp [Tgt.own]), wipe_set (by simp [Tgt.own]), wipe_set (by simp [Tgt.own])]) rfl⟩
    · cases z
/-- a new object that is not of the list is changed -/
theorem Step.mutNew {r r' : List Addr} {H H' : Hp} {p : Addr} {o : HO} (s : Step r H r' H') (h0 : H p = none) : Step r H r' (upd H' p o) where
  pre := s.pre
  new := s.new
  keep := fun b u e hb ho => by rw [upd_ne (ne_of_none e h0)]; exact s.keep b u e hb ho
  stay := fun b f => by
    by_cases hb : b = p
    · rw [hb]; exact .of h0
    · exact s.stay b fun u e => f u (by rw [upd_ne hb]; exact e)
theorem Mn.mutNew {r : List Addr} {H : Hp} {p : Addr} {u o : HO} (hp : H p = some u) (hf : ¬ Fixed u) : Mn r H r (upd H p o) :=
  ⟨List.prefix_refl _, fun b w e hb hw => ⟨hb, by
    have ne : b ≠ p := fun z => by subst z; rw [hp] at e; cases e; exact hf hw
    rw [upd_ne ne]; exact e⟩⟩
theorem Mo.mutNew {r : List Addr} {H : Hp} {p : Addr} {u o : HO} (hp : H p = some u) (hf : ¬ Fixed u) (hn : NoOwn u) (ho : ∀ ps, o ≠ .tbl ps := by intro _ z; cases z) : Mo r H r (upd H p o) :=
  ⟨Mn.mutNew hp hf, fun b y e hb => ⟨hb, by
    have ne : b ≠ p := fun z => by subst z; rw [hp] at e; cases e; exact hn.1 y rfl
    rw [upd_ne ne]; exact e⟩, fun b y e hb => ⟨hb, by
    have ne : b ≠ p := fun z => by subst z; rw [hp] at e; cases e; exact hn.2 y rfl
    rw [upd_ne ne]; exact e⟩⟩
theorem HRel.mutNew {K : PySem.W.Frag} {mg : Str → Option Value} {r : List Addr} {h : AH} {H : Hp} {p : Addr} {u o : HO} (q : HRel K mg r h H) (hn : p ∉ r) (hp : H p = some u) (hf : ¬ Fixed u) (ho : NoOwn u) (ht : ∀ ps, o ≠ .tbl ps := by intro _ z; cases z) : HRel K mg r h (upd H p o) :=
  q.mono (Mo.mutNew hp hf ho ht) fun a ha => upd_ne fun z => hn (z ▸ ha)
theorem Mn.trans {r r1 r2 : List Addr} {H H1 H2 : Hp} (s : Mn r H r1 H1) (t : Mn r1 H1 r2 H2) : Mn r H r2 H2 :=
  ⟨s.pre.trans t.pre, fun b o h hb ho => t.keep b o (s.keep b o h hb ho).2 (s.keep b o h hb ho).1 ho⟩
theorem rd_lc {K : PySem.W.Frag} {mg : Str → Option Value} {iv : Iv} {tg : Tgt} {tt : Tv} {elt : Ev} {σ : L2.St} {H : Hp} {Q : VK} (q : rdE K mg W (evLc iv tg.own tg.gv tt elt) σ H Q) : tLc (rdI K mg W iv) (tg.tg K) (rdT K mg W0 tt) (rdV K mg W0 (pv elt)) tg.own σ H Q := by
  obtain ⟨r, e, h, er, hr, ok⟩ := q
  unfold evLc at ok
  refine ⟨r, e, h, er, hr, ?_⟩
  cases hiv : iv e h with
  | stuck => rw [hiv] at ok; exact ok
  | exc x h1 => rw [hiv] at ok; exact ok
  | ok it h1 =>
    rw [hiv, Out.bind_ok] at ok
    intro J r1 H1 s1 hr1 ⟨G, Y, wk, wg, wy⟩ A hA
    split at ok
    · rename_i hlen
      have sA : Step r1 H1 r1 (upd H1 A (.lst [])) := Step.alloc hA
      -- what is left to be done behind the rest
      refine lc_it wk (fun i H' => ∃ r' h' acc ys, Step r1 H1 r' H' ∧ A ∉ r' ∧ H' A = some (.lst acc) ∧ acc.length ≤ i ∧ Rels K mg r' H' acc ys ∧ HRel K mg r' h' H' ∧
          OkE K mg W σ r H Q ((lcGo it.g tg.gv tt elt (wipeE e tg.own) (it.xs.drop i) h').bind fun ds h2 => .ok (.tl (ys ++ ds)) h2))
        ⟨r1, h1, [], [], sA, fun z => hr1.there z hA, upd_same, Nat.le_refl _, .nil, hr1.alloc hA, by simpa using ok⟩ ?_ ?_ ?_
      · rintro i H' hi ⟨r', h', acc, ys, s', hn, hacc, hle, hys, hr', ok'⟩
        refine wg r' H' h' s' hr' ?_
        cases hd : it.xs.drop i with
        | nil =>
          rw [hd] at ok'
          simp only [lcGo] at ok'
          split at ok'
          · assumption
          · exact ok'.elim
        | cons d ds =>
          rw [hd] at ok'
          simp only [lcGo] at ok'
          split at ok'
          · assumption
          · exact ok'.elim
      · rintro i x H' H2 hi ⟨r', h', acc, ys, s', hn, hacc, hle, hys, hr', ok'⟩ hy
        have hd : it.xs.drop i = it.xs[i] :: it.xs.drop (i + 1) := List.drop_eq_getElem_cons hi
        rw [hd] at ok'
        simp only [lcGo] at ok'
        split at ok'
        · rename_i hgd
          obtain ⟨s2, hr2, d, hd2, q2⟩ := wy i r' h' H' x H2 hi s' hr' hgd hy
          rw [List.getElem?_eq_getElem hi] at hd2
          cases hd2
          have er2 : ERel K mg r' (wipeE e tg.own) (L2.wipe σ tg.own) H2 := (er.mono ((s1.trans s').trans s2).mn).wipe _
          cases hgv : tg.gv it.xs[i] (wipeE e tg.own) h' with
          | stuck => rw [hgv] at ok'; exact ok'.elim
          | exc => rw [hgv] at ok'; exact ok'.elim
          | ok e3 h3 =>
            rw [hgv] at ok'
            dsimp only at ok'
            refine tgt_run tg hgv er2 q2 fun σ3 er3 hw3 eh => ⟨by rw [hw3, wipe_sub _ _ fun _ z => z], ?_⟩
            subst eh
            refine ⟨r', e3, h3, er3, hr2, ?_⟩
            have hacc2 : H2 A = some (.lst acc) := s2.keep _ _ hacc hn NoOwn.of
            cases htt : tt e3 h3 with
            | stuck => rw [htt] at ok'; exact ok'.elim
            | exc => rw [htt] at ok'; exact ok'.elim
            | ok b h4 =>
              rw [htt] at ok'
              intro r4 H4 s4 hr4
              have hacc4 : H4 A = some (.lst acc) := s4.keep _ _ hacc2 hn NoOwn.of
              have hn4 : A ∉ r4 := s4.notin hn hacc2 NoOwn.of
              have s14 : Step r1 H1 r4 H4 := (s'.trans s2).trans s4
              cases b with
              | false =>
                rw [if_neg Bool.false_ne_true]
                exact ⟨r4, h4, acc, ys, s14, hn4, hacc4, Nat.le_succ_of_le hle, hys.mono (s2.trans s4).mn, hr4, ok'⟩
              | true =>
                rw [if_pos rfl]
                dsimp only at ok'
                refine ⟨r4, e3, h4, er3.mono s4.mn, hr4, ?_⟩
                cases hel : pv elt e3 h4 with
                | stuck => rw [hel] at ok'; exact ok'.elim
                | exc => rw [hel] at ok'; exact ok'.elim
                | ok y h5 =>
                  rw [hel] at ok'
                  intro v5 r5 H5 s5 hr5 q5
                  have hacc5 : H5 A = some (.lst acc) := s5.keep _ _ hacc4 hn4 NoOwn.of
                  have hn5 : A ∉ r5 := s5.notin hn4 hacc4 NoOwn.of
                  have m5 : Mn r5 H5 r5 (upd H5 A (.lst (acc ++ [v5]))) := Mn.mutNew hacc5 (fun z => z)
                  refine ⟨acc, hacc5, Nat.lt_of_le_of_lt hle (Nat.lt_trans hi hlen), r5, h5, acc ++ [v5], ys ++ [y], (s14.trans s5).mutNew hA, hn5, upd_same, by rw [List.length_append, List.length_singleton]; omega, ?_, hr5.mutNew hn5 hacc5 (fun z => z) NoOwn.of, ?_⟩
                  · exact (((hys.mono (s2.trans s4).mn).mono s5.mn).mono m5).append (.cons (q5.mono m5) .nil)
                  · dsimp only at ok'
                    cases hrest : lcGo it.g tg.gv tt elt (wipeE e tg.own) (it.xs.drop (i + 1)) h5 with
                    | stuck => rw [hrest] at ok'; exact ok'
                    | exc => rw [hrest] at ok'; exact ok'
                    | ok zs h6 =>
                      rw [hrest] at ok'
                      simp only [Out.bind_ok, List.append_assoc, List.cons_append, List.nil_append] at ok' ⊢
                      exact ok'
        · exact ok'.elim
      · rintro H' ⟨r', h', acc, ys, s', hn, hacc, hle, hys, hr', ok'⟩
        rw [List.drop_length] at ok'
        simp only [lcGo] at ok'
        split at ok'
        · simp only [Out.bind_ok, List.append_nil] at ok'
          exact ok' _ r' H' (s1.trans s') hr' (.tl (s1.stay _ (.of hA)) hacc hn hys)
        · exact ok'.elim
    · exact ok.elim
end
end BW

set_option Elab.async false
set_option linter.all false
set_option maxRecDepth 100000
set_option maxHeartbeats 4000000
namespace BW
open PySem PySem.Spec PyProof.Rows L2
variable [Tb]
section
variable {X : Cx} {W : Wx}
theorem PTs.imp {ifs : List Expr} {t t' : TT} (h : PTs X ifs t) (q : ∀ σ H Q, t' σ H Q → t σ H Q) : PTs X ifs t' := ⟨fun pins s σ H Q I z => h.run pins s σ H Q I (q σ H Q z)⟩
abbrev DenTs (X : Cx) (ifs : List Expr) (tt : Tv) : Prop := PTs X ifs (rdT X.K X.mg W0 tt)
theorem den_noif : DenTs X [] tvYes := PTs.imp pts_nil fun σ H Q ⟨r, e, h, er, hr, ok⟩ => ok r H (Step.refl _ _) hr
theorem den_oneif {c : Expr} {t : Tv} (h : DenT X W0 c t) : DenTs X [c] t := pts_one h
theorem den_lc {elt tgE iter : Expr} {ifs : List Expr} {scope : Scope} {own : List (Str × Nat)} {pos : Pos} {iv : Iv} (t : Tgt) {tt : Tv} {el : Ev} (hc : X.calm = true) (hN : X.N.Nodup) (hi : DenI X W tgE iter iv) (hown : own.map (·.2) = t.own) (ok : BlkOk X.N X.env.scope scope own)
    (hg : ∀ (s : Shared) (H : Hp) (C : Addr) (cl : List (Str × Addr)) (fp : List Addr), PG (X.blk s H scope (compEnvC scope cl C X.env) fp) tgE (t.tg X.K)) (ht : ∀ (s : Shared) (H : Hp) (C : Addr) (cl : List (Str × Addr)) (fp : List Addr), DenTs (X.blk s H scope (compEnvC scope cl C X.env) fp) ifs tt)
    (he : ∀ (s : Shared) (H : Hp) (C : Addr) (cl : List (Str × Addr)) (fp : List Addr), DenE (X.blk s H scope (compEnvC scope cl C X.env) fp) W0 elt el) (hs : ∀ x, foldedSetIterable iter X.env x = pure x := by intro _; rfl) :
    DenE X W (.ListComp elt [⟨tgE, iter, ifs, 0⟩] scope pos) (evLc iv t.own t.gv tt el) :=
  PE.imp (pe_lc hc hN hi ok hg ht (fun s H C cl fp => den_pv (he s H C cl fp)) hs) fun σ H Q q => by
    rw [hown]
    exact rd_lc q
theorem den_setLc {i : Nat} {y : Str} {py : Pos} {elt tgE iter : Expr} {ifs : List Expr} {scope : Scope} {own : List (Str × Nat)} {pos spos : Pos} {iv : Iv} (t : Tgt) {tt : Tv} {el : Ev} (hc : X.calm = true) (hN : X.N.Nodup) (hy : X.N[i]? = some y) (hyl : X.env.scope.names.lookup y = some .local)
    (hsw : swapsWith (.ListComp elt [⟨tgE, iter, ifs, 0⟩] scope pos) (some (.Name y py)) spos.line X.env = pure true) (hi : DenI X W tgE iter iv) (hown : own.map (·.2) = t.own) (ok : BlkOk X.N X.env.scope scope own)
    (hg : ∀ (s : Shared) (H : Hp) (C : Addr) (cl : List (Str × Addr)) (fp : List Addr), PG (X.blk s H scope (compEnvC scope cl C X.env) fp) tgE (t.tg X.K)) (ht : ∀ (s : Shared) (H : Hp) (C : Addr) (cl : List (Str × Addr)) (fp : List Addr), DenTs (X.blk s H scope (compEnvC scope cl C X.env) fp) ifs tt)
    (he : ∀ (s : Shared) (H : Hp) (C : Addr) (cl : List (Str × Addr)) (fp : List Addr), DenE (X.blk s H scope (compEnvC scope cl C X.env) fp) W0 elt el) (hs : ∀ x, foldedSetIterable iter X.env x = pure x := by intro _; rfl) :
    DenS X W (.Assign [.Name y py] (.ListComp elt [⟨tgE, iter, ifs, 0⟩] scope pos) spos) (svAsg (evLc iv t.own t.gv tt el) (gvName i)) :=
  PS.imp (ps_setLc hc hN hy hyl hsw hi ok hg ht (fun s H C cl fp => den_pv (he s H C cl fp)) hs) fun N σ H q => by
    rw [hown]
    obtain ⟨r, e, h, er, hr, ok⟩ := q
    unfold svAsg pv at ok
    refine rd_lc (W := W) (mg := X.mg) (tt := tt) (elt := el) ⟨r, e, h, er, hr, ?_⟩
    cases hf : evLc iv t.own t.gv tt el e h with
    | stuck => rw [hf] at ok; exact ok
    | exc x h1 => rw [hf] at ok; exact fun c dx r' H' s q t => ok c dx σ r' H' s (er.mono s.mn) q t
    | ok d h1 =>
      rw [hf] at ok
      intro v r1 H1 s hr1 t
      cases t with
      | @val v d q =>
        have e0 : promote d h1 = .ok d h1 := by cases q <;> rfl
        rw [Out.bind_ok, e0] at ok
        exact ok _ r1 H1 s ((er.mono s.mn).set i q) hr1
      | @tl p vs xs a b c q =>
        obtain ⟨g1, g2⟩ := push_ok hr1 b c q
        have s2 := Step.push c s a
        exact ok _ _ H1 s2 ((er.mono s2.mn).set i g2) g1
end

/-! ### defs -/
def fin (h : AH) (d : D) (h' : AH) : Out D := match promote d h' with
  | .ok d1 h1 => if d1.lt h.length && oldOk h.length h h1 then .ok d1 (h1.take h.length) else .ok d1 h1
  | o => o
def finX (h : AH) (x : D) (h' : AH) : Out D := if x.lt h.length && oldOk h.length h h' then .exc x (h'.take h.length) else .exc x h'
def startE (n : Nat) (ds : List D) : Env := ds.map some ++ List.replicate (n - ds.length) none
def fnD (n : Nat) (body : Sv) : Fd := fun ds h => match body (startE n ds) h with
  | .ret d h' => fin h d h'
  | .nx _ h' => fin h .non h'
  | .exc x _ h' => finX h x h'
  | _ => .stuck
section
variable (K : PySem.W.Frag) (mg : Str → Option Value)
def OkF (r : List Addr) (H : Hp) (Q : VK) (E : XK) : Out D → Prop
  | .stuck => False
  | .ok d h' => ∀ v r' H', Step r H r' H' → HRel K mg r' h' H' → Rel K mg r' H' v d → Q v H'
  | .exc x h' => ∀ c dx r' H', Step r H r' H' → HRel K mg r' h' H' → ExRel K mg r' H' c dx x → E c dx H'
def spF (n : Nat) (d : Fd) : Sp := fun vs H Q E => ∃ r h ds, HRel K mg r h H ∧ Rels K mg r H vs ds ∧ ds.length = n ∧ OkF K mg r H Q E (d ds h)
end
section
variable {K : PySem.W.Frag} {mg : Str → Option Value}
theorem Step.cut {r r' : List Addr} {H H' : Hp} (s : Step r H r' H') : Step r H r H' := ⟨List.prefix_refl _, fun _ a b => absurd a b, s.keep, s.stay⟩
theorem ExRel.cut {r r1 : List Addr} {H : Hp} {c : Value} {dx : Option Addr} {x : D} (hp : r <+: r1) (q : ExRel K mg r1 H c dx x) (z : x.lt r.length = true) : ExRel K mg r H c dx x := by
  cases q with
  | e0 h => exact .e0 h
  | e1 h hf hn hd q => exact .e1 h hf (fun z => hn (hp.subset z)) hd (q.cut hp (by simpa only [D.lt, D.lts, Bool.and_true] using z))
theorem fin_ok {r r1 : List Addr} {H H1 : Hp} {h h1 : AH} {v : V} {d : D} {Q : VK} {E : XK} (hr : HRel K mg r h H) (s : Step r H r1 H1) (hr1 : HRel K mg r1 h1 H1) (q : Rel K mg r1 H1 v d)
    (ok : OkF K mg r H Q E (if d.lt h.length && oldOk h.length h h1 then .ok d (h1.take h.length) else .ok d h1)) : Q v H1 := by
  split at ok
  · rename_i hz
    obtain ⟨z1, z2⟩ := Bool.and_eq_true_iff.mp hz
    rw [← hr.len] at z1 z2 ok
    exact ok v r H1 s.cut (hr.cutOld hr1 s.pre z2) (q.cut s.pre z1)
  · exact ok v r1 H1 s hr1 q
theorem fn_end {W : Wx} {n : Nat} {body : Sv} {r : List Addr} {H : Hp} {h : AH} {ds : List D} {Q : VK} {E : XK} (hr : HRel K mg r h H) (hW : ∀ c dx σ H, E c dx H → W c dx σ H) (ok : OkF K mg r H Q E (fnD n body ds h)) :
    OkS K mg W r H { nx := fun _ H' => Q .non H', rt := Q } (body (startE n ds) h) := by
  unfold fnD at ok
  cases hb : body (startE n ds) h with
  | stuck => rw [hb] at ok; exact ok
  | brk => rw [hb] at ok; exact ok.elim
  | cont => rw [hb] at ok; exact ok.elim
  | nx e' h' =>
    rw [hb] at ok
    exact fun σ' r' H' s er hr' => fin_ok (d := .non) hr s hr' .non ok
  | ret d h' =>
    rw [hb] at ok
    intro v r' H' s hr' t
    cases t with
    | @val v d q =>
      have e0 : promote d h' = .ok d h' := by cases q <;> rfl
      unfold fin at ok
      simp only [e0] at ok
      exact fin_ok hr s hr' q ok
    | @tl p vs xs a b c q =>
      obtain ⟨g1, g2⟩ := push_ok hr' b c q
      exact fin_ok hr (Step.push c s a) g1 g2 ok
  | exc x e' h' =>
    rw [hb] at ok
    intro c dx σ' r' H' s er hr' t
    dsimp only [finX] at ok
    split at ok
    · rename_i hz
      obtain ⟨z1, z2⟩ := Bool.and_eq_true_iff.mp hz
      rw [← hr.len] at z1 z2 ok
      exact hW _ _ _ _ (ok c dx r H' s.cut (hr.cutOld hr' s.pre z2) (t.cut s.pre z1))
    · exact hW _ _ _ _ (ok c dx r' H' s hr' t)
theorem start_rel {N : List Str} {r : List Addr} {H : Hp} {vs : List V} {ds : List D} (q : Rels K mg r H vs ds) : ERel K mg r (startE N.length ds) (L2.start N vs) H := by
  refine ⟨by unfold startE L2.start; simp [q.length], fun i x hx => ?_⟩
  unfold startE at hx
  unfold L2.start
  have hi : i < ds.length := by
    by_cases h : i < ds.length
    · exact h
    · rw [List.getElem?_append_right (by rw [List.length_map]; omega)] at hx
      simp [List.getElem?_replicate] at hx
  rw [List.getElem?_append_left (by rw [List.length_map]; exact hi), List.getElem?_map] at hx
  obtain ⟨y, hy1, hy2⟩ : ∃ y, ds[i]? = some y ∧ y = x := by
    cases e : ds[i]? with
    | none => rw [e] at hx; cases hx
    | some y => rw [e] at hx; cases hx; exact ⟨_, rfl, rfl⟩
  subst hy2
  obtain ⟨v, h1, h2⟩ := q.get' hy1
  refine ⟨v, ?_, h2⟩
  rw [List.getElem?_append_left (by rw [List.length_map, q.length]; exact hi), List.getElem?_map, h1]
  rfl
/-- THE RULE for a def -/
theorem fn_ok {P : Program} {w : World} {base : Heap} {x qual : Str} {st : Stmt} {f : Addr} {fd : FuncData} {N ps : List Str} {k : Nat} {body : Sv} (F : Fun K x qual st f fd) (S : FnScope N ps (defScope st))
    (hb : ∀ (cdv : Value) (A : Around) (outer : List PySem.Env) (s : Shared) (H : Hp) (E : XK), Room k (A.deeper (envOfC qual (defScope st) s.heap.objs.size f cdv)) →
      DenB (cxOf (L2.CX P w) P w K mg base N qual (defScope st) f cdv A outer s H E) (fun c dx _ H => E c dx H) (defBody st) body) : FnOk P w K mg base (L2.CX P w) (k + 1) f fd ps (spF K mg ps.length (fnD N.length body)) :=
  F.okX S (fun vs H Q E ⟨r, h, ds, hr, q, e, _⟩ => by rw [q.length, e]) fun cdv A outer s H vs Q E hr ⟨r, h, ds, hrel, q, e, ok⟩ =>
    ⟨_, hb cdv A outer s H E hr, r, startE N.length ds, h, start_rel q, hrel, fn_end hrel (fun _ _ _ _ z => z) ok⟩
end

/-! ### calls of defs -/
def evCall (d : Fd) (fs : List Ev) : Ev := fun e h => (evsV fs e h).bind d
theorem evsV_len : ∀ {fs : List Ev} {e : Env} {h : AH} {ds : List D} {h1 : AH}, evsV fs e h = .ok ds h1 → ds.length = fs.length
  | [], _, _, _, _, z => by cases z; rfl
  | f :: fs, e, h, ds, h1, z => by
    unfold evsV at z
    cases hf : pv f e h with
    | stuck => rw [hf] at z; cases z
    | exc => rw [hf] at z; cases z
    | ok d h2 =>
      rw [hf, Out.bind_ok] at z
      cases hr : evsV fs e h2 with
      | stuck => rw [hr] at z; cases z
      | exc => rw [hr] at z; cases z
      | ok ds' h3 =>
        rw [hr, Out.bind_ok] at z
        cases z
        rw [List.length_cons, List.length_cons, evsV_len hr]
theorem rd_call {K : PySem.W.Frag} {mg : Str → Option Value} {W : Wx} {d : Fd} {fs : List Ev} {n : Nat} {σ : L2.St} {H : Hp} {Q : VK} (hn : fs.length = n) (q : rdE K mg W (evCall d fs) σ H Q) : rdVs K mg W (evsV fs) σ H fun vs H1 => spF K mg n d vs H1 Q (WE W σ) := by
  obtain ⟨r, e, h, er, hr, ok⟩ := q
  unfold evCall at ok
  refine ⟨r, e, h, er, hr, ?_⟩
  cases hf : evsV fs e h with
  | stuck => rw [hf] at ok; exact ok
  | exc x h1 => rw [hf] at ok; exact ok
  | ok ds h1 =>
    rw [hf, Out.bind_ok] at ok
    intro vs r1 H1 s1 hr1 t1
    refine ⟨r1, h1, ds, hr1, t1, by rw [evsV_len hf, hn], ?_⟩
    have ok1 := OkE.after s1 ok
    cases hd : d ds h1 with
    | stuck => rw [hd] at ok1; exact ok1
    | exc x h2 => rw [hd] at ok1; exact ok1
    | ok y h2 => rw [hd] at ok1; exact fun v r' H' s' hr' t => ok1 v r' H' s' hr' (.val t)
section
variable {X : Cx} {W : Wx}
theorem den_call {k n : Nat} {f : Addr} {fd : FuncData} {ps : List Str} {d : Fd} {x : Str} {p pos : Pos} {ex : Expr} {es : List Expr} {fs : List Ev} (F : FnOk X.prog X.w X.K X.mg X.base (L2.CX X.prog X.w) k f fd ps (spF X.K X.mg n d)) (hr : Room k X.A) (hg : Gl X x) (hm : X.mg x = some (.ref f))
    (hk : PySem.W.keepIn X.K (.ref f) = true) (hb : Binds X.K fd ps []) (tk : Takes X W) (ha : DenVs X W (ex :: es) (evsV fs)) (hn : fs.length = n := by rfl) (hdb : (x == ("__debug__" : Str)) = false := by decide)
    (he : starEach (ex :: es) X.env = (false, eval ex X.env) :: starEach es X.env := by rfl) (hpl : (backTo pos (starEach es X.env)).any (·.1) = false := by rfl) : DenE X W (.Call (.Name x p) (ex :: es) [] pos) (evCall d fs) :=
  PE.imp (pe_callS F hr hg hm hk hb (fun σ => passAt tk σ) ha hdb he hpl) fun σ H Q q => rd_call hn q
end
end BW

set_option Elab.async false
set_option linter.all false
set_option maxRecDepth 100000
set_option maxHeartbeats 4000000
namespace BW
open PySem PySem.Spec PyProof.Rows L2
variable [Tb]

/-! ### what the module's names hold -/
structure Bi (mg : Str → Option Value) : Prop where
  len : mg "len" = none
  tuple : mg "tuple" = none
  list : mg "list" = none
  int : mg "int" = none
  range : mg "range" = none
  enumerate : mg "enumerate" = none
  zip : mg "zip" = none
  isinstance : mg "isinstance" = none
  all : mg "all" = none
  any : mg "any" = none
  sum : mg "sum" = none
  min : mg "min" = none
  max : mg "max" = none
  sorted : mg "sorted" = none
  repr : mg "repr" = none
  str : mg "str" = none
  set : mg "set" = none
  bool : mg "bool" = none
  super : mg "super" = none
  valueError : mg "ValueError" = none
  overflowError : mg "OverflowError" = none
/-- a def of the module that is worth d -/
def Fn (P : Program) (w : World) (K : PySem.W.Frag) (mg : Str → Option Value) (base : Heap) (x : Str) (k n : Nat) (d : Fd) : Prop :=
  ∃ f fd ps, FnOk P w K mg base (L2.CX P w) k f fd ps (spF K mg n d) ∧ Binds K fd ps [] ∧ mg x = some (.ref f) ∧ PySem.W.keepIn K (.ref f) = true
section
variable {P : Program} {w : World} {K : PySem.W.Frag} {mg : Str → Option Value} {base : Heap}
theorem fn_mk {x qual : Str} {st : Stmt} {f : Addr} {fd : FuncData} {N ps : List Str} (k : Nat) {body : Sv} (F : Fun K x qual st f fd) (m : mg x = some (.ref f)) (S : FnScope N ps (defScope st)) (b : Binds K fd ps [])
    (hb : ∀ (cdv : Value) (A : Around) (outer : List PySem.Env) (s : Shared) (H : Hp) (E : XK), Room k (A.deeper (envOfC qual (defScope st) s.heap.objs.size f cdv)) →
      DenB (cxOf (L2.CX P w) P w K mg base N qual (defScope st) f cdv A outer s H E) (fun c dx _ H => E c dx H) (defBody st) body) : Fn P w K mg base x (k + 1) ps.length (fnD N.length body) :=
  ⟨f, fd, ps, fn_ok F S hb, b, m, F.kp⟩
end
section
variable {X : Cx} {W : Wx}
theorem dv (i : Nat) {x : Str} {pos : Pos} (hN : X.N[i]? = some x := by rfl) (hv : Vis X.env.scope x := by first | exact Or.inl rfl | exact Or.inr (Or.inl rfl) | exact Or.inr (Or.inr rfl)) (hd : (x == ("__debug__" : Str)) = false := by decide) (hcd : (x == ("__classdict__" : Str)) = false := by decide) : DenE X W (.Name x pos) (evVar i) := den_var hN hv hd hcd
theorem den_callF {j k n : Nat} {d : Fd} {x : Str} {p pos : Pos} {ex : Expr} {es : List Expr} {fs : List Ev} (F : Fn X.prog X.w X.K X.mg X.base x k n d) (hr : Room j X.A) (tk : Takes X W) (ha : DenVs X W (ex :: es) (evsV fs)) (hjk : k ≤ j := by decide) (hg : Gl X x := by rfl)
    (hn : fs.length = n := by rfl) (hdb : (x == ("__debug__" : Str)) = false := by decide)
    (he : starEach (ex :: es) X.env = (false, eval ex X.env) :: starEach es X.env := by rfl) (hpl : (backTo pos (starEach es X.env)).any (·.1) = false := by rfl) : DenE X W (.Call (.Name x p) (ex :: es) [] pos) (evCall d fs) := by
  obtain ⟨f, fd, ps, h1, h2, h3, h4⟩ := F
  exact den_call h1 (hr.mono hjk) hg h3 h4 h2 tk ha hn hdb he hpl
end
end BW

set_option Elab.async false
set_option linter.all false
set_option maxRecDepth 100000
set_option maxHeartbeats 4000000
namespace BW
open PySem PySem.Spec PyProof.Rows L2
variable [Tb]

/-! ### a, b = x, y -/
def setAll : Env → List Nat → List D → Option Env
  | e, [], [] => some e
  | e, i :: is, d :: ds => setAll (e.set i (some d)) is ds
  | _, _, _ => none
def svPar (fs : List Ev) (ix : List Nat) : Sv := fun e h => (evsV fs e h).toFl e fun ds h1 => match setAll e ix ds with
  | some e1 => .nx e1 h1
  | none => .stuck
section
variable {X : Cx} {W : Wx}
theorem rdVs_bindS {K : PySem.W.Frag} {mg : Str → Option Value} {σ : L2.St} {r : List Addr} {e : Env} {H : Hp} {h : AH} {f : Av} {k : List D → AH → Fl} {N : Ends} {Q' : List V → Hp → Prop} (er : ERel K mg r e σ H) (hr : HRel K mg r h H) (ok : OkS K mg W r H N ((f e h).toFl e k))
    (hk : ∀ d h1 v r1 H1, Step r H r1 H1 → HRel K mg r1 h1 H1 → Rels K mg r1 H1 v d → ERel K mg r1 e σ H1 → OkS K mg W r1 H1 N (k d h1) → Q' v H1) : rdVs K mg W f σ H Q' := by
  refine ⟨r, e, h, er, hr, ?_⟩
  cases hf : f e h with
  | stuck => rw [hf] at ok; exact ok
  | ok d h1 => rw [hf] at ok; exact fun v r1 H1 s q t => hk d h1 v r1 H1 s q t (er.mono s.mn) (OkS.after s ok)
  | exc x h1 => rw [hf] at ok; exact fun c dx r' H' s q t => ok c dx σ r' H' s (er.mono s.mn) q t
theorem den_par2 {i j : Nat} {x y : Str} {a b : Expr} {f g : Ev} {px py pt pos : Pos} {kt k2 pt2} (ha : DenVs X W [a, b] (evsV [f, g])) (hN : X.N.Nodup) (hi : X.N[i]? = some x) (hj : X.N[j]? = some y) (hij : i ≠ j := by decide) (hc : X.calm = true := by rfl)
    (hx : X.env.scope.names.lookup x = some .local := by rfl) (hy : X.env.scope.names.lookup y = some .local := by rfl)
    (hw : swappedStores [.Tuple [.Name x px, .Name y py] kt pt] (.Tuple [a, b] k2 pt2) X.env = pure (some [x, y]) := by rfl)
    (hs : swapsWithSole [.Tuple [.Name x px, .Name y py] kt pt] (.Tuple [a, b] k2 pt2) pos.line X.env = pure false := by rfl) :
    DenS X W (.Assign [.Tuple [.Name x px, .Name y py] kt pt] (.Tuple [a, b] k2 pt2) pos) (svPar [f, g] [i, j]) :=
  PS.imp (ps_par hc hN hi hj hij hx hy ha hw hs) fun N σ H ⟨r, e, h, er, hr, ok⟩ => by
    unfold svPar at ok
    refine rdVs_bindS er hr ok fun ds h1 vs r1 H1 s1 hr1 t1 er1 ok1 => ?_
    cases t1 with
    | nil => exact ok1.elim
    | cons q1 t1 => cases t1 with
      | nil => exact ok1.elim
      | cons q2 t1 => cases t1 with
        | nil => exact ⟨_, _, rfl, ok1 _ r1 H1 (Step.refl _ _) ((er1.set i q1).set j q2) hr1⟩
        | cons => exact ok1.elim
theorem den_par3 {i j l : Nat} {x y z : Str} {a b c : Expr} {f g k : Ev} {px py pz pt pos : Pos} {kt k2 pt2} (ha : DenVs X W [a, b, c] (evsV [f, g, k])) (hN : X.N.Nodup) (hi : X.N[i]? = some x) (hj : X.N[j]? = some y) (hl : X.N[l]? = some z := by rfl) (hij : i ≠ j := by decide) (hil : i ≠ l := by decide) (hjl : j ≠ l := by decide) (hc : X.calm = true := by rfl)
    (hx : X.env.scope.names.lookup x = some .local := by rfl) (hy : X.env.scope.names.lookup y = some .local := by rfl) (hz : X.env.scope.names.lookup z = some .local := by rfl)
    (hw : swappedStores [.Tuple [.Name x px, .Name y py, .Name z pz] kt pt] (.Tuple [a, b, c] k2 pt2) X.env = pure (some [x, y, z]) := by rfl)
    (hs : swapsWithSole [.Tuple [.Name x px, .Name y py, .Name z pz] kt pt] (.Tuple [a, b, c] k2 pt2) pos.line X.env = pure false := by rfl) :
    DenS X W (.Assign [.Tuple [.Name x px, .Name y py, .Name z pz] kt pt] (.Tuple [a, b, c] k2 pt2) pos) (svPar [f, g, k] [i, j, l]) :=
  PS.imp (ps_par3 hc hN hi hj hl hij hil hjl hx hy hz ha hw hs) fun N σ H ⟨r, e, h, er, hr, ok⟩ => by
    unfold svPar at ok
    refine rdVs_bindS er hr ok fun ds h1 vs r1 H1 s1 hr1 t1 er1 ok1 => ?_
    cases t1 with
    | nil => exact ok1.elim
    | cons q1 t1 => cases t1 with
      | nil => exact ok1.elim
      | cons q2 t1 => cases t1 with
        | nil => exact ok1.elim
        | cons q3 t1 => cases t1 with
          | nil => exact ⟨_, _, _, rfl, ok1 _ r1 H1 (Step.refl _ _) (((er1.set i q1).set j q2).set l q3) hr1⟩
          | cons => exact ok1.elim
theorem evsV_cases2 {f g : Ev} {e : Env} {h : AH} {ds : List D} {h1 : AH} (z : evsV [f, g] e h = .ok ds h1) : ∃ a b, ds = [a, b] := by
  have := evsV_len z
  match ds, this with
  | [a, b], _ => exact ⟨a, b, rfl⟩
theorem evsV_cases3 {f g k : Ev} {e : Env} {h : AH} {ds : List D} {h1 : AH} (z : evsV [f, g, k] e h = .ok ds h1) : ∃ a b c, ds = [a, b, c] := by
  have := evsV_len z
  match ds, this with
  | [a, b, c], _ => exact ⟨a, b, c, rfl⟩
/-- the same, where a tuple is made (a name is a cell) -/
theorem par_eq2 {f g : Ev} {i j : Nat} : svPar [f, g] [i, j] = svAsg (evTup [f, g]) (gvTup [gvName i, gvName j]) := by
  funext e h
  unfold svPar svAsg pv evTup
  cases hz : evsV [f, g] e h with
  | stuck => rfl
  | exc => rfl
  | ok ds h1 =>
    obtain ⟨a, b, rfl⟩ := evsV_cases2 hz
    rfl
theorem par_eq3 {f g k : Ev} {i j l : Nat} : svPar [f, g, k] [i, j, l] = svAsg (evTup [f, g, k]) (gvTup [gvName i, gvName j, gvName l]) := by
  funext e h
  unfold svPar svAsg pv evTup
  cases hz : evsV [f, g, k] e h with
  | stuck => rfl
  | exc => rfl
  | ok ds h1 =>
    obtain ⟨a, b, c, rfl⟩ := evsV_cases3 hz
    rfl
theorem den_parG2 {tg ex : Expr} {pos : Pos} {f g : Ev} {i j : Nat} (hf : DenE X W ex (evTup [f, g])) (hg : DenG X tg (gvTup [gvName i, gvName j])) (hs : swapsWithSole [tg] ex pos.line X.env = pure false := by rfl) (hw : swappedStores [tg] ex X.env = pure none := by rfl) (h1 : (assignEach [tg] X.env).map (·.2) = [assign tg X.env] := by rfl) : DenS X W (.Assign [tg] ex pos) (svPar [f, g] [i, j]) := by
  rw [par_eq2]; exact den_asg hf hg hs hw h1
theorem den_parG3 {tg ex : Expr} {pos : Pos} {f g k : Ev} {i j l : Nat} (hf : DenE X W ex (evTup [f, g, k])) (hg : DenG X tg (gvTup [gvName i, gvName j, gvName l])) (hs : swapsWithSole [tg] ex pos.line X.env = pure false := by rfl) (hw : swappedStores [tg] ex X.env = pure none := by rfl) (h1 : (assignEach [tg] X.env).map (·.2) = [assign tg X.env] := by rfl) : DenS X W (.Assign [tg] ex pos) (svPar [f, g, k] [i, j, l]) := by
  rw [par_eq3]; exact den_asg hf hg hs hw h1

/-! ### x += e, x -= e -/
def svAug (i : Nat) (op : Int → Int → Int) (f : Ev) : Sv := fun e h => match e[i]? with
  | some (some (.int a)) => (f e h).toFl e fun d h1 => match d with
    | .int b => .nx (e.set i (some (.int (op a b)))) h1
    | _ => .stuck
  | _ => .stuck
theorem den_aug {i : Nat} {x : Str} {ex : Expr} {op : Operator} {o : Int → Int → Int} {f : Ev} {pos pos' : Pos} (ho : PIp X op (ipI o)) (hN : X.N.Nodup) (hi : X.N[i]? = some x) (hx : Loc X.env.scope x) (hf : DenE X W ex f) (hfn : X.fn x = true ∨ X.env.scope.names.lookup x = some .local := by first | exact .inl rfl | exact .inr rfl | assumption) : DenS X W (.AugAssign (.Name x pos') op ex pos) (svAug i o f) :=
  PS.imp (ps_aug hN hi hx hf ho hfn) fun N σ H ⟨r, e, h, er, hr, ok⟩ => by
    unfold svAug at ok
    split at ok
    · rename_i a he
      obtain ⟨v, h1, h2⟩ := er.at_ i _ he
      cases h2
      refine ⟨_, h1, ?_⟩
      refine rdE_bindS er hr ok fun d h1 v r1 H1 s1 hr1 t1 er1 ok1 => ?_
      cases d with
      | int b => exact ⟨_, _, rfl, t1.u.int_inv, ok1 _ r1 H1 (Step.refl _ _) (er1.set i (.int _)) hr1⟩
      | _ => exact ok1.elim
    · exact ok.elim

/-! ### dicts -/
def keyD : D → Option Key
  | .int i => some (.inl i)
  | .str x => some (.inr x)
  | _ => none
def keysD : D → Option (List Key)
  | .tup xs => allK keyD xs
  | _ => none
section
variable {κ β : Type} [DecidableEq κ]
def valD (kvs : List (κ × β)) (k : κ) : Option β := (kvs.find? fun kv => decide (kv.1 = k)).map (·.2)
def putD (kvs : List (κ × β)) (k : κ) (v : β) : List (κ × β) :=
  if (kvs.any fun kv => decide (kv.1 = k)) then kvs.map (fun kv => if kv.1 = k then (kv.1, v) else kv) else kvs ++ [(k, v)]
end
theorem RelK.val {K : PySem.W.Frag} {mg : Str → Option Value} {r : List Addr} {H : Hp} {k : Key} : ∀ {vs : List (Key × V)} {xs : List (Key × D)} {x : D}, RelK K mg r H vs xs → valD xs k = some x → ∃ v, valV vs k = some v ∧ Rel K mg r H v x
  | _, _, _, .nil, e => by cases e
  | _, _, x, @RelK.cons _ _ _ _ k' v y vs xs q t, e => by
    unfold valD at e
    unfold valV
    by_cases hk : k' = k
    · simp only [List.find?_cons, hk, decide_true, Option.map_some] at e ⊢
      cases e
      exact ⟨v, rfl, q⟩
    · simp only [List.find?_cons, hk, decide_false] at e ⊢
      exact RelK.val t e
theorem RelKT.val {K : PySem.W.Frag} {mg : Str → Option Value} {r : List Addr} {H : Hp} {k : List Key} : ∀ {vs : List (List Key × V)} {xs : List (List Key × D)} {x : D}, RelKT K mg r H vs xs → valD xs k = some x → ∃ v, valV vs k = some v ∧ Rel K mg r H v x
  | _, _, _, .nil, e => by cases e
  | _, _, x, @RelKT.cons _ _ _ _ k' v y vs xs q t, e => by
    unfold valD at e
    unfold valV
    by_cases hk : k' = k
    · simp only [List.find?_cons, hk, decide_true, Option.map_some] at e ⊢
      cases e
      exact ⟨v, rfl, q⟩
    · simp only [List.find?_cons, hk, decide_false] at e ⊢
      exact RelKT.val t e
theorem RelK.any {K : PySem.W.Frag} {mg : Str → Option Value} {r : List Addr} {H : Hp} {k : Key} : ∀ {vs : List (Key × V)} {xs : List (Key × D)}, RelK K mg r H vs xs → (vs.any fun kv => decide (kv.1 = k)) = (xs.any fun kv => decide (kv.1 = k))
  | _, _, .nil => rfl
  | _, _, .cons q t => by simp only [List.any_cons, RelK.any t]
theorem RelK.mapPut {K : PySem.W.Frag} {mg : Str → Option Value} {r : List Addr} {H : Hp} {k : Key} {v : V} {x : D} (q : Rel K mg r H v x) : ∀ {vs : List (Key × V)} {xs : List (Key × D)}, RelK K mg r H vs xs → RelK K mg r H (vs.map fun kv => if kv.1 = k then (kv.1, v) else kv) (xs.map fun kv => if kv.1 = k then (kv.1, x) else kv)
  | _, _, .nil => .nil
  | _, _, @RelK.cons _ _ _ _ k' _ _ _ _ q' t => by
    simp only [List.map_cons]
    by_cases hk : k' = k
    · simp only [hk, if_true]; exact .cons q (RelK.mapPut q t)
    · simp only [hk, if_false]; exact .cons q' (RelK.mapPut q t)
theorem RelK.append {K : PySem.W.Frag} {mg : Str → Option Value} {r : List Addr} {H : Hp} : ∀ {vs vs' : List (Key × V)} {xs xs' : List (Key × D)}, RelK K mg r H vs xs → RelK K mg r H vs' xs' → RelK K mg r H (vs ++ vs') (xs ++ xs')
  | _, _, _, _, .nil, q => q
  | _, _, _, _, .cons h t, q => .cons h (RelK.append t q)
theorem RelK.put {K : PySem.W.Frag} {mg : Str → Option Value} {r : List Addr} {H : Hp} {k : Key} {v : V} {x : D} {vs : List (Key × V)} {xs : List (Key × D)} (t : RelK K mg r H vs xs) (q : Rel K mg r H v x) : RelK K mg r H (putK vs k v) (putD xs k x) := by
  unfold putK putD
  rw [t.any]
  split
  · exact t.mapPut q
  · exact t.append (.cons q .nil)
theorem RelK.length {K : PySem.W.Frag} {mg : Str → Option Value} {r : List Addr} {H : Hp} : ∀ {vs : List (Key × V)} {xs : List (Key × D)}, RelK K mg r H vs xs → vs.length = xs.length
  | _, _, .nil => rfl
  | _, _, .cons _ t => by simp only [List.length_cons, RelK.length t]
theorem key_rel {K : PySem.W.Frag} {mg : Str → Option Value} {r : List Addr} {H : Hp} {v : V} {d : D} {k : Key} (e : keyD d = some k) (q : RelU K mg r H v d) : v = kV k := by
  cases d with
  | int i => cases e; exact q.int_inv
  | str x => cases e; exact q.str_inv
  | _ => cases e
theorem keys_rel {K : PySem.W.Frag} {mg : Str → Option Value} {r : List Addr} {H : Hp} : ∀ {vs : List V} {xs : List D} {ks : List Key}, allK keyD xs = some ks → Rels K mg r H vs xs → vs = ks.map kV
  | _, _, _, e, .nil => by cases e; rfl
  | _, _, _, e, .cons q t => by
    unfold allK at e
    split at e
    · rename_i a as h1 h2
      cases e
      rw [key_rel h1 (.val q), keys_rel h2 t]; rfl
    · cases e
/-- d[k] -/
def dgD (h : AH) (o k : D) : Option D := match o with
  | .ref n => match h[n]? with
    | some (.dk kvs) => (keyD k).bind fun q => valD kvs q
    | some (.dt kvs) => (keysD k).bind fun q => valD kvs q
    | _ => none
  | _ => none
def evDg (f g : Ev) : Ev := fun e h => (f e h).bind fun o h1 => (g e h1).bind fun k h2 => ofO (dgD h2 o k) h2
theorem den_dg {o i : Expr} {pos : Pos} {f g : Ev} (hu : X.A.units + 1 < cLine) (ho : DenE X W o f) (hi : DenE X W i g) (hs : NoSl i := by exact fun _ _ => rfl) : DenE X W (.Subscript o i pos) (evDg f g) :=
  PE.imp (pe_dget hu ho hi hs) fun σ H Q ⟨r, e, h, er, hr, ok⟩ => by
    unfold evDg at ok
    refine rdE_bind er hr ok fun x h1 v r1 H1 s1 hr1 t1 er1 ok1 => ?_
    refine rdE_bind er1 hr1 ok1 fun y h2 w r2 H2 s2 hr2 t2 er2 ok2 => ?_
    have t1' := t1.mono s2
    unfold dgD at ok2
    split at ok2
    · rename_i n
      cases t1' with
      | val t1' =>
        cases t1' with
        | @ref n a hn =>
          split at ok2
          · rename_i kvs hk
            obtain ⟨vs, z1, z2⟩ := hr2.obj _ _ _ hk hn
            cases hq : keyD y with
            | none => rw [hq] at ok2; exact ok2.elim
            | some q =>
              rw [hq] at ok2
              cases hv : valD kvs q with
              | none => simp only [Option.bind_some, hv] at ok2; exact ok2.elim
              | some d =>
                simp only [Option.bind_some, hv] at ok2
                obtain ⟨u, z3, z4⟩ := z2.val hv
                obtain rfl := key_rel hq t2.u
                exact ⟨a, u, rfl, z3 ▸ DGet.k z1, ok2 _ r2 H2 (Step.refl _ _) hr2 (.val z4)⟩
          · rename_i kvs hk
            obtain ⟨vs, z1, z2⟩ := hr2.obj _ _ _ hk hn
            cases hq : keysD y with
            | none => rw [hq] at ok2; exact ok2.elim
            | some q =>
              rw [hq] at ok2
              cases hv : valD kvs q with
              | none => simp only [Option.bind_some, hv] at ok2; exact ok2.elim
              | some d =>
                simp only [Option.bind_some, hv] at ok2
                obtain ⟨u, z3, z4⟩ := z2.val hv
                cases y with
                | tup xs =>
                  obtain ⟨b, ws, rfl, y1, y2⟩ := t2.u.tup_inv
                  obtain rfl := keys_rel hq y2
                  exact ⟨a, u, rfl, z3 ▸ DGet.t z1 y1.2, ok2 _ r2 H2 (Step.refl _ _) hr2 (.val z4)⟩
                | _ => cases hq
          · exact ok2.elim
    · exact ok2.elim
/-- d[k] = v, keys that are ints and texts -/
def svDput (fo fi fv : Ev) : Sv := fun e h => (pv fv e h).toFl e fun d h1 => (fo e h1).toFl e fun o h2 => (fi e h2).toFl e fun k h3 => match o with
  | .ref n => match h3[n]?, keyD k with
    | some (.dk kvs), some q => if kvs.length < 16777216 then .nx e (h3.set n (.dk (putD kvs q d))) else .stuck
    | _, _ => .stuck
  | _ => .stuck
theorem den_dput {o i ex : Expr} {pos pos' : Pos} {fo fi fv : Ev} (hu : X.A.units + 1 < cLine) (ho : DenE X W o fo) (hi : DenE X W i fi) (hv : DenE X W ex fv) (hs : swapsWith ex (some (.Subscript o i pos')) pos.line X.env = pure false := by rfl) : DenS X W (.Assign [.Subscript o i pos'] ex pos) (svDput fo fi fv) :=
  PS.imp (ps_dput hu ho hi (den_pv hv) hs) fun N σ H ⟨r, e, h, er, hr, ok⟩ => by
    unfold svDput at ok
    refine rdV_bindS er hr ok fun d h1 v r1 H1 s1 hr1 t1 er1 ok1 => ?_
    refine rdE_bindS er1 hr1 ok1 fun x h2 w r2 H2 s2 hr2 t2 er2 ok2 => ?_
    refine rdE_bindS er2 hr2 ok2 fun y h3 u r3 H3 s3 hr3 t3 er3 ok3 => ?_
    split at ok3
    · rename_i n
      split at ok3
      · rename_i kvs q hk hq
        split at ok3
        · rename_i hz
          have t2' := t2.mono s3
          cases t2' with
          | val t2' =>
            cases t2' with
            | @ref n a hn =>
              obtain ⟨vs, z1, z2⟩ := hr3.obj _ _ _ hk hn
              obtain rfl := key_rel hq t3.u
              have ha : a ∈ r3 := List.mem_of_getElem? hn
              have t1' := (t1.mono s2.mn).mono s3.mn
              have s4 : Step r3 H3 r3 (upd H3 a (.dK (putK vs q v))) := Step.mut ha (hr3.there ha)
              refine ⟨a, _, rfl, DPut.k z1 (by rw [z2.length]; exact hz), ok3 σ r3 _ s4 (er3.mono s4.mn) ?_⟩
              exact hr3.put (ob := .dk (putD kvs q d)) hn ⟨putK vs q v, upd_same, (z2.put t1').mono s4.mn⟩
        · exact ok3.elim
      · exact ok3.elim
    · exact ok3.elim
end
end BW

set_option Elab.async false
set_option linter.all false
set_option maxRecDepth 100000
set_option maxHeartbeats 4000000
namespace BW
open PySem PySem.Spec PyProof.Rows L2
variable [Tb]

/-! ### {k: v, ..} -/
def evPairs : List (Ev × Ev) → Env → AH → Out (List (Key × D))
  | [], _, h => .ok [] h
  | (k, v) :: ps, e, h => (k e h).bind fun kd h1 => (pv v e h1).bind fun d h2 => match keyD kd with
    | some q => (evPairs ps e h2).bind fun kvs h3 => .ok ((q, d) :: kvs) h3
    | none => .stuck
def mergeD (kvs : List (Key × D)) : List (Key × D) := kvs.foldl (fun acc kv => putD acc kv.1 kv.2) []
def evDisp (ps : List (Ev × Ev)) : Ev := fun e h => (evPairs ps e h).bind fun kvs h1 => if kvs.length ≤ 15 then .ok (.ref h1.length) (h1 ++ [.dk (mergeD kvs)]) else .stuck
section
variable {X : Cx} {W : Wx}
theorem RelK.merge {K : PySem.W.Frag} {mg : Str → Option Value} {r : List Addr} {H : Hp} : ∀ {vs : List (Key × V)} {xs : List (Key × D)} {as : List (Key × V)} {bs : List (Key × D)}, RelK K mg r H vs xs → RelK K mg r H as bs → RelK K mg r H (vs.foldl (fun acc kv => putK acc kv.1 kv.2) as) (xs.foldl (fun acc kv => putD acc kv.1 kv.2) bs)
  | _, _, _, _, .nil, q => q
  | _, _, _, _, .cons h t, q => by
    simp only [List.foldl_cons]
    exact RelK.merge t (q.put h)
def rdPs (K : PySem.W.Frag) (mg : Str → Option Value) (W : Wx) (ps : List (Ev × Ev)) : List (TE × TE) := ps.map fun p => (rdE K mg W p.1, rdV K mg W (pv p.2))
abbrev DenPs (X : Cx) (W : Wx) (pos : Pos) (keys : List (Option Expr)) (values : List Expr) (ps : List (Ev × Ev)) : Prop := PPs X pos keys values (rdPs X.K X.mg W ps)
theorem den_ppnil {pos : Pos} : DenPs X W pos [] [] [] := pps_nil
theorem den_ppcons {pos : Pos} {k v : Expr} {ks : List (Option Expr)} {vs : List Expr} {fk fv : Ev} {ps : List (Ev × Ev)} (hk : DenE X W k fk) (hv : DenE X W v fv) (hr : DenPs X W pos ks vs ps) : DenPs X W pos (some k :: ks) (v :: vs) ((fk, fv) :: ps) := pps_cons hk (den_pv hv) hr
theorem pairs_ok {K : PySem.W.Frag} {mg : Str → Option Value} {σ : L2.St} {e : Env} {G : Out (List (Key × D)) → Prop} : ∀ {ps : List (Ev × Ev)} {r : List Addr} {H : Hp} {h : AH} {Q : List (V × V) → Hp → Prop}, ERel K mg r e σ H → HRel K mg r h H → evPairs ps e h ≠ .stuck →
    (∀ x h1, evPairs ps e h = .exc x h1 → ∀ c dx r' H', Step r H r' H' → HRel K mg r' h1 H' → ExRel K mg r' H' c dx x → W c dx σ H') →
    (∀ kvs h1, evPairs ps e h = .ok kvs h1 → ∀ (vs : List (Key × V)) r' H', Step r H r' H' → HRel K mg r' h1 H' → RelK K mg r' H' vs kvs → Q (vs.map fun kv => (kV kv.1, kv.2)) H') → tPairs (rdPs K mg W ps) σ H Q
  | [], r, H, h, Q, er, hr, h0, hx, hk => hk [] h rfl [] r H (Step.refl _ _) hr .nil
  | (k, v) :: ps, r, H, h, Q, er, hr, h0, hx, hk => by
    show rdE K mg W k σ H fun x H1 => rdV K mg W (pv v) σ H1 fun y H2 => tPairs (rdPs K mg W ps) σ H2 fun qs H3 => Q ((x, y) :: qs) H3
    refine ⟨r, e, h, er, hr, ?_⟩
    simp only [evPairs] at h0 hx hk
    cases hfk : k e h with
    | stuck => rw [hfk] at h0; exact absurd rfl h0
    | exc x h1 => rw [hfk] at hx; exact hx x h1 rfl
    | ok kd h1 =>
      rw [hfk] at h0 hx hk
      simp only [Out.bind_ok] at h0 hx hk
      intro v1 r1 H1 s1 hr1 t1
      refine ⟨r1, e, h1, er.mono s1.mn, hr1, ?_⟩
      cases hfv : pv v e h1 with
      | stuck => rw [hfv] at h0; exact absurd rfl h0
      | exc x h2 => rw [hfv] at hx; exact fun c dx r' H' s => hx x h2 rfl c dx r' H' (s1.trans s)
      | ok d h2 =>
        rw [hfv] at h0 hx hk
        simp only [Out.bind_ok] at h0 hx hk
        intro v2 r2 H2 s2 hr2 t2
        have s12 := s1.trans s2
        cases hq : keyD kd with
        | none => rw [hq] at h0; exact absurd rfl h0
        | some q =>
          rw [hq] at h0 hx hk
          dsimp only at h0 hx hk
          obtain rfl := key_rel hq (t1.mono s2).u
          refine pairs_ok (G := G) (er.mono s12.mn) hr2 (fun z => ?_) (fun x h3 z => ?_) fun kvs h3 z vs r' H' s hr' q' => ?_
          · rw [z] at h0; exact absurd rfl h0
          · rw [z] at hx; exact fun c dx r' H' s => hx x h3 rfl c dx r' H' (s12.trans s)
          · rw [z] at hk
            exact hk ((q, d) :: kvs) h3 rfl ((q, v2) :: vs) r' H' (s12.trans s) hr' (.cons (t2.mono s.mn) q')
theorem den_disp {keys : List (Option Expr)} {values : List Expr} {pos : Pos} {ps : List (Ev × Ev)} (h : DenPs X W pos keys values ps) (hall : keys.all (·.isSome) = true := by rfl) (hl : keys.length = values.length := by rfl) (h0 : keys ≠ [] := by exact fun z => by cases z) (h15 : keys.length ≤ 15 := by decide) : DenE X W (.Dict keys values pos) (evDisp ps) :=
  PE.imp (pe_disp h hall hl h0 h15) fun σ H Q ⟨r, e, h, er, hr, ok⟩ => by
    unfold evDisp at ok
    intro p hp
    have sA : Step r H r (upd H p (.dK [])) := Step.alloc hp
    have hn : p ∉ r := fun z => hr.there z hp
    refine pairs_ok (G := fun _ => True) (er.mono sA.mn) (hr.alloc hp) (fun z => by rw [z] at ok; exact ok) (fun x h1 z => by rw [z] at ok; exact fun c dx r' H' s => ok c dx r' H' (sA.trans s)) fun kvs h1 z vs r1 H1 s1 hr1 q1 => ?_
    rw [z, Out.bind_ok] at ok
    split at ok
    · rename_i hz
      have hp1 : H1 p = some (.dK []) := s1.keep p _ upd_same hn NoOwn.of
      have hn1 : p ∉ r1 := s1.notin hn upd_same NoOwn.of
      refine ⟨hp1, vs, rfl, by rw [q1.length]; exact hz, ?_⟩
      have m2 : Mn r1 H1 r1 (upd H1 p (.dK (mergeK [] vs))) := Mn.mutNew hp1 fun z => z
      have hr2 := hr1.mutNew (o := .dK (mergeK [] vs)) hn1 hp1 (fun z => z) NoOwn.of
      have m3 : Mo r1 (upd H1 p (.dK (mergeK [] vs))) (r1 ++ [p]) (upd H1 p (.dK (mergeK [] vs))) := Mo.push upd_same (fun z => z) NoOwn.of
      have s3 : Step r H (r1 ++ [p]) (upd H1 p (.dK (mergeK [] vs))) := Step.push hn1 ((sA.trans s1).mutNew hp) (.of hp)
      refine ok _ _ _ s3 (hr2.push (ob := .dk (mergeD kvs)) hn1 m3 ⟨_, upd_same, ?_⟩) (.val (.ref ?_))
      · exact ((RelK.merge q1 .nil).mono m2).mono m3.toMn
      · rw [← hr1.len, List.getElem?_append_right (Nat.le_refl _), Nat.sub_self]; rfl
    · exact ok.elim

/-! ### xs.append(e), xs.extend(e) -/
def evAppend (f g : Ev) : Ev := fun e h => (f e h).bind fun o h1 => match o with
  | .ref n => match h1[n]? with
    | some (.lst _) => (pv g e h1).bind fun d h2 => match h2[n]? with
      | some (.lst xs) => if xs.length < 16777216 then .ok .non (h2.set n (.lst (xs ++ [d]))) else .stuck
      | _ => .stuck
    | _ => .stuck
  | _ => .stuck
def evExtend (f g : Ev) : Ev := fun e h => (f e h).bind fun o h1 => match o with
  | .ref n => match h1[n]? with
    | some (.lst _) => (g e h1).bind fun d h2 => match h2[n]?, lstOf h2 d with
      | some (.lst xs), some ys => if xs.length + ys.length ≤ 16777216 then .ok .non (h2.set n (.lst (xs ++ ys))) else .stuck
      | _, _ => .stuck
    | _ => .stuck
  | _ => .stuck
theorem PAone {ex : Expr} {t : TE} (h : PE X ex t) (hs : starEach [ex] X.env = (false, eval ex X.env) :: starEach [] X.env := by rfl) : PA X [ex] (tCons t tNil) := pa_cons h pa_nil hs
theorem hnlist {h1 : AH} {n : Nat} {K : PySem.W.Frag} {mg : Str → Option Value} {r : List Addr} {H : Hp} {v : V} (hr : HRel K mg r h1 H) (t : RelU K mg r H v (.ref n)) {xs : List D} (e : h1[n]? = some (.lst xs)) : ∃ a vs, v = .ref a ∧ r[n]? = some a ∧ H a = some (.lst vs) ∧ Rels K mg r H vs xs := by
  cases t with
  | val t => cases t with
    | @ref n a hn =>
      obtain ⟨vs, z1, z2⟩ := hr.obj _ _ _ e hn
      exact ⟨a, vs, rfl, hn, z1, z2⟩
theorem den_append {o ex : Expr} {apos cpos : Pos} {f g : Ev} (ho : DenE X W o f) (hg : DenE X W ex g)
    (hbase : attributeBase o "append" X.env (eval o X.env) = eval o X.env := by rfl)
    (hfew : ((backTo cpos (starEach [ex] X.env)).all (fun z => !z.1) && (backToKw cpos (keywordEach [] X.env)).all (fun z => z.1.isSome) && decide ([ex].length + ([] : List Keyword).length + (if ([] : List Keyword).isEmpty then 0 else 1) < 30)) = true := by rfl)
    (hline : (apos.endLine == cpos.line) = true := by rfl) (hs : starEach [ex] X.env = (false, eval ex X.env) :: starEach [] X.env := by rfl) (hplain : (backTo cpos (starEach [] X.env)).any (·.1) = false := by rfl) :
    DenE X W (.Call (.Attribute o "append" apos) [ex] [] cpos) (evAppend f g) :=
  PE.imp (pe_bm PySem.F.plainAttrs_list PySem.F.slot_list_append PySem.F.type_list_append mt_append ho (PAone (den_pv hg) hs) hbase hfew hline hs hplain) fun σ H Q ⟨r, e, h, er, hr, ok⟩ => by
    unfold evAppend at ok
    refine rdE_bind er hr ok fun x h1 v r1 H1 s1 hr1 t1 er1 ok1 => ?_
    split at ok1
    · rename_i n
      split at ok1
      · rename_i zs hz
        obtain ⟨a, vs, rfl, hn, y1, y2⟩ := hnlist hr1 t1.u hz
        refine ⟨.inl ⟨rfl, vs, .inl (.inl y1)⟩, rdV_bind er1 hr1 ok1 fun d h2 w r2 H2 s2 hr2 t2 er2 ok2 => ?_⟩
        split at ok2
        · rename_i xs hx
          split at ok2
          · rename_i hl
            have hn2 := s2.get hn
            obtain ⟨ws, y3, y4⟩ := hr2.obj _ _ _ hx hn2
            have ha : a ∈ r2 := List.mem_of_getElem? hn2
            have s3 : Step r2 H2 r2 (upd H2 a (.lst (ws ++ [w]))) := Step.mut ha (hr2.there ha)
            refine ⟨a, ws, w, rfl, rfl, y3, by rw [y4.length]; exact hl, ok2 _ r2 _ s3 ?_ (.val .non)⟩
            exact hr2.put (ob := .lst (xs ++ [d])) hn2 ⟨_, upd_same, (y4.append (.cons t2 .nil)).mono s3.mn⟩
          · exact ok2.elim
        · exact ok2.elim
      · exact ok1.elim
    · exact ok1.elim
theorem den_extend {o ex : Expr} {apos cpos : Pos} {f g : Ev} (ho : DenE X W o f) (hg : DenE X W ex g)
    (hbase : attributeBase o "extend" X.env (eval o X.env) = eval o X.env := by rfl)
    (hfew : ((backTo cpos (starEach [ex] X.env)).all (fun z => !z.1) && (backToKw cpos (keywordEach [] X.env)).all (fun z => z.1.isSome) && decide ([ex].length + ([] : List Keyword).length + (if ([] : List Keyword).isEmpty then 0 else 1) < 30)) = true := by rfl)
    (hline : (apos.endLine == cpos.line) = true := by rfl) (hs : starEach [ex] X.env = (false, eval ex X.env) :: starEach [] X.env := by rfl) (hplain : (backTo cpos (starEach [] X.env)).any (·.1) = false := by rfl) :
    DenE X W (.Call (.Attribute o "extend" apos) [ex] [] cpos) (evExtend f g) :=
  PE.imp (pe_bm PySem.F.plainAttrs_list PySem.F.slot_list_extend PySem.F.type_list_extend mt_extend ho (PAone hg hs) hbase hfew hline hs hplain) fun σ H Q ⟨r, e, h, er, hr, ok⟩ => by
    unfold evExtend at ok
    refine rdE_bind er hr ok fun x h1 v r1 H1 s1 hr1 t1 er1 ok1 => ?_
    split at ok1
    · rename_i n
      split at ok1
      · rename_i zs hz
        obtain ⟨a, vs, rfl, hn, y1, y2⟩ := hnlist hr1 t1.u hz
        refine ⟨.inl ⟨rfl, vs, .inl (.inl y1)⟩, rdE_bind er1 hr1 ok1 fun d h2 w r2 H2 s2 hr2 t2 er2 ok2 => ?_⟩
        split at ok2
        · rename_i xs ys hx hy
          split at ok2
          · rename_i hl
            have hn2 := s2.get hn
            obtain ⟨ws, y3, y4⟩ := hr2.obj _ _ _ hx hn2
            obtain ⟨b, us, rfl, y5, y6⟩ := lstOf_inv hr2 t2.u hy
            have ha : a ∈ r2 := List.mem_of_getElem? hn2
            have s3 : Step r2 H2 r2 (upd H2 a (.lst (ws ++ us))) := Step.mut ha (hr2.there ha)
            refine ⟨a, b, ws, us, rfl, rfl, y3, y5, by rw [y4.length, y6.length]; exact hl, ok2 _ r2 _ s3 ?_ (.val .non)⟩
            exact hr2.put (ob := .lst (xs ++ ys)) hn2 ⟨_, upd_same, (y4.append y6).mono s3.mn⟩
          · exact ok2.elim
        · exact ok2.elim
      · exact ok1.elim
    · exact ok1.elim

/-! ### isinstance with built-in classes -/
/-- the built-in class of a value -/
def tyD (h : AH) : D → Option String
  | .non => some "NoneType"
  | .bl _ => some "bool"
  | .int _ => some "int"
  | .str _ => some "str"
  | .tup _ => some "tuple"
  | .tl _ => some "list"
  | .rl _ => some "list"
  | .ref n => match h[n]? with
    | some (.lst _) => some "list"
    | some (.dk _) => some "dict"
    | some (.dt _) => some "dict"
    | _ => none
  | _ => none
def isiD (T t : String) : Bool := t == T || (t == "bool" && T == "int")
def evIsi (Ts : List String) (f : Ev) : Ev := fun e h => (f e h).bind fun d h1 => match tyD h1 d with
  | some t => .ok (.bl (Ts.any fun T => isiD T t)) h1
  | none => .stuck
theorem tyX_of {K : PySem.W.Frag} {mg : Str → Option Value} {r : List Addr} {h : AH} {H : Hp} {v : V} {d : D} {t : String} (hr : HRel K mg r h H) (q : RelU K mg r H v d) (e : tyD h d = some t) : TyX K H v (.type t) ∧ t ∈ ["NoneType", "bool", "int", "str", "tuple", "list", "dict"] := by
  cases q with
  | tl a b c q => cases e; exact ⟨.base (.lst b), by decide⟩
  | val q => cases q with
    | non => cases e; exact ⟨.base .non, by decide⟩
    | bl b => cases e; exact ⟨.base (.bl b), by decide⟩
    | int b => cases e; exact ⟨.base (.int b), by decide⟩
    | str b => cases e; exact ⟨.base (.str b), by decide⟩
    | tup h1 h2 => cases e; exact ⟨.base (.tup h1.2), by decide⟩
    | ref hn =>
      simp only [tyD] at e
      split at e
      · rename_i xs hx
        cases e
        obtain ⟨vs, z1, _⟩ := hr.obj _ _ _ hx hn
        exact ⟨.base (.lst z1), by decide⟩
      · rename_i xs hx
        cases e
        obtain ⟨vs, z1, _⟩ := hr.obj _ _ _ hx hn
        exact ⟨.base (.dK z1), by decide⟩
      · rename_i xs hx
        cases e
        obtain ⟨vs, z1, _⟩ := hr.obj _ _ _ hx hn
        exact ⟨.base (.dT z1), by decide⟩
      · cases e
    | rl h1 h2 =>
      cases e
      rcases h1 with ⟨_, o, h1⟩ | h1
      · exact ⟨.base (.frz h1), by decide⟩
      · rcases h1 (fun _ => none) with (h1 | ⟨o, h1⟩) | ⟨o, its, n, h1, h2, _⟩
        · cases h1
        · cases h1
        · exact ⟨.kList h1 h2, by decide⟩
    | _ => cases e
theorem kit_all {K : PySem.W.Frag} {T t : String} (hT : T ∈ ["bool", "int", "str", "tuple", "list"]) (ht : t ∈ ["NoneType", "bool", "int", "str", "tuple", "list", "dict"]) : PySem.W.kitOne K (.type t) (.type T) = some (isiD T t) := by
  refine kit_ty ?_
  simp only [List.mem_cons, List.not_mem_nil, or_false] at hT ht
  rcases hT with rfl | rfl | rfl | rfl | rfl <;> rcases ht with rfl | rfl | rfl | rfl | rfl | rfl | rfl <;> decide +kernel
theorem den_isi {x : Str} {Ts : String} {a : Expr} {p p2 pos : Pos} {f : Ev} (hg : Gl X "isinstance") (hm : X.mg "isinstance" = none) (hg2 : Gl X x) (hm2 : X.mg x = none) (hv : bootBuiltins x = some (.type Ts)) (ha : DenE X W a f) (hT : Ts ∈ ["bool", "int", "str", "tuple", "list"] := by decide)
    (hn2 : x ≠ "__name__" := by decide) (hdb2 : (x == ("__debug__" : Str)) = false := by decide)
    (he : starEach [a, .Name x p2] X.env = (false, eval a X.env) :: starEach [.Name x p2] X.env := by rfl) (hpl : (backTo pos (starEach [.Name x p2] X.env)).any (·.1) = false := by rfl) (he2 : starEach [.Name x p2] X.env = (false, eval (.Name x p2) X.env) :: starEach [] X.env := by rfl) :
    DenE X W (.Call (.Name "isinstance" p) [a, .Name x p2] [] pos) (evIsi [Ts] f) :=
  PE.imp (pe_callB call_isi hg hm (by decide +kernel) (pa_cons ha (pa_cons (pe_bltn (v := .ty Ts) hg2 hm2 hv rfl hn2 hdb2) pa_nil he2) he) (by decide) (by decide) he hpl) fun σ H Q ⟨r, e, h, er, hr, ok⟩ => by
    unfold evIsi at ok
    refine rdE_bind er hr ok fun d h1 v r1 H1 s1 hr1 t1 er1 ok1 => ?_
    split at ok1
    · rename_i t ht
      obtain ⟨z1, z2⟩ := tyX_of hr1 t1.u ht
      refine ⟨v, .ty Ts, .type t, .type Ts, isiD Ts t, rfl, .ty Ts, z1, kit_all hT z2, ?_⟩
      have := ok1 (.bl (isiD Ts t)) r1 H1 (Step.refl _ _) hr1
      simp only [List.any_cons, List.any_nil, Bool.or_false] at this
      exact this (.val (.bl _))
    · exact ok1.elim
/-- isinstance(x, (list, tuple)) -/
theorem den_isiLT {a : Expr} {p p1 p2 pos pt : Pos} {kt : Nat} {f : Ev} (hg : Gl X "isinstance") (hm : X.mg "isinstance" = none) (hg1 : Gl X "list") (hm1 : X.mg "list" = none) (hg2 : Gl X "tuple") (hm2 : X.mg "tuple" = none) (ha : DenE X W a f)
    (he : starEach [a, .Tuple [.Name "list" p1, .Name "tuple" p2] kt pt] X.env = (false, eval a X.env) :: starEach [.Tuple [.Name "list" p1, .Name "tuple" p2] kt pt] X.env := by rfl) (hpl : (backTo pos (starEach [.Tuple [.Name "list" p1, .Name "tuple" p2] kt pt] X.env)).any (·.1) = false := by rfl)
    (he2 : starEach [.Tuple [.Name "list" p1, .Name "tuple" p2] kt pt] X.env = (false, eval (.Tuple [.Name "list" p1, .Name "tuple" p2] kt pt) X.env) :: starEach [] X.env := by rfl)
    (he3 : starEach [.Name "list" p1, .Name "tuple" p2] X.env = (false, eval (.Name "list" p1) X.env) :: starEach [.Name "tuple" p2] X.env := by rfl) (he4 : starEach [.Name "tuple" p2] X.env = (false, eval (.Name "tuple" p2) X.env) :: starEach [] X.env := by rfl) :
    DenE X W (.Call (.Name "isinstance" p) [a, .Tuple [.Name "list" p1, .Name "tuple" p2] kt pt] [] pos) (evIsi ["list", "tuple"] f) :=
  PE.imp (pe_callB call_isiT hg hm (by decide +kernel) (pa_cons ha (pa_cons (pe_tup (pa_cons (pe_bltn (v := .ty "list") hg1 hm1 (by decide +kernel) rfl) (pa_cons (pe_bltn (v := .ty "tuple") hg2 hm2 (by decide +kernel) rfl) pa_nil he4) he3)) pa_nil he2) he) (by decide) (by decide) he hpl) fun σ H Q ⟨r, e, h, er, hr, ok⟩ => by
    unfold evIsi at ok
    refine rdE_bind er hr ok fun d h1 v r1 H1 s1 hr1 t1 er1 ok1 => ?_
    split at ok1
    · rename_i t ht
      refine ⟨by decide, fun q hq => ?_⟩
      have s2 : Step r1 H1 r1 (upd H1 q (.tup [.ty "list", .ty "tuple"])) := Step.alloc hq
      obtain ⟨z1, z2⟩ := tyX_of (hr1.alloc hq) (t1.mono s2).u ht
      refine ⟨v, q, [.ty "list", .ty "tuple"], .type t, [.type "list", .type "tuple"], _, rfl, upd_same, .cons (.ty _) (.cons (.ty _) .nil), z1, ?_, ok1 _ r1 _ s2 (hr1.alloc hq) (.val (.bl _))⟩
      refine kitAny_cons (kit_all (by decide) z2) (fun e1 => kitAny_cons (kit_all (by decide) z2) (fun e2 => ?_) fun e2 => ?_) fun e1 => ?_
      · show some false = some _
        simp [e1, e2]
      · simp [e2]
      · simp [e1]
    · exact ok1.elim
end
end BW

set_option Elab.async false
set_option linter.all false
set_option maxRecDepth 100000
set_option maxHeartbeats 4000000
namespace BW
open PySem PySem.Spec PyProof.Rows L2
variable [Tb]

/-! ### enumerate(tuple) -/
set_option maxHeartbeats 8000000 in
theorem meets_enumT {v : Value} {o : Obj} {H : Heap → Prop} (B : Begins v o H) :
    Meets (Builtin.«enumerate.__new__» ⟨[.type "enumerate", v], []⟩) (fun _ R s => H s.heap ∧
      R (.ok (.ret (.ref (s.heap.push o).objs.size))) { s with heap := (s.heap.push o).push { cls := .type "enumerate", data := .fields #[.none, .bool false, .ref s.heap.objs.size, rawInt 0, .none, .none] } }) :=
  .of_wp fun prog w A R s h => by
    obtain ⟨hp, g, d, tk, os⟩ := s
    obtain ⟨hH, h⟩ := h
    have hsub := sub_enumerate
    have go : ∀ {B' : Around} {E : Value → Shared → Prop} {Q : Value → Shared → Prop}, Q (.ref hp.objs.size) ⟨hp.push o, g, d, tk, os⟩ → wpAny (model prog w) B' (pyIter v) Q E ⟨hp, g, d, tk, os⟩ :=
      fun q => B.iter prog w _ _ ⟨hp, g, d, tk, os⟩ _ hH q
    wp_walk using go
    refine wpAny_stack_any fun st => wpAny_pure ?_
    split
    · rename_i c _ _ _ _ _
      cases (c == Value.type "enumerate") <;> (wp_walk using go; exact ⟨_, rfl, h⟩)
    · wp_walk using go
      exact ⟨_, rfl, h⟩
section
variable {prog : Program} {w : World} {A : Around} {E : Value → Shared → Prop} {s : Shared}
theorem call_enumT {v : Value} {o : Obj} {H : Heap → Prop} {Q : Value → Shared → Prop} (B : Begins v o H) (h1 : H s.heap)
    (h : ∀ h', IsEnum h' (s.heap.objs.size + 1) s.heap.objs.size 0 .none → h'.get? s.heap.objs.size = some o → (∀ b u, s.heap.get? b = some u → h'.get? b = some u) → Q (.ref (s.heap.objs.size + 1)) { s with heap := h' }) :
    wpAny (model prog w) A (call (.type "enumerate") [v]) Q E s := by
  refine callType_new F.called_enumerate (by decide) (F.typeCall_enumerate_1 _) (F.newCall_enumerate_1 _) (fun obj => F.args_object_init_2 obj _) F.entry_enumerate_new (meets_enumT B) ⟨h1, ?_⟩
  have hz : (s.heap.push o).objs.size = s.heap.objs.size + 1 := Heap.size_push ..
  show _ ∧ _
  rw [hz]
  have he : IsEnum ((s.heap.push o).push { cls := .type "enumerate", data := .fields #[.none, .bool false, .ref s.heap.objs.size, rawInt 0, .none, .none] }) (s.heap.objs.size + 1) s.heap.objs.size 0 .none := by
    have q := Heap.get?_push_size (s.heap.push o) (o := { cls := .type "enumerate", data := .fields #[.none, .bool false, .ref s.heap.objs.size, rawInt 0, .none, .none] }) rfl
    rw [hz] at q
    exact q
  exact ⟨⟨_, he, rfl⟩, h _ he (Heap.get?_push_of_some _ (Heap.get?_push_size _ B.free)) fun b u x => Heap.get?_push_of_some _ (Heap.get?_push_of_some _ x)⟩
end
/-- the tuple at a, each item in a new pair -/
def IteT (K : PySem.W.Frag) (a : Addr) : It :=
  ⟨fun i H => ∃ (xs : List V) (x : V), SqT K H a xs ∧ xs[i]? = some x, fun i H v H' => ∃ T x, v = .ref T ∧ H T = none ∧ H' = upd H T (.tup [.int (i : Nat), x]) ∧ ∀ xs, SqT K H a xs → xs[i]? = some x, fun i H => ∃ xs : List V, SqT K H a xs ∧ xs.length = i⟩
theorem turn_enumT {P : Program} {w : World} {K : PySem.W.Frag} {elts : List Expr} {kk : Nat} {tpos : Pos} (a e it : Addr) (hai : a ≠ it) :
    Turn P w K (.Tuple elts kk tpos) (IteT K a) [e, it] e (fun i h => (∃ old, IsEnum h e it ((i : Nat) : Int) old) ∧ h.IsTupleIter it a i ∧ e ≠ it) where
  mem := by simp
  obj := fun i h st b hb => by
    obtain ⟨⟨old, he⟩, ⟨o, ho, hc, hd⟩, _⟩ := st
    have e' : b = e ∨ b = it := by simpa using hb
    rcases e' with z | z
    · rw [z]; exact ⟨_, he, fun v q => nomatch q⟩
    · rw [z]; exact ⟨o, ho, fun v q => by rw [hd] at q; cases q⟩
  keep := fun i h h' st k => let ⟨⟨old, he⟩, hi, hne⟩ := st; ⟨⟨old, k e (by simp) _ he⟩, hi.at fun o q => k it (by simp) o q, hne⟩
  item := by
    intro X hP hw hK hc i pins s σ H E I hf st hg
    subst hP hw hK
    obtain ⟨⟨old, he⟩, hit, hne⟩ := st
    obtain ⟨xs, x, hq, hx⟩ := hg
    obtain ⟨its, rv, p, hz⟩ := I.tuple hq
    obtain ⟨u, hu, ru⟩ := rv.get hx
    have hel : e < s.heap.objs.size := Heap.lt_size he
    have hil : it < s.heap.objs.size := by obtain ⟨_, q, _⟩ := hit; exact Heap.lt_size q
    have hlt : i < its.toArray.size := by
      have := (List.getElem?_eq_some_iff.mp hu).1
      simpa using this
    have hea : e ≠ a := fun z => by
      obtain ⟨o, ho, hcl, _⟩ := (id p : IsTup s.heap a its.toArray)
      rw [← z] at ho
      have he2 : s.heap.get? e = some _ := he
      rw [ho] at he2
      cases he2
      exact absurd hcl (fun q => by injection q with q; exact absurd q (by decide))
    refine wpAny_pyNext_enum_itemD (Draws.tuple (A := X.A.in1) (I.ok.hd hc) it a hai its.toArray) he ⟨hit, p⟩ hlt hne (by simp [hne, hea]) fun y h' tk hP' ho hst' hT hsz hk => ?_
    have ey : y = u := by
      have : its.toArray[i]? = some u := by simpa using hu
      rw [this] at hP'
      exact (Option.some.inj hP').symm
    subst ey
    refine ⟨_, rfl, wpAny_letOwnedTupleGo_enum (s := { s with heap := h', toks := tk + 1 }) ho fun h'' he' sb => ?_⟩
    have hT2 : h''.get? s.heap.objs.size = some { cls := .type "tuple", data := .seq #[.int i tk, y] } := (sb.2 _ (Nat.ne_of_gt hel)).trans hT
    have new : ObjOk X.prog X.w (upd H s.heap.objs.size (.tup [.int (i : Nat), x])) h'' s.heap.objs.size (.tup [.int (i : Nat), x]) :=
      ⟨by show 2 ≤ sizeLine; decide, [.int i tk, y], .cons ⟨_, rfl⟩ (.cons ru .nil), ⟨_, hT2, rfl, _, rfl⟩⟩
    have I1 : Inv X pins σ (upd H s.heap.objs.size (.tup [.int (i : Nat), x])) { s with heap := h'', toks := tk + 1 } :=
      I.turnedNew (ch := [e, it]) (fun b ob hb q => (sb.2 b (fun z => hb (by simp [z]))).trans (hk b ob (fun z => hb (by simp [z])) (fun z => hb (by simp [z])) q)) hf (Nat.le_refl _) new
    refine ⟨.ref s.heap.objs.size, _, I1, rfl, ⟨_, x, rfl, I.hok.fresh (Nat.le_refl _), rfl, fun ys hy => by rw [I.tuple_inj hy hq]; exact hx⟩, ⟨⟨y, ?_⟩, hst'.1.at fun o q => (sb.2 it (Ne.symm hne)).trans q, hne⟩, fun b hb => ?_⟩
    · have e1 : ((i + 1 : Nat) : Int) = (i : Int) + 1 := by omega
      rw [e1]; exact he'
    · have hb' : b < s.heap.objs.size := by
        have e' : b = e ∨ b = it := by simpa using hb
        rcases e' with z | z
        · rw [z]; exact hel
        · rw [z]; exact hil
      rw [upd_ne (Nat.ne_of_lt hb')]
      exact (hf b hb).1
  done := by
    intro X hP hw hK hc i pins s σ H E I hf st hg
    subst hP hw hK
    obtain ⟨⟨old, he⟩, hit, hne⟩ := st
    obtain ⟨xs, hq, hx⟩ := hg
    obtain ⟨its, rv, p, hz⟩ := I.tuple hq
    obtain ⟨f0, f1, f2, f3, f4, f5⟩ := hf it (by simp)
    have hl := rv.length
    have hn : i = its.toArray.size := by rw [List.size_toArray, ← hl, hx]
    refine wpAny_pyNext_enum_endD (Draws.tuple (A := X.A.in1) (I.ok.hd hc) it a hai its.toArray) he ⟨hn ▸ hit, p⟩ fun h' eb => ⟨rfl, I.turned (t' := s.toks) (fun b o hb q => eb b o hb q) f0 f1 f3 f4 f5⟩
  self := fun A i s Q E st h => let ⟨⟨_, he⟩, _⟩ := st; wpAny_pyIter_enum he h
def iEnumT (K : PySem.W.Frag) (ta : TA) : TI := fun σ H R => ta σ H fun vs H1 => ∃ a xs, vs = [.ref a] ∧ SqT K H1 a xs ∧ R (IteT K a) H1
theorem pi_enumT {X : Cx} {e : Expr} {ta : TA} {p pos tpos : Pos} {elts : List Expr} {kk : Nat} (hg : Gl X "enumerate") (hm : X.mg "enumerate" = none) (ha : PA X [e] ta) (hs : starEach [e] X.env = [(false, eval e X.env)] := by rfl) :
    PI X (.Tuple elts kk tpos) (.Call (.Name "enumerate" p) [e] [] pos) (iEnumT X.K ta) := by
  refine ⟨fun pins s σ H R I h => ?_⟩
  refine Call_ (ld_blt I hg hm boot_enumerate (PyProof.Rows.callWith_type1 (thn (ha.run pos pins s σ H _ I h) fun us s1 ⟨vs, H1, I1, r1, q1⟩ => ?_) hs rfl))
  obtain ⟨a, xs, ex, hq, q⟩ := q1
  subst ex
  cases r1 with
  | cons r rr =>
    cases rr
    cases r
    obtain ⟨its, rv, p', hz⟩ := I1.tuple hq
    refine call_enumT (begins_tuple a its.toArray) p' fun h' he hit hk => wpAny_pyIter_enum he ?_
    have I2 : Inv X pins σ H1 { s1 with heap := h' } := I1.kept (t' := s1.toks) hk
    have hal : a < s1.heap.objs.size := by obtain ⟨_, q, _⟩ := id p'; exact Heap.lt_size q
    refine ⟨s1.heap.objs.size + 1, [s1.heap.objs.size + 1, s1.heap.objs.size], _, _, H1, rfl, I2, turn_enumT a (s1.heap.objs.size + 1) s1.heap.objs.size (Nat.ne_of_lt hal), ⟨⟨.none, he⟩, ⟨_, hit, rfl, rfl⟩, Nat.succ_ne_self _⟩, fun b hb => ?_, q⟩
    have e' : b = s1.heap.objs.size + 1 ∨ b = s1.heap.objs.size := by simpa using hb
    have hle : s1.heap.objs.size ≤ b := by
      rcases e' with z | z
      · rw [z]; exact Nat.le_add_right _ _
      · rw [z]; exact Nat.le_refl _
    exact I1.fpOk hle (I1.hok.fresh hle)

/-! ### .. as plain walks -/
def enumD (xs : List D) : List D := xs.mapIdx fun i x => .tup [.int (i : Nat), x]
def zipD (xs ys : List D) : List D := List.zipWith (fun x y => .tup [x, y]) xs ys
def kEnum : List D → AH → Out Its
  | [d], h => match itsOf h d with
    | some it => .ok { xs := enumD it.xs, g := it.g } h
    | none => .stuck
  | _, _ => .stuck
def kZip : List D → AH → Out Its
  | [.tup xs, .tup ys], h => .ok { xs := zipD xs ys } h
  | [d, d'], h => match itsOf h d, itsOf h d' with
    | some it, some it' => if it.g = none ∨ it'.g = none ∨ it.g = it'.g then .ok { xs := zipD it.xs it'.xs, g := if it.g = none then it'.g else it.g } h else .stuck
    | _, _ => .stuck
  | _, _ => .stuck
section
variable {X : Cx} {W : Wx}
/-- a list that is read as xs at each turn -/
theorem list_walk {K : PySem.W.Frag} {mg : Str → Option Value} {r : List Addr} {h : AH} {H : Hp} {v : V} {d : D} {it : Its} (hr : HRel K mg r h H) (q : RelU K mg r H v d) (e : itsOf h d = some it) (ht : ∀ xs, d ≠ .tup xs) :
    ∃ a vs, v = .ref a ∧ SqL K H a vs ∧ (∀ r' h' H', Step r H r' H' → HRel K mg r' h' H' → guardOk it.g h' = true → ∃ ws, SqL K H' a ws ∧ Rels K mg r' H' ws it.xs) := by
  cases q with
  | @tl p vs xs a b c q =>
    cases e
    exact ⟨p, vs, rfl, .inl (.inl b), fun r' h' H' s _ _ => ⟨vs, .inl (.inl (s.keep _ _ b c NoOwn.of)), q.mono s.mn⟩⟩
  | val q => cases q with
    | tup => exact absurd rfl (ht _)
    | @ref n a hn =>
      simp only [itsOf] at e
      split at e
      · rename_i xs hx
        cases e
        obtain ⟨vs, h1, h2⟩ := hr.obj _ _ _ hx hn
        refine ⟨a, vs, rfl, .inl (.inl h1), fun r' h' H' s hr' hg => ?_⟩
        simp only [guardOk, decide_eq_true_eq] at hg
        obtain ⟨ws, z1, z2⟩ := hr'.obj _ _ _ hg (s.get hn)
        exact ⟨ws, .inl (.inl z1), z2⟩
      · cases e
    | @rl a vs xs h1 h2 =>
      cases e
      exact ⟨a, vs, rfl, h1.sq, fun r' h' H' s _ _ => ⟨vs, (h1.mono s.mn).sq, h2.mono s.mn⟩⟩
    | _ => cases e
theorem pair_ok {K : PySem.W.Frag} {mg : Str → Option Value} {r1 : List Addr} {h1 : AH} {H1 H2 : Hp} {T : Addr} {x y : V} {d d' : D} (hr1 : HRel K mg r1 h1 H1) (hT : H1 T = none) (e : H2 = upd H1 T (.tup [x, y])) (q : Rel K mg r1 H1 x d) (q' : Rel K mg r1 H1 y d') :
    Step r1 H1 r1 H2 ∧ HRel K mg r1 h1 H2 ∧ Rel K mg r1 H2 (.ref T) (.tup [d, d']) := by
  subst e
  have s : Step r1 H1 r1 (upd H1 T (.tup [x, y])) := Step.alloc hT
  exact ⟨s, hr1.alloc hT, .tup ⟨fun z => hr1.there z hT, upd_same⟩ (.cons (q.mono s.mn) (.cons (q'.mono s.mn) .nil))⟩
theorem den_enum {a : Expr} {p pos tpos : Pos} {elts : List Expr} {kk : Nat} {f : Ev} (hg : Gl X "enumerate") (hm : X.mg "enumerate" = none) (ha : DenA X W [a] (evs [f])) (hs : starEach [a] X.env = [(false, eval a X.env)] := by rfl) : DenI X W (.Tuple elts kk tpos) (.Call (.Name "enumerate" p) [a] [] pos) (ivBy [f] kEnum) :=
  PI.imp (PI.or (pi_enum hg hm ha hs) (pi_enumT hg hm ha hs)) fun σ H R ⟨r, e, h, er, hr, ok⟩ => by
    unfold ivBy at ok
    cases hfe : evs [f] e h with
    | stuck => rw [hfe] at ok; exact ok.elim
    | exc x h1 => exact .inl ⟨r, e, h, er, hr, by rw [hfe] at ok ⊢; exact ok⟩
    | ok ds h1 =>
      rw [hfe, Out.bind_ok] at ok
      unfold kEnum at ok
      split at ok
      · rename_i d
        split at ok
        · rename_i it hi
          by_cases ht : ∃ xs, d = .tup xs
          · obtain ⟨xs, rfl⟩ := ht
            cases hi
            refine .inr ⟨r, e, h, er, hr, ?_⟩
            rw [hfe]
            intro vs r1 H1 s1 hr1 t1
            obtain ⟨v, rfl, t⟩ := t1.one
            obtain ⟨b, ws, rfl, z1, z2⟩ := t.tup_inv
            refine ⟨b, ws, rfl, z1.sq, ok _ r1 H1 s1 hr1 ⟨fun H => SqT X.K H b ws, fun i H x H' => ∃ T y, x = .ref T ∧ H T = none ∧ H' = upd H T (.tup [.int (i : Nat), y]) ∧ ws[i]? = some y, ?_, fun r' H' h' s _ _ => (z1.mono s.mn).sq, ?_⟩⟩
            · have hl : (enumD xs).length = ws.length := by simp [enumD, z2.length]
              refine walk_len (n := ws.length) ⟨fun i H hi q => ⟨ws, ws[i], q, by simp [hi]⟩, fun H q => ⟨ws, q, rfl⟩, fun i H x H' hi q y => ?_⟩ hl.symm
              obtain ⟨T, u, y1, y2, y3, y4⟩ := y
              exact ⟨T, u, y1, y2, y3, y4 ws q⟩
            · rintro i r2 h2 H2 x H3 hi s2 hr2 hgd ⟨T, y, rfl, hT, eH, hy⟩
              obtain ⟨d, g1, g2⟩ := (z2.mono s2.mn).get hy
              obtain ⟨w1, w2, w3⟩ := pair_ok hr2 hT eH (.int _) g2
              exact ⟨w1, w2, _, by simp [enumD, g1], w3⟩
          · refine .inl ⟨r, e, h, er, hr, ?_⟩
            rw [hfe]
            intro vs r1 H1 s1 hr1 t1
            obtain ⟨v, rfl, t⟩ := t1.one
            obtain ⟨b, ws, rfl, z1, z2⟩ := list_walk hr1 t hi (fun xs z => ht ⟨xs, z⟩)
            refine ⟨b, ws, rfl, z1, ok _ r1 H1 s1 hr1 ⟨fun H => ∃ us, SqL X.K H b us ∧ us.length = it.xs.length, fun i H x H' => ∃ T y, x = .ref T ∧ H T = none ∧ H' = upd H T (.tup [.int (i : Nat), y]) ∧ ∀ us, SqL X.K H b us → us[i]? = some y, ?_, fun r' H' h' s hr' hg' => ?_, ?_⟩⟩
            · have hl : (enumD it.xs).length = it.xs.length := by simp [enumD]
              refine walk_len (n := it.xs.length) ⟨fun i H hi ⟨us, q, ql⟩ => ⟨us, us[i]'(by rw [ql]; exact hi), q, by simp [ql, hi]⟩, fun H ⟨us, q, ql⟩ => ⟨us, q, by rw [ql]; exact Nat.le_refl _⟩, fun i H x H' hi q y => ?_⟩ hl.symm
              obtain ⟨T, u, y1, y2, y3, y4⟩ := y
              exact ⟨T, u, y1, y2, y3, y4⟩
            · obtain ⟨us, g1, g2⟩ := z2 r' h' H' s hr' hg'
              exact ⟨us, g1, g2.length⟩
            · rintro i r2 h2 H2 x H3 hi s2 hr2 hgd ⟨T, y, rfl, hT, eH, hy⟩
              obtain ⟨us, g1, g2⟩ := z2 r2 h2 H2 s2 hr2 hgd
              obtain ⟨d, g3, g4⟩ := g2.get (hy us g1)
              obtain ⟨w1, w2, w3⟩ := pair_ok hr2 hT eH (.int _) g4
              exact ⟨w1, w2, _, by simp [enumD, g3], w3⟩
        · exact ok.elim
      · exact ok.elim
end
end BW

set_option Elab.async false
set_option linter.all false
set_option maxRecDepth 100000
set_option maxHeartbeats 4000000
namespace BW
open PySem PySem.Spec PyProof.Rows L2
variable [Tb]

/-! ### classes with one slot -/
/-- what is wanted of exceptions does not hang on the slots -/
def Wc (W : Wx) : Prop := ∀ c dx σ σ' H, W c dx σ H → W c dx σ' H
theorem wc_0 : Wc W0 := fun _ _ _ _ _ z => z
theorem wc_E {E : XK} : Wc (fun c dx _ H => E c dx H) := fun _ _ _ _ _ z => z
/-- the class c with the slot f -/
structure SC (K : PySem.W.Frag) (mg : Str → Option Value) (c f : Str) : Prop where
  ex : ∃ C p, mg c = some (.ref C) ∧ SlX.SCls K C ∧ SlX.Slot1 K C f p 0
/-- a method of the class c -/
def Mt (P : Program) (w : World) (K : PySem.W.Frag) (mg : Str → Option Value) (base : Heap) (c m : Str) (k n : Nat) (d : Fd) : Prop :=
  ∃ C f, mg c = some (.ref C) ∧ Meth K C m f ∧ FnR P w K mg base (L2.CX P w) k f (spF K mg n d)
/-- how an instance of the class c is made -/
def Mkr (P : Program) (w : World) (K : PySem.W.Frag) (mg : Str → Option Value) (base : Heap) (c : Str) (k n : Nat) (d : Fd) : Prop :=
  ∃ C f fd ps, mg c = some (.ref C) ∧ Mk K C f ∧ FnOk P w K mg base (L2.CX P w) k f fd ps (spF K mg n d) ∧ Binds K fd ps []
def evMake (c : Str) (d : Fd) (fs : List Ev) : Ev := fun e h => (evsV fs e h).bind fun ds h1 => (d (.ref h1.length :: ds) (h1 ++ [.ins c []])).bind fun v h2 => match v with
  | .non => .ok (.ref h1.length) h2
  | _ => .stuck
def slotD (h : AH) (o : D) : Option D := match o with
  | .ref n => match h[n]? with
    | some (.sins _ [some d]) => some d
    | _ => none
  | _ => none
def evSlot (c : Str) (f : Ev) : Ev := fun e h => (f e h).bind fun o h1 => match o with
  | .ref n => match h1[n]? with
    | some (.sins c' [some d]) => if c' = c then .ok d h1 else .stuck
    | _ => .stuck
  | _ => .stuck
/-- self.f = e, the first store -/
def svSlot (c : Str) (fo fv : Ev) : Sv := fun e h => (pv fv e h).toFl e fun d h1 => (fo e h1).toFl e fun o h2 => match o with
  | .ref n => if h2[n]? = some (.ins c []) then .nx e (h2.set n (.sins c [some d])) else .stuck
  | _ => .stuck
section
variable {X : Cx} {W : Wx}
theorem passesW (tk : Takes X W) (hc : Wc W) : Passes (L2.CX X.prog X.w) X (fun c dx H => ∃ σ, W c dx σ H) := passes_call tk fun c dx σ H ⟨σ', z⟩ => hc c dx σ' σ H z
theorem den_make {c : Str} {k n : Nat} {d : Fd} {p pos : Pos} {ex : Expr} {es : List Expr} {fs : List Ev} {j : Nat} (M : Mkr X.prog X.w X.K X.mg X.base c k n d) (hr : Room j X.A) (tk : Takes X W) (hc : Wc W) (ha : DenVs X W (ex :: es) (evsV fs)) (hjk : k + 1 ≤ j := by decide) (hn : fs.length + 1 = n := by rfl) (hg : Gl X c := by rfl)
    (hdb : (c == ("__debug__" : Str)) = false := by decide) (he : starEach (ex :: es) X.env = (false, eval ex X.env) :: starEach es X.env := by rfl) (hpl : (backTo pos (starEach es X.env)).any (·.1) = false := by rfl) : DenE X W (.Call (.Name c p) (ex :: es) [] pos) (evMake c d fs) := by
  obtain ⟨C, f, fd, ps, hm, M, F, b⟩ := M
  refine PE.imp (pe_make M F (hr.mono hjk) hg hm b .nil (passesW tk hc) ha hdb he hpl) fun σ H Q ⟨r, e, h, er, hrel, ok⟩ => ?_
  unfold evMake at ok
  refine ⟨r, e, h, er, hrel, ?_⟩
  cases hf : evsV fs e h with
  | stuck => rw [hf] at ok; exact ok
  | exc x h1 => rw [hf] at ok; exact ok
  | ok ds h1 =>
    rw [hf, Out.bind_ok] at ok
    intro vs r1 H1 s1 hr1 t1 x dx hx hdx hne
    have hxr : x ∉ r1 := fun z => hr1.there z hx
    have hdr : dx ∉ r1 := fun z => hr1.there z hdx
    have sd : Step r1 H1 r1 (upd H1 dx (.own x)) := Step.alloc hdx
    have hx2 : upd H1 dx (.own x) x = none := by rw [upd_ne hne.symm]; exact hx
    have sx : Step r1 (upd H1 dx (.own x)) r1 (upd (upd H1 dx (.own x)) x (.ins C dx [])) := Step.alloc hx2
    have h2 : HRel X.K X.mg r1 h1 (upd (upd H1 dx (.own x)) x (.ins C dx [])) := (hr1.alloc hdx).alloc hx2
    have mo : Mo r1 (upd (upd H1 dx (.own x)) x (.ins C dx [])) (r1 ++ [x]) (upd (upd H1 dx (.own x)) x (.ins C dx [])) := Mo.push upd_same (fun z => z) NoOwn.of
    have s3 : Step r1 H1 (r1 ++ [x]) (upd (upd H1 dx (.own x)) x (.ins C dx [])) := Step.push hxr (sd.trans sx) (.of hx)
    have h3 : HRel X.K X.mg (r1 ++ [x]) (h1 ++ [.ins c []]) (upd (upd H1 dx (.own x)) x (.ins C dx [])) :=
      h2.push (ob := .ins c []) hxr mo ⟨C, dx, [], hm, upd_same, by rw [upd_ne hne, upd_same], fun z => by
        rcases List.mem_append.mp z with z | z
        · exact hdr z
        · exact hne (List.mem_singleton.mp z), .nil⟩
    have hl : (r1 ++ [x])[h1.length]? = some x := by rw [← hr1.len, List.getElem?_append_right (Nat.le_refl _), Nat.sub_self]; rfl
    rw [List.append_nil]
    refine ⟨r1 ++ [x], h1 ++ [.ins c []], .ref h1.length :: ds, h3, .cons (.ref hl) (t1.mono s3.mn), by rw [List.length_cons, evsV_len hf]; exact hn, ?_⟩
    have ok1 := OkE.after (s1.trans s3) ok
    cases hd : d (.ref h1.length :: ds) (h1 ++ [.ins c []]) with
    | stuck => rw [hd] at ok1; exact ok1
    | exc y h4 => rw [hd] at ok1; exact fun cc dd r' H' s' hr' t => ⟨σ, ok1 cc dd r' H' s' hr' t⟩
    | ok v h4 =>
      rw [hd, Out.bind_ok] at ok1
      intro u r' H' s' hr' t
      cases v with
      | non =>
        cases t
        exact ⟨rfl, ok1 _ r' H' s' hr' (.val (.ref (s'.get hl)))⟩
      | _ => exact ok1.elim
theorem den_slot {c f : Str} {ex : Expr} {pos : Pos} {fe : Ev} (S : SC X.K X.mg c f) (he : DenE X W ex fe) (hb : attributeBase ex f X.env (eval ex X.env) = eval ex X.env := by rfl) : DenE X W (.Attribute ex f pos) (evSlot c fe) := by
  obtain ⟨C, p, hm, sc, sl⟩ := S.ex
  refine PE.imp (SlX.pe_sl he hb) fun σ H Q ⟨r, e, h, er, hr, ok⟩ => ?_
  unfold evSlot at ok
  refine rdE_bind er hr ok fun o h1 v r1 H1 s1 hr1 t1 er1 ok1 => ?_
  split at ok1
  · rename_i n
    split at ok1
    · rename_i c' d hd
      split at ok1
      · rename_i hcc
        subst hcc
        cases t1 with
        | val t1 => cases t1 with
          | @ref n a hn =>
            obtain ⟨C', dx, vs, z1, z2, z3, z4, z5⟩ := hr1.obj _ _ _ hd hn
            rw [hm] at z1
            cases z1
            cases z5 with
            | @some v x vs xs q z5 =>
              cases z5
              exact ⟨a, C, dx, p, [some v], 0, v, rfl, .inr ⟨z2, z3⟩, sc, sl, rfl, ok1 _ r1 H1 (Step.refl _ _) hr1 (.val q)⟩
      · exact ok1.elim
    · exact ok1.elim
  · exact ok1.elim
theorem den_setslot {c f : Str} {o ex : Expr} {pos pos' : Pos} {fo fv : Ev} (S : SC X.K X.mg c f) (ho : DenE X W o fo) (hv : DenE X W ex fv) (hs : swapsWith ex (some (.Attribute o f pos')) pos.line X.env = pure false := by rfl) : DenS X W (.Assign [.Attribute o f pos'] ex pos) (svSlot c fo fv) := by
  obtain ⟨C, p, hm, sc, sl⟩ := S.ex
  refine PS.imp (SlX.ps_sl ho (den_pv hv) hs) fun N σ H ⟨r, e, h, er, hr, ok⟩ => ?_
  unfold svSlot at ok
  refine rdV_bindS er hr ok fun d h1 v r1 H1 s1 hr1 t1 er1 ok1 => ?_
  refine rdE_bindS er1 hr1 ok1 fun o h2 w r2 H2 s2 hr2 t2 er2 ok2 => ?_
  split at ok2
  · rename_i n
    split at ok2
    · rename_i hi
      cases t2 with
      | val t2 => cases t2 with
        | @ref n a hn =>
          obtain ⟨C', dx, vs, z1, z2, z3, z4, z5⟩ := hr2.obj _ _ _ hi hn
          rw [hm] at z1
          cases z1
          cases z5
          have ha : a ∈ r2 := List.mem_of_getElem? hn
          have hne : dx ≠ a := fun z => z4 (z ▸ ha)
          refine ⟨a, C, dx, p, [], 0, rfl, .inl ⟨z2, rfl⟩, sc, sl, ?_⟩
          have e0 : SlX.putS 0 v [] = [some v] := rfl
          rw [e0]
          have q := t1.mono s2.mn
          -- the steps
          have st : Step r2 H2 r2 (SlX.slH H2 a C dx [some v]) := ⟨List.prefix_refl _, fun _ x y => absurd x y, fun b o hb hn' ho => by
              have n1 : b ≠ a := fun z => hn' (z ▸ ha)
              have n2 : b ≠ dx := fun z => by subst z; rw [z3] at hb; cases hb; exact ho.1 a rfl
              rw [SlX.slH_ne n1 n2]; exact hb, fun b f => by
              by_cases n1 : b = a
              · subst n1
                obtain ⟨ps, z⟩ := f _ (by unfold SlX.slH; rw [upd_same])
                unfold SlX.SlO at z
                cases z
              · by_cases n2 : b = dx
                · subst n2
                  obtain ⟨ps, z⟩ := f _ (by unfold SlX.slH; rw [upd_ne n1, upd_same])
                  cases z
                · intro u e
                  exact f u (by rw [SlX.slH_ne n1 n2]; exact e)⟩
          have tb : TbOk r2 (SlX.slH H2 a C dx [some v]) := ⟨fun p hp => by
              obtain ⟨ps, y1, y2, y3, y4⟩ := hr2.tbs.tab p hp
              have n1 : p.1 ≠ a := fun z => y2 (z ▸ ha)
              have n2 : p.1 ≠ dx := fun z => by rw [z, z3] at y1; cases y1
              refine ⟨ps, by rw [SlX.slH_ne n1 n2]; exact y1, y2, y3, fun pos cv hc => ?_⟩
              obtain ⟨k, k1, k2, k3⟩ := y4 pos cv hc
              have m1 : k ≠ a := fun z => k2 (z ▸ ha)
              have m2 : k ≠ dx := fun z => by rw [z, z3] at k3; unfold LamX.CodeO at k3; cases k3
              exact ⟨k, k1, k2, by rw [SlX.slH_ne m1 m2]; exact k3⟩⟩
          refine ok2 σ r2 _ st (er2.mono st.mn) ⟨by rw [List.length_set]; exact hr2.len, hr2.nd, tb, fun i ob b e1 e2 => ?_⟩
          by_cases hij : n = i
          · subst hij
            rw [hn] at e2
            cases e2
            rw [List.getElem?_set] at e1
            simp only [if_true] at e1
            split at e1
            · cases e1
              exact ⟨C, dx, [some v], hm, by unfold SlX.slH; rw [upd_same], by unfold SlX.slH; rw [upd_ne hne, upd_same], z4, .some (q.mono st.mn) .nil⟩
            · cases e1
          · rw [List.getElem?_set_ne hij] at e1
            have nb : b ≠ a := fun z => by
              subst z
              exact hij ((List.getElem?_inj (List.getElem?_eq_some_iff.mp hn).1 hr2.nd).mp (hn.trans e2.symm))
            have nbd : b ≠ dx := fun z => z4 (z ▸ List.mem_of_getElem? e2)
            have keepOwn : ∀ x y, H2 x = some (.own y) → y ≠ a → x ∉ r2 → SlX.slH H2 a C dx [some v] x = some (.own y) := fun x y hx hy hxr => by
              have n1 : x ≠ a := fun z => hxr (z ▸ ha)
              have n2 : x ≠ dx := fun z => by subst z; rw [z3] at hx; cases hx; exact hy rfl
              rw [SlX.slH_ne n1 n2]; exact hx
            have eb : SlX.slH H2 a C dx [some v] b = H2 b := SlX.slH_ne nb nbd
            have old := hr2.obj i ob b e1 e2
            cases ob with
            | lst xs => obtain ⟨us, y1, y2⟩ := old; exact ⟨us, eb.trans y1, y2.mono st.mn⟩
            | dk xs => obtain ⟨us, y1, y2⟩ := old; exact ⟨us, eb.trans y1, y2.mono st.mn⟩
            | dt xs => obtain ⟨us, y1, y2⟩ := old; exact ⟨us, eb.trans y1, y2.mono st.mn⟩
            | ins c2 fs => obtain ⟨C2, dy, us, y0, y1, y2, y3, y4⟩ := old; exact ⟨C2, dy, us, y0, eb.trans y1, keepOwn dy b y2 nb y3, y3, y4.mono st.mn⟩
            | sins c2 fs => obtain ⟨C2, dy, us, y0, y1, y2, y3, y4⟩ := old; exact ⟨C2, dy, us, y0, eb.trans y1, st.keep _ _ y2 y3 NoOwn.of, y3, y4.mono st.mn⟩
    · exact ok2.elim
  · exact ok2.elim

/-! ### a method of such an instance -/
def isC (h : AH) (c : Str) (o : D) : Bool := match o with
  | .ref n => match h[n]? with
    | some (.sins c' _) => decide (c' = c)
    | some (.ins c' []) => decide (c' = c)
    | _ => false
  | _ => false
def evMeth (c : Str) (d : Fd) (fo : Ev) (fs : List Ev) : Ev := fun e h => (fo e h).bind fun o h1 => if isC h1 c o then (evsV fs e h1).bind fun ds h2 => d (o :: ds) h2 else .stuck
theorem isC_ok {K : PySem.W.Frag} {mg : Str → Option Value} {r : List Addr} {h : AH} {H : Hp} {v : V} {o : D} {c : Str} {C : Addr} (hr : HRel K mg r h H) (hm : mg c = some (.ref C)) (t : RelU K mg r H v o) (z : isC h c o = true) : ∃ a dx vs, v = .ref a ∧ SlX.Slt H a C dx vs ∧ Rel K mg r H v o := by
  unfold isC at z
  split at z
  · rename_i n
    cases t with
    | val t => cases t with
      | @ref n a hn =>
        split at z
        · rename_i c' vs hv
          have := of_decide_eq_true z
          subst this
          obtain ⟨C', dx, us, y0, y1, y2, y3, y4⟩ := hr.obj _ _ _ hv hn
          rw [hm] at y0
          cases y0
          exact ⟨a, dx, us, rfl, .inr ⟨y1, y2⟩, .ref hn⟩
        · rename_i c' hv
          have := of_decide_eq_true z
          subst this
          obtain ⟨C', dx, us, y0, y1, y2, y3, y4⟩ := hr.obj _ _ _ hv hn
          rw [hm] at y0
          cases y0
          cases y4
          exact ⟨a, dx, [], rfl, .inl ⟨y1, rfl⟩, .ref hn⟩
        · cases z
  · cases z
theorem den_meth {c f m : Str} {k n j : Nat} {d : Fd} {o ex : Expr} {es : List Expr} {apos pos : Pos} {fo : Ev} {fs : List Ev} {pl : Sem Bool} (S : SC X.K X.mg c f) (M : Mt X.prog X.w X.K X.mg X.base c m k n d) (hr : Room j X.A) (tk : Takes X W) (hc : Wc W) (ho : DenE X W o fo) (ha : DenVs X W (ex :: es) (evsV fs)) (hjk : k ≤ j := by decide) (hn : fs.length + 1 = n := by rfl)
    (hst : starEach (ex :: es) X.env = (false, eval ex X.env) :: starEach es X.env := by rfl) (hpl : (backTo pos (starEach es X.env)).any (·.1) = false := by rfl)
    (ht : eval (.Call (.Attribute o m apos) (ex :: es) [] pos) X.env = (do
      let zo ← eval o X.env
      standAt apos.atName
      let (zf, z1) ← holding [zo] (getMethod zo m pl)
      callWith pos zf z1 (backTo pos (starEach (ex :: es) X.env)) (backToKw pos (keywordEach [] X.env))) := by rfl) :
    DenE X W (.Call (.Attribute o m apos) (ex :: es) [] pos) (evMeth c d fo fs) := by
  obtain ⟨C, p, hm, sc, sl⟩ := S.ex
  obtain ⟨C', g, hm', me, F⟩ := M
  rw [hm] at hm'
  cases hm'
  refine PE.imp (SlX.pe_methSl (pl := pl) ho sc me F (hr.mono hjk) (passesW tk hc) ha hst hpl ht) fun σ H Q ⟨r, e, h, er, hrel, ok⟩ => ?_
  unfold evMeth at ok
  refine rdE_bind er hrel ok fun o h1 v r1 H1 s1 hr1 t1 er1 ok1 => ?_
  split at ok1
  · rename_i hi
    obtain ⟨a, dx, vs, rfl, z1, z2⟩ := isC_ok hr1 hm t1.u hi
    refine ⟨a, dx, vs, rfl, z1, r1, e, h1, er1, hr1, ?_⟩
    cases hf : evsV fs e h1 with
    | stuck => rw [hf] at ok1; exact ok1
    | exc x h2 => rw [hf] at ok1; exact ok1
    | ok ds h2 =>
      rw [hf, Out.bind_ok] at ok1
      intro ws r2 H2 s2 hr2 t2
      refine ⟨r2, h2, o :: ds, hr2, .cons (z2.mono s2.mn) t2, by rw [List.length_cons, evsV_len hf]; exact hn, ?_⟩
      have ok2 := OkE.after s2 ok1
      cases hd : d (o :: ds) h2 with
      | stuck => rw [hd] at ok2; exact ok2
      | exc y h4 => rw [hd] at ok2; exact fun cc dd r' H' s' hr' t => ⟨σ, ok2 cc dd r' H' s' hr' t⟩
      | ok y h4 => rw [hd] at ok2; exact fun v r' H' s' hr' t => ok2 v r' H' s' hr' (.val t)
  · exact ok1.elim
end
end BW

set_option Elab.async false
set_option linter.all false
set_option maxRecDepth 100000
set_option maxHeartbeats 4000000
namespace BW
open PySem PySem.Spec PyProof.Rows L2
variable [Tb]

/-! ### defs that are called where no repr is under way -/
structure FnG (P : Program) (w : World) (K : PySem.W.Frag) (mg : Str → Option Value) (base : Heap) (k : Nat) (f : Addr) (fd : FuncData) (ps : List Str) (sp : Sp) : Prop where
  len : ∀ vs H Q E, sp vs H Q E → vs.length = ps.length
  go : ∀ (A : Around) (fr : List PySem.Env) (s : Shared) (H : Hp) (ar : Args) (us : List Value) (vs : List V) (Q : VK) (E : XK), Room k A → A.guards = some [] → Env0 P w K mg base A fr s H → BindsTo s fd ar (ps.zip us) → Vals vs us → sp vs H Q E →
    codeAny (model P w) A (.call (.ref f) ar) (CR (L2.CX P w) fr P w H s Q E) s
theorem FnG.of {P : Program} {w : World} {K : PySem.W.Frag} {mg : Str → Option Value} {base : Heap} {k : Nat} {f : Addr} {fd : FuncData} {ps : List Str} {sp : Sp} (F : FnOk P w K mg base (L2.CX P w) k f fd ps sp) : FnG P w K mg base k f fd ps sp :=
  ⟨F.len, fun A fr s H ar us vs Q E hr _ e0 hb r z => F.run A fr s H ar us vs Q E hr e0 hb r z⟩
theorem deeper_guards {A : Around} {e : PySem.Env} (h : A.guards = some []) : (A.deeper e).guards = some [] := by
  first
    | exact h
    | (simp [Around.deeper, Around.under, Code.guards, Code.isGuard, pushGuards, h])
theorem fnG_of {P : Program} {w : World} {K : PySem.W.Frag} {mg : Str → Option Value} {base : Heap} {x qual : Str} {st : Stmt} {f : Addr} {fd : FuncData} {N ps : List Str} {k : Nat} {sp : Sp} (F : Fun K x qual st f fd) (S : FnScope N ps (defScope st))
    (len : ∀ vs H Q E, sp vs H Q E → vs.length = ps.length)
    (hb : ∀ (cdv : Value), fd.code = cdv → ∀ (A : Around) (fr : List PySem.Env) (s : Shared) (H : Hp) (vs : List V) (Q : VK) (E : XK), Room k (A.deeper (envOfC qual (defScope st) s.heap.objs.size f cdv)) → A.guards = some [] → sp vs H Q E →
      ∃ t, PSs (cxOf (L2.CX P w) P w K mg base N qual (defScope st) f cdv A fr s H E) (defBody st) t ∧ t { nx := fun _ H' => Q .non H', rt := Q } (L2.start N vs) H) : FnG P w K mg base (k + 1) f fd ps sp := by
  obtain ⟨oc, od, kV, doc, pm, an, cdv, ct, osl, rfl, lk, hcd⟩ := F.ex
  refine ⟨len, fun A fr s H ar us vs Q E hr hg e0 bd r z => ?_⟩
  have keep : ∀ b o, base.get? b = some o → s.heap.get? b = some o := fun b o e => (e0.bs b o e).1
  have KX : K.In s.heap := e0.mod.kin.keeps keep
  refine codeAny_call_function hr.depth (KX _ _ lk) rfl S.co S.gen rfl (PySem.W.codeRec_of KX hcd) (bd _ _ _ _ ?_)
  refine wpAny_newFunctionEnv_cells S.kind (fun y hy => ?_) fun ev he s1 z1 => ?_
  · rcases S.par y.1 (List.of_mem_zip (show (y.1, y.2) ∈ ps.zip us from hy)).1 with q | q
    · exact .inl q
    · exact .inr ⟨q, PySem.W.cellsFrom_some _ _ _ (.inl q)⟩
  subst he
  refine ⟨(e0.mod.nolimit.keeps keep).keeps z1.toInCall.keep, codeAny_func ?_⟩
  obtain ⟨t, ht, hq⟩ := hb cdv rfl A fr s H vs Q E (hr.deeper _) hg z
  have J0 := inv_start (CX := L2.CX P w) (E := E) S hr.hd e0 (len _ _ _ _ z) r z1
  refine wpAny_mono (ht.run [] s1 (L2.start N vs) H _ J0 hq) (fun fl s' hs => ?_) fun _ _ y => y
  cases fl with
  | brk => obtain ⟨_, _, _, q⟩ := hs; exact q.elim
  | cont => obtain ⟨_, _, _, q⟩ := hs; exact q.elim
  | ret u =>
    obtain ⟨v, σ', H', J, rv, q⟩ := hs
    exact ⟨v, H', J.os, J.bare, J.base, J.hok, rv, q⟩
  | next =>
    obtain ⟨σ', H', J, q⟩ := hs
    exact ⟨.non, H', J.os, J.bare, J.base, J.hok, rfl, q⟩
/-- a def of the module that is worth d, where no repr is under way -/
def FnN (P : Program) (w : World) (K : PySem.W.Frag) (mg : Str → Option Value) (base : Heap) (x : Str) (k n : Nat) (d : Fd) : Prop :=
  ∃ f fd ps, FnG P w K mg base k f fd ps (spF K mg n d) ∧ Binds K fd ps [] ∧ mg x = some (.ref f) ∧ PySem.W.keepIn K (.ref f) = true
section
variable {P : Program} {w : World} {K : PySem.W.Frag} {mg : Str → Option Value} {base : Heap}
theorem Fn.n {x : Str} {k n : Nat} {d : Fd} (F : Fn P w K mg base x k n d) : FnN P w K mg base x k n d := by
  obtain ⟨f, fd, ps, h1, h2⟩ := F
  exact ⟨f, fd, ps, .of h1, h2⟩
theorem fng_ok {x qual : Str} {st : Stmt} {f : Addr} {fd : FuncData} {N ps : List Str} {k : Nat} {body : Sv} (F : Fun K x qual st f fd) (S : FnScope N ps (defScope st))
    (hb : ∀ (cdv : Value) (A : Around) (outer : List PySem.Env) (s : Shared) (H : Hp) (E : XK), Room k (A.deeper (envOfC qual (defScope st) s.heap.objs.size f cdv)) → (A.deeper (envOfC qual (defScope st) s.heap.objs.size f cdv)).guards = some [] →
      DenB (cxOf (L2.CX P w) P w K mg base N qual (defScope st) f cdv A outer s H E) (fun c dx _ H => E c dx H) (defBody st) body) : FnG P w K mg base (k + 1) f fd ps (spF K mg ps.length (fnD N.length body)) :=
  fnG_of F S (fun vs H Q E ⟨r, h, ds, hr, q, e, _⟩ => by rw [q.length, e]) fun cdv _ A outer s H vs Q E hr hg ⟨r, h, ds, hrel, q, e, ok⟩ =>
    ⟨_, hb cdv A outer s H E hr (deeper_guards hg), r, startE N.length ds, h, start_rel q, hrel, fn_end hrel (fun _ _ _ _ z => z) ok⟩
theorem fng_okC {x qual : Str} {st : Stmt} {f : Addr} {fd : FuncData} {N ps : List Str} {k : Nat} {body : Sv} (F : Fun K x qual st f fd) (S : FnScope N ps (defScope st))
    (hb : ∀ (cdv : Value), fd.code = cdv → ∀ (A : Around) (outer : List PySem.Env) (s : Shared) (H : Hp) (E : XK), Room k (A.deeper (envOfC qual (defScope st) s.heap.objs.size f cdv)) → (A.deeper (envOfC qual (defScope st) s.heap.objs.size f cdv)).guards = some [] →
      DenB (cxOf (L2.CX P w) P w K mg base N qual (defScope st) f cdv A outer s H E) (fun c dx _ H => E c dx H) (defBody st) body) : FnG P w K mg base (k + 1) f fd ps (spF K mg ps.length (fnD N.length body)) :=
  fnG_of F S (fun vs H Q E ⟨r, h, ds, hr, q, e, _⟩ => by rw [q.length, e]) fun cdv hcd A outer s H vs Q E hr hg ⟨r, h, ds, hrel, q, e, ok⟩ =>
    ⟨_, hb cdv hcd A outer s H E hr (deeper_guards hg), r, startE N.length ds, h, start_rel q, hrel, fn_end hrel (fun _ _ _ _ z => z) ok⟩
theorem fng_mk {x qual : Str} {st : Stmt} {f : Addr} {fd : FuncData} {N ps : List Str} (k : Nat) {body : Sv} (F : Fun K x qual st f fd) (m : mg x = some (.ref f)) (S : FnScope N ps (defScope st)) (b : Binds K fd ps [])
    (hb : ∀ (cdv : Value) (A : Around) (outer : List PySem.Env) (s : Shared) (H : Hp) (E : XK), Room k (A.deeper (envOfC qual (defScope st) s.heap.objs.size f cdv)) → (A.deeper (envOfC qual (defScope st) s.heap.objs.size f cdv)).guards = some [] →
      DenB (cxOf (L2.CX P w) P w K mg base N qual (defScope st) f cdv A outer s H E) (fun c dx _ H => E c dx H) (defBody st) body) : FnN P w K mg base x (k + 1) ps.length (fnD N.length body) :=
  ⟨f, fd, ps, fng_ok F S hb, b, m, F.kp⟩
theorem fng_mkC {x qual : Str} {st : Stmt} {f : Addr} {fd : FuncData} {N ps : List Str} (k : Nat) {body : Sv} (F : Fun K x qual st f fd) (m : mg x = some (.ref f)) (S : FnScope N ps (defScope st)) (b : Binds K fd ps [])
    (hb : ∀ (cdv : Value), fd.code = cdv → ∀ (A : Around) (outer : List PySem.Env) (s : Shared) (H : Hp) (E : XK), Room k (A.deeper (envOfC qual (defScope st) s.heap.objs.size f cdv)) → (A.deeper (envOfC qual (defScope st) s.heap.objs.size f cdv)).guards = some [] →
      DenB (cxOf (L2.CX P w) P w K mg base N qual (defScope st) f cdv A outer s H E) (fun c dx _ H => E c dx H) (defBody st) body) : FnN P w K mg base x (k + 1) ps.length (fnD N.length body) :=
  ⟨f, fd, ps, fng_okC F S hb, b, m, F.kp⟩
end
section
variable {X : Cx} {W : Wx}
theorem run_G {k : Nat} {f : Addr} {fd : FuncData} {ps : List Str} {sp : Sp} {E : L2.St → XK} {pins : List (Addr × Obj)} {σ : L2.St} {H : Hp} {s : Shared} {Q : VK} {us : List Value} {vs : List V} (F : FnG X.prog X.w X.K X.mg X.base k f fd ps sp) (hr : Room k X.A) (hg : X.A.guards = some []) (hb : Binds X.K fd ps []) (hx : PassesAt (L2.CX X.prog X.w) X σ (E σ))
    (I : Inv X pins σ H s) (r : Vals vs us) (z : sp vs H Q (E σ)) : wpAny (model X.prog X.w) X.A (call (.ref f) us) (EP X pins σ Q) X.xe s := by
  have hl : (us ++ []).length = ps.length := by rw [List.append_nil, ← r.length]; exact F.len _ _ _ _ z
  have b2 := hb s us I.kIn hl
  rw [List.append_nil] at b2
  refine wpAny_call (codeAny_mono (F.go X.A X.stack s H ⟨us, []⟩ us vs Q (E σ) hr hg I.env0 b2 r z) fun rr s' q => ?_)
  rcases rr with e | (u | _ | _ | _)
  · exact hx pins H s e s' I q
  all_goals first | exact I.after q | exact q.elim
theorem den_callN {j k n : Nat} {d : Fd} {x : Str} {p pos : Pos} {ex : Expr} {es : List Expr} {fs : List Ev} (F : FnN X.prog X.w X.K X.mg X.base x k n d) (hr : Room j X.A) (hG : X.A.guards = some []) (tk : Takes X W) (ha : DenVs X W (ex :: es) (evsV fs)) (hjk : k ≤ j := by decide) (hg : Gl X x := by rfl)
    (hn : fs.length = n := by rfl) (hdb : (x == ("__debug__" : Str)) = false := by decide)
    (he : starEach (ex :: es) X.env = (false, eval ex X.env) :: starEach es X.env := by rfl) (hpl : (backTo pos (starEach es X.env)).any (·.1) = false := by rfl) : DenE X W (.Call (.Name x p) (ex :: es) [] pos) (evCall d fs) := by
  obtain ⟨f, fd, ps, h1, h2, h3, h4⟩ := F
  refine ⟨fun pins s σ H Q I q => ?_⟩
  refine wpAny_Call_Name_kw (ld_glob I hg h3 ?_ hdb)
  refine PySem.W.callWith_K (h₀ := X.base) I.ok.mod.kin h4 (thn (ha.run pos pins s σ H _ I (rd_call hn q)) fun us s1 ⟨vs, H1, I1, r, z⟩ => ⟨I1.kIn, ?_⟩) he hpl
  exact run_G (E := WE W) h1 (hr.mono hjk) hG h2 (passAt tk σ) I1 r z

/-! ### repr -/
def bRepr (h : AH) : List D → Option D
  | [d] => (dataK h 9 d).bind fun p => if p.showable && decide (p.shown.length ≤ sizeLine) then some (.str p.shown) else none
  | _ => none
theorem reads_ref {h₀ : Heap} {u : Value} {d : PyData} {as : List Addr} (r : Reads h₀ u d as) : (∃ a, u = .ref a) ∨ (∃ b, d = .bool b ∧ u = .bool b) ∨ (∃ i t, d = .int i ∧ u = .int i t) ∨ (∃ x t, d = .str x ∧ u = .str x t) ∨ (d = .none ∧ u = .none) := by
  cases r <;> simp
theorem cd_repr (hu : X.A.units + 64 < cLine) (hG : X.A.guards = some []) : CallD X (.builtin "repr") bRepr := fun pins s σ H xs us Q I rv q => by
  obtain ⟨r, h, ds, d, hr, ts, hg, q⟩ := q
  unfold bRepr at hg
  split at hg
  · rename_i d0
    simp only [Option.bind_eq_some_iff] at hg
    obtain ⟨p, hp, hg⟩ := hg
    split at hg
    · rename_i hz
      cases hg
      obtain ⟨z1, z2⟩ := Bool.and_eq_true_iff.mp hz
      have z2 := of_decide_eq_true z2
      obtain ⟨v, rfl, t⟩ := ts.one
      cases rv with
      | cons ru rr =>
        cases rr
        have hdp := dp_ofU hr hp t
        obtain ⟨as, rd⟩ := Dp.reads I p v _ hdp ru
        obtain ⟨c1, c2⟩ := dataK_shape h 9 d0 p hp
        rcases reads_ref rd with ⟨a, rfl⟩ | ⟨b, rfl, rfl⟩ | ⟨i, t, rfl, rfl⟩ | ⟨x, t, rfl, rfl⟩ | ⟨rfl, rfl⟩
        · exact repr_of_reads' rd z1 (PyData.noDict_hsm (PyData.hasDict_of_canLay p c1)) hG (by omega) (fun b o e => e) (fun h' u tk hk => ⟨.str p.shown, H, I.kept (t' := tk) hk, ⟨u, rfl⟩, q _ H (Step.refl r H) hr (.val (.str _))⟩) z2
        · exact PySem.P.repr_of_bool ⟨.str _, H, I.tok _, ⟨_, rfl⟩, q _ H (Step.refl r H) hr (.val (.str _))⟩
        · refine PySem.P.repr_of_int (by simpa [PyData.showable] using z1) ⟨.str _, H, I.tok _, ⟨_, rfl⟩, q _ H (Step.refl r H) hr (.val (.str _))⟩
        · refine PySem.P.repr_of_str (hsz := z2) ⟨.str _, H, I.tok _, ⟨_, rfl⟩, q _ H (Step.refl r H) hr (.val (.str _))⟩
        · exact PySem.P.repr_of_none ⟨.str _, H, I.tok _, ⟨_, rfl⟩, q _ H (Step.refl r H) hr (.val (.str _))⟩
    · cases hg
  · cases hg
end
end BW

set_option Elab.async false
set_option linter.all false
set_option maxRecDepth 100000
set_option maxHeartbeats 4000000
namespace BW
open PySem PySem.Spec PyProof.Rows L2
variable [Tb]

/-! ### len(o), o of an own class -/
def evLenO (c : Str) (d : Fd) (f : Ev) : Ev := fun e h => (f e h).bind fun o h1 => if isC h1 c o then (d [o] h1).bind fun v h2 => match v with
  | .int n => if 0 ≤ n ∧ n < 2 ^ 63 then .ok (.int n) h2 else .stuck
  | _ => .stuck
  else .stuck
section
variable {X : Cx} {W : Wx}
theorem den_lenO {c f : Str} {k j : Nat} {d : Fd} {ex : Expr} {p pos : Pos} {fe : Ev} (S : SC X.K X.mg c f) (M : Mt X.prog X.w X.K X.mg X.base c "__len__" k 1 d) (hr : Room j X.A) (tk : Takes X W) (hc : Wc W) (hgl : Gl X "len") (hml : X.mg "len" = none) (he : DenE X W ex fe) (hjk : k + 1 ≤ j := by decide)
    (hs : starEach [ex] X.env = (false, eval ex X.env) :: starEach [] X.env := by rfl) (hpl : (backTo pos (starEach [] X.env)).any (·.1) = false := by rfl) : DenE X W (.Call (.Name "len" p) [ex] [] pos) (evLenO c d fe) := by
  obtain ⟨C, pp, hm, sc, sl⟩ := S.ex
  obtain ⟨C', g, hm', me, F⟩ := M
  rw [hm] at hm'
  cases hm'
  have cr : CallR X (.builtin "len") (fun xs H Q => ∃ a dx vs, xs = [V.ref a] ∧ SlX.Slt H a C dx vs ∧ spF X.K X.mg 1 d [.ref a] H (fun z H' => ∃ n, z = .int n ∧ (0 ≤ n ∧ n < 2 ^ 63) ∧ Q z H') (fun cc dd H => ∃ σ, W cc dd σ H)) := by
    intro pins s σ H xs us Q I r z
    obtain ⟨a, dx, vs, rfl, hsl, q⟩ := z
    obtain ⟨u, rfl, ru⟩ := r.one
    cases (show u = Value.ref a from ru)
    obtain ⟨sl', od, _, J, _⟩ := SlX.slt_inst I hsl
    obtain ⟨m, hF⟩ := I.fr
    have hr1 : Room k X.A.in1 := Room.in1 (hr.mono hjk)
    refine PySem.W.len_K hF I.ok.mod.kin J me.at_ me.fn (wpAny_mono (wpAny_call (SlX.run_at (us := [.ref a]) (ws := [.ref a]) F hr1 I.env0.in1 (passesW tk hc) I (.cons rfl .nil) q)) (fun v s' z => ?_) fun _ _ y => y)
    obtain ⟨zv, H', I', rz, n, en, hn, qz⟩ := z
    subst en
    obtain ⟨t, e⟩ := (show ∃ t, v = Value.int n t from rz)
    subst e
    exact ⟨hn, .int n, H', I'.tok _, ⟨_, rfl⟩, qz⟩
  refine PE.imp (pe_callB cr hgl hml (by decide +kernel) (PAone he hs) (by decide) (by decide) hs hpl) fun σ H Q ⟨r, e, h, er, hrel, ok⟩ => ?_
  unfold evLenO at ok
  refine rdE_bind er hrel ok fun o h1 v r1 H1 s1 hr1 t1 er1 ok1 => ?_
  split at ok1
  · rename_i hi
    obtain ⟨a, dx, vs, rfl, z1, z2⟩ := isC_ok hr1 hm t1.u hi
    refine ⟨a, dx, vs, rfl, z1, r1, h1, [o], hr1, .cons z2 .nil, rfl, ?_⟩
    cases hd : d [o] h1 with
    | stuck => rw [hd] at ok1; exact ok1
    | exc y h4 => rw [hd] at ok1; exact fun cc dd r' H' s' hr' t => ⟨σ, ok1 cc dd r' H' s' hr' t⟩
    | ok y h4 =>
      rw [hd, Out.bind_ok] at ok1
      intro v r' H' s' hr' t
      cases y with
      | int n =>
        dsimp only at ok1
        split at ok1
        · rename_i hn
          cases t
          exact ⟨n, rfl, hn, ok1 _ r' H' s' hr' (.val (.int _))⟩
        · exact ok1.elim
      | _ => exact ok1.elim
  · exact ok1.elim
/-! ### x in NAME, NAME a tuple of the module's -/
/-- NAME holds the tuple of these flat values -/
def TupG (K : PySem.W.Frag) (mg : Str → Option Value) (x : Str) (vs : List V) : Prop := ∃ a, mg x = some (.ref a) ∧ ∀ H, SqT K H a vs
def evInG (neg : Bool) (vs : List V) (f : Ev) : Ev := fun e h => (f e h).bind fun d h1 => match flatD d with
  | some v => .ok (.bl (if neg then !inV v vs else inV v vs)) h1
  | none => .stuck
theorem den_inG {x : Str} {vs : List V} {a : Expr} {p pos : Pos} {f : Ev} (T : TupG X.K X.mg x vs) (hf : vs.all flatV = true) (hg : Gl X x) (ha : DenE X W a f) (hdb : (x == ("__debug__" : Str)) = false := by decide) (hm : behindInMarks .In (.Name x p) = false := by rfl) : DenE X W (.Compare a [.In] [.Name x p] pos) (evInG false vs f) := by
  obtain ⟨b, hb, hs⟩ := T
  refine PE.imp (pe_cmpR op_in_seq ha (pe_glob (v := .ref b) hg hb rfl hdb) hm) fun σ H Q ⟨r, e, h, er, hr, ok⟩ => ?_
  unfold evInG at ok
  refine rdE_bind er hr ok fun d h1 v r1 H1 s1 hr1 t1 er1 ok1 => ?_
  cases hd : flatD d with
  | none => rw [hd] at ok1; exact ok1.elim
  | some w =>
    rw [hd] at ok1
    obtain ⟨rfl, fw⟩ := flat_rel hd t1.u
    exact ⟨b, vs, rfl, .inr (hs H1), fw, hf, ok1 _ r1 H1 (Step.refl _ _) hr1 (.val (.bl _))⟩
end

end BW

set_option Elab.async false
set_option linter.all false
set_option maxRecDepth 100000
set_option maxHeartbeats 4000000
namespace BW
open PySem PySem.Spec PyProof.Rows L2
variable [Tb]
/-! ### constants of the module -/
def GI (mg : Str → Option Value) (x : Str) (i : Int) : Prop := ∃ t, mg x = some (.int i t)
def GS (mg : Str → Option Value) (x : Str) (z : Str) : Prop := ∃ t, mg x = some (.str z t)
section
variable {X : Cx} {W : Wx}
theorem den_gi {x : Str} {i : Int} {pos : Pos} (h : GI X.mg x i) (hg : Gl X x := by rfl) (hdb : (x == ("__debug__" : Str)) = false := by decide) : DenE X W (.Name x pos) (evC (.int i)) := by
  obtain ⟨t, h⟩ := h
  exact den_glob (v := .int i) hg h ⟨t, rfl⟩ (fun r H => .int i) hdb
theorem den_gs {x z : Str} {pos : Pos} (h : GS X.mg x z) (hg : Gl X x := by rfl) (hdb : (x == ("__debug__" : Str)) = false := by decide) : DenE X W (.Name x pos) (evC (.str z)) := by
  obtain ⟨t, h⟩ := h
  exact den_glob (v := .str z) hg h ⟨t, rfl⟩ (fun r H => .str z) hdb
end
section
variable {P : Program} {w : World} {K : PySem.W.Frag} {mg : Str → Option Value} {base : Heap}
/-- a method -/
theorem mt_mk {x qual c : Str} {st : Stmt} {f C : Addr} {fd : FuncData} {N ps : List Str} (k : Nat) {body : Sv} (F : Fun K x qual st f fd) (hC : mg c = some (.ref C)) (me : Meth K C x f) (S : FnScope N ps (defScope st)) (b : Binds K fd ps [])
    (hb : ∀ (cdv : Value) (A : Around) (outer : List PySem.Env) (s : Shared) (H : Hp) (E : XK), Room k (A.deeper (envOfC qual (defScope st) s.heap.objs.size f cdv)) →
      DenB (cxOf (L2.CX P w) P w K mg base N qual (defScope st) f cdv A outer s H E) (fun c dx _ H => E c dx H) (defBody st) body) : Mt P w K mg base c x (k + 1) ps.length (fnD N.length body) :=
  ⟨C, f, hC, me, ((fn_ok F S hb).raw b .nil).imp fun vs H Q E z => by rw [List.append_nil]; exact z⟩
/-- an __init__ -/
theorem mkr_mk {x qual c : Str} {st : Stmt} {f C : Addr} {fd : FuncData} {N ps : List Str} (k : Nat) {body : Sv} (F : Fun K x qual st f fd) (hC : mg c = some (.ref C)) (mk : Mk K C f) (S : FnScope N ps (defScope st)) (b : Binds K fd ps [])
    (hb : ∀ (cdv : Value) (A : Around) (outer : List PySem.Env) (s : Shared) (H : Hp) (E : XK), Room k (A.deeper (envOfC qual (defScope st) s.heap.objs.size f cdv)) →
      DenB (cxOf (L2.CX P w) P w K mg base N qual (defScope st) f cdv A outer s H E) (fun c dx _ H => E c dx H) (defBody st) body) : Mkr P w K mg base c (k + 1) ps.length (fnD N.length body) :=
  ⟨C, f, fd, ps, hC, mk, fn_ok F S hb, b⟩
end
end BW

set_option Elab.async false
set_option linter.all false
set_option maxRecDepth 100000
set_option maxHeartbeats 4000000
namespace BW
open PySem PySem.Spec PyProof.Rows L2
variable [Tb]
section
variable {X : Cx} {W : Wx}
/-! ### list(range(..)), tuple(range(..)) -/
def rgOk (a b : Int) : Bool := in62 a && in62 b && decide ((b - a).toNat ≤ 2 ^ 24)
def evRg (tt : Bool) : List Ev → Ev
  | [f], e, h => (f e h).bind fun d h1 => match d with
    | .int n => if rgOk 0 n then .ok (if tt then .tup (rangeD 0 n.toNat) else .tl (rangeD 0 n.toNat)) h1 else .stuck
    | _ => .stuck
  | _, _, _ => .stuck
theorem rels_rg {K : PySem.W.Frag} {mg : Str → Option Value} {r : List Addr} {H : Hp} (a b : Int) : Rels K mg r H (rgV a b) (rangeD a (b - a).toNat) := by
  unfold rgV rangeD
  generalize (List.range (b - a).toNat) = l
  induction l with
  | nil => exact .nil
  | cons x l ih => exact .cons (.int _) ih
theorem den_listRg {a : Expr} {p p2 pos pos2 : Pos} {f : Ev} (hg : Gl X "list") (hm : X.mg "list" = none) (hg2 : Gl X "range") (hm2 : X.mg "range" = none) (ha : DenE X W a f) (hc : X.calm = true := by rfl)
    (na : starEach [a] X.env = (false, eval a X.env) :: starEach [] X.env := by rfl)
    (nb : starEach [.Call (.Name "range" p2) [a] [] pos2] X.env = (false, eval (.Call (.Name "range" p2) [a] [] pos2) X.env) :: starEach [] X.env := by rfl) :
    DenE X W (.Call (.Name "list" p) [.Call (.Name "range" p2) [a] [] pos2] [] pos) (evRg false [f]) :=
  PE.imp (pe_listRg hc hg hm (prg_1 hg2 hm2 ha na) nb) fun σ H Q ⟨r, e, h, er, hr, ok⟩ => by
    simp only [evRg] at ok
    refine rdE_bind er hr ok fun d h1 v r1 H1 s1 hr1 t1 er1 ok1 => ?_
    split at ok1
    · split at ok1
      · rename_i n hz
        simp only [rgOk, Bool.and_eq_true, decide_eq_true_eq] at hz
        refine ⟨n, t1.u.int_inv, ⟨(in62_ok hz.1.1).1, (in62_ok hz.1.1).2, (in62_ok hz.1.2).1, (in62_ok hz.1.2).2, hz.2⟩, fun q hq => ?_⟩
        have z := rels_rg (K := X.K) (mg := X.mg) (r := r1) (H := H1) 0 n
        rw [Int.sub_zero] at z
        exact newL hr1 hq z fun v H' s q t => ok1 v r1 H' s q t
      · exact ok1.elim
    · exact ok1.elim
theorem den_tupRg {a : Expr} {p p2 pos pos2 : Pos} {f : Ev} (hg : Gl X "tuple") (hm : X.mg "tuple" = none) (hg2 : Gl X "range") (hm2 : X.mg "range" = none) (ha : DenE X W a f) (hc : X.calm = true := by rfl)
    (na : starEach [a] X.env = (false, eval a X.env) :: starEach [] X.env := by rfl)
    (nb : starEach [.Call (.Name "range" p2) [a] [] pos2] X.env = (false, eval (.Call (.Name "range" p2) [a] [] pos2) X.env) :: starEach [] X.env := by rfl) :
    DenE X W (.Call (.Name "tuple" p) [.Call (.Name "range" p2) [a] [] pos2] [] pos) (evRg true [f]) :=
  PE.imp (pe_tupRg hc hg hm (prg_1 hg2 hm2 ha na) nb) fun σ H Q ⟨r, e, h, er, hr, ok⟩ => by
    simp only [evRg] at ok
    refine rdE_bind er hr ok fun d h1 v r1 H1 s1 hr1 t1 er1 ok1 => ?_
    split at ok1
    · split at ok1
      · rename_i n hz
        simp only [rgOk, Bool.and_eq_true, decide_eq_true_eq] at hz
        refine ⟨n, t1.u.int_inv, ⟨(in62_ok hz.1.1).1, (in62_ok hz.1.1).2, (in62_ok hz.1.2).1, (in62_ok hz.1.2).2, hz.2⟩, fun q hq => ?_⟩
        have z := rels_rg (K := X.K) (mg := X.mg) (r := r1) (H := H1) 0 n
        rw [Int.sub_zero] at z
        exact newT hr1 hq z fun v H' s q t => ok1 v r1 H' s q t
      · exact ok1.elim
    · exact ok1.elim
end
end BW

set_option Elab.async false
set_option linter.all false
set_option maxRecDepth 100000
set_option maxHeartbeats 4000000
namespace BW
open PySem PySem.Spec PyProof.Rows L2
/-! ### the law's own call -/
theorem law_run {P : Program} {w : World} {K : PySem.W.Frag} {mg mb : Str → Option Value} {k : Nat} {fa a : Addr} {fd : FuncData} {x : Str} {d : Fd} {s1 : Shared} {vs : List Value} {ns : List Int} {cs : List (Addr × Addr × Str)}
    (KX : K.In s1.heap) (gl : s1.heap.Ns mainGlobals mg) (bl : s1.heap.Ns builtinsNs mb) (bb : ∀ x : Str, x ≠ "__name__" → mb x = bootBuiltins x) (lim : s1.heap.NoLimit) (hg : s1.gens = #[])
    (hT : ∀ p ∈ cs, s1.heap.get? p.2.1 = some { cls := .none, data := .fields #[] }) (nT : ∀ p ∈ cs, K.lookup p.2.1 = none) (C : ∀ p ∈ cs, PySem.W.CodeHd s1.heap p.1 p.2.1)
    (hbm : ∃ (bm : Addr) (ob : Obj), mg "__builtins__" = some (.ref bm) ∧ bm ≠ builtinsNs ∧ s1.heap.get? bm = some ob ∧ ob.cls = .type "module" ∧ ob.dict = some builtinsNs ∧ ob.data = .plain)
    (ha : s1.heap.get? a = some { cls := .type "list", data := .seq vs.toArray }) (hi : IntsAre vs ns) (hl : ns.length ≤ sizeLine) (hr : Room k callerA)
    (F : ∀ base : Heap, K.In base → base.Ns mainGlobals mg → (∀ p ∈ cs, LamX.TabB base mg p.1 p.2.1) → FnG P w K mg base k fa fd [x] (@spF ⟨cs.map (·.2)⟩ K mg 1 d)) (bd : ∀ (s : Shared) (u : Value), BindsTo s fd ⟨[u], []⟩ [(x, u)]) (hd : ∃ h, d [.rl (ns.map .int)] [] = .ok (.bl true) h) :
    codeAny (model P w) callerA (.call (.ref fa) ⟨[.ref a], []⟩) (fun r s' => r = .ok (.ret (.bool true)) ∧ OldK s1.heap s'.heap ∧ s'.os = s1.os ∧ AllBare s'.gens) s1 := by
  letI : Tb := ⟨cs.map (·.2)⟩
  have rv := vals_ints hi
  have lenV := hi.length
  obtain ⟨hz, hd⟩ := hd
  have rels : ∀ (H : Hp) (ms : List Int), Rels K mg [] H (ms.map V.int) (ms.map D.int) := fun H ms => by
    induction ms with
    | nil => exact .nil
    | cons m ms ih => exact .cons (.int m) ih
  have isT : ∀ b : Addr, b ∈ cs.map (·.2.1) → s1.heap.get? b = some { cls := .none, data := .fields #[] } := fun b hb => by
    obtain ⟨p, hp, e⟩ := List.mem_map.mp hb
    rw [← e]
    exact hT p hp
  have aT : a ∉ cs.map (·.2.1) := fun z => by
    have q := isT a z
    rw [ha] at q
    have z' : Data.seq vs.toArray _ = Data.fields #[] := congrArg Obj.data (Option.some.inj q)
    cases z'
  have memT : ∀ p ∈ cs, p.2.1 ∈ cs.map (·.2.1) := fun p hp => List.mem_map.mpr ⟨p, hp, rfl⟩
  have core : ∀ H : Hp, (∀ p ∈ cs, H p.2.1 = some (.tbl #[])) → (∀ b, H b = none ∨ b ∈ cs.map (·.2.1) ∨ ∃ o xs, H b = some (.frz o (.lst xs))) → SqLr K H [] a (ns.map V.int) → HOk P w H s1.heap → (∀ b, H b ≠ none → b = a ∨ b ∈ cs.map (·.2.1)) → (H a ≠ none → K.lookup a = none) →
      codeAny (model P w) callerA (.call (.ref fa) ⟨[.ref a], []⟩) (fun r s' => r = .ok (.ret (.bool true)) ∧ OldK s1.heap s'.heap ∧ s'.os = s1.os ∧ AllBare s'.gens) s1 := by
    intro H hH hO hS hok hA hK
    have base_of : ∀ {b : Addr} {o : Obj}, s1.heap.get? b = some o → H b = none → (hidT s1.heap H).get? b = some o := fun e n => hidT_get e n
    have noD : ∀ {b : Addr} {o : Obj}, s1.heap.get? b = some o → (∀ vs n, o.data ≠ .seq vs n) → o.data ≠ .fields #[] → H b = none := fun {b o} e h1 h2 => by
      cases q : H b with
      | none => rfl
      | some u =>
        rcases hA b (by rw [q]; simp) with e' | e'
        · rw [e', ha] at e
          cases e
          exact (h1 _ _ rfl).elim
        · rw [isT b e'] at e
          cases e
          exact (h2 rfl).elim
    have noA : ∀ {b : Addr} {o : Obj} {es : Array DictEntry} {ep : Nat}, s1.heap.get? b = some o → o.data = .dict es ep → H b = none := fun {b o es ep} e d => by
      refine noD e (fun vs n z => ?_) fun z => ?_
      · rw [d] at z
        cases z
      · rw [d] at z
        cases z
    have nsK : ∀ {b : Addr} {m : Str → Option Value}, s1.heap.Ns b m → (hidT s1.heap H).Ns b m := fun {b m} ⟨o, es, ep, e, d, r⟩ => ⟨o, es, ep, base_of e (noA e d), d, r⟩
    have kb : K.In (hidT s1.heap H) := fun b o e => base_of (KX b o e) (by
      cases q : H b with
      | none => rfl
      | some u =>
        rcases hA b (by rw [q]; simp) with e' | e'
        · rw [e'] at e q
          rw [hK (by rw [q]; simp)] at e
          cases e
        · obtain ⟨p, hp, ep⟩ := List.mem_map.mp e'
          rw [← ep, nT p hp] at e
          cases e)
    have md : Mod K mg (hidT s1.heap H) := ⟨kb, nsK gl, ⟨mb, nsK bl, bb⟩, let ⟨mc, y1, y2⟩ := lim; ⟨mc, nsK y1, y2⟩⟩
    have TB : ∀ p ∈ cs, LamX.TabB (hidT s1.heap H) mg p.1 p.2.1 := fun p hp => by
      have hTp := hT p hp
      refine ⟨?_, ?_, fun z => ?_⟩
      · obtain ⟨o, us, file, tf, flags, tg, inF, text, tt, e1, r1, r2, r3, r4, r5, r6, r7, r8, hne⟩ := C p hp
        refine ⟨o, us, file, tf, flags, tg, inF, text, tt, base_of e1 (noD e1 (fun vs n z => ?_) fun z => ?_), r1, r2, r3, r4, r5, r6, r7, r8, hne⟩
        · rw [r2] at z
          cases z
        · rw [r2] at z
          cases z
          simp at r3
      · obtain ⟨bm, ob, b1, b2, b3, b4, b5, b6⟩ := hbm
        have nG : bm ≠ mainGlobals := fun q => by
          obtain ⟨o, es, ep, e, hd, _⟩ := gl
          rw [q, e] at b3
          cases b3
          rw [hd] at b6
          cases b6
        have nP : bm ≠ p.2.1 := fun q => by
          rw [q, hTp] at b3
          cases b3
          cases b6
        refine ⟨bm, ob, b1, b2, nG, nP, base_of b3 (noD b3 (fun vs n z => ?_) fun z => ?_), b4, b5, b6⟩
        · rw [b6] at z
          cases z
        · rw [b6] at z
          cases z
      · obtain ⟨o, es, ep, e, hd, _⟩ := gl
        rw [z, hTp] at e
        cases e
        cases hd
    have e0 : Env0 P w K mg (hidT s1.heap H) callerA [] s1 H := ⟨rfl, md, fun b o e => of_hidT e, Nat.le_of_eq (hidT_size _ _), trivial, fun b hb => (nomatch (show b ∈ ([] : List Addr) from hb)), hok, .of_eq hg⟩
    have tbs : TbOk [] H := ⟨fun p hp => by
      obtain ⟨q, hq, rfl⟩ := List.mem_map.mp (show p ∈ cs.map (·.2) from hp)
      exact ⟨#[], hH q hq, (fun z => nomatch z), True.intro, fun pos cv hc => by
        have z : codeAmong pos [] = some cv := hc
        simp [codeAmong] at z⟩⟩
    have sp : spF K mg 1 d [.ref a] H (fun v _ => v = .bl true) (fun _ _ _ => False) := by
      refine ⟨[], [], [.rl (ns.map .int)], ⟨rfl, List.nodup_nil, tbs, fun i o b e => by simp at e⟩, .cons (.rl hS (rels H ns)) .nil, rfl, ?_⟩
      rw [hd]
      intro v r' H' _ _ q
      cases q
      rfl
    refine codeAny_mono ((F _ kb (nsK gl) TB).go callerA [] s1 H ⟨[.ref a], []⟩ [.ref a] [.ref a] _ _ hr rfl e0 (bd s1 (.ref a)) (.cons rfl .nil) sp) fun r s' z => ?_
    cases r with
    | error e =>
      obtain ⟨_, _, _, _, _, _, _, _, _, _, _, _, q⟩ := z
      exact (show False by first | exact q | (simp at q)).elim
    | ok fl =>
      cases fl with
      | next => exact z.elim
      | brk => exact z.elim
      | cont => exact z.elim
      | ret u =>
        obtain ⟨v, H', os, bare, un, hok', r', q⟩ := z
        have q' : v = .bl true := q
        subst q'
        obtain rfl : u = Value.bool true := r'
        have key : ∀ b o, b ∉ cs.map (·.2.1) → s1.heap.get? b = some o → s'.heap.get? b = some o := fun b o nb e => by
          cases q : H b with
          | none => exact un.keep b o e q (by intro z; exact absurd (show b ∈ ([] : List Addr) from z) (by simp)) (by simp)
          | some u =>
            rcases hO b with z | z | ⟨ob, xs, z⟩
            · rw [q] at z; cases z
            · exact absurd z nb
            · have z2 := un.frzs b ob _ z
              obtain ⟨e1, _⟩ := hok b _ z
              obtain ⟨e2, _⟩ := hok' b _ z2
              rw [e] at e1; cases e1
              exact e2
        have grown : ∀ p ∈ cs, ∃ more : Array Value, s'.heap.get? p.2.1 = some { cls := .none, data := .fields more } := fun p hp => by
          obtain ⟨more, z⟩ := un.tbls p.2.1 #[] (hH p hp)
          exact ⟨_, hok' p.2.1 _ z⟩
        refine ⟨rfl, ⟨fun b o e => ?_, fun b o e => ?_⟩, os, bare⟩
        · by_cases hb : b ∈ cs.map (·.2.1)
          · obtain ⟨p, hp, ep⟩ := List.mem_map.mp hb
            obtain ⟨more, hm⟩ := grown p hp
            rw [← ep] at e ⊢
            rw [hT p hp] at e
            cases e
            exact .inr (.inl ⟨((C p hp).tab (hT p hp)).isCodeTable, rfl, #[], more, rfl, by rw [Array.empty_append]; exact hm⟩)
          · exact .inl (key b o hb e)
        · by_cases hb : b ∈ cs.map (·.2.1)
          · obtain ⟨p, hp, ep⟩ := List.mem_map.mp hb
            obtain ⟨more, hm⟩ := grown p hp
            rw [← ep]
            exact ⟨_, hm⟩
          · exact ⟨o, key b o hb e⟩
  cases hk : K.lookup a with
  | some o =>
    have e := KX a o hk
    rw [ha] at e
    cases e
    refine core (fun b => if b ∈ cs.map (·.2.1) then some (.tbl #[]) else none) (fun p hp => if_pos (memT p hp)) (fun b => ?_) (.inr fun H' => .inr ⟨_, vs.toArray, _, hk, rfl, rfl, rfl, by rw [List.size_toArray, lenV]; exact hl, by simpa using rv⟩) (fun b u z => ?_) (fun b z => ?_) fun z => absurd (show (if a ∈ cs.map (·.2.1) then some (HO.tbl #[]) else none) = none from if_neg aT) z
    · by_cases hb : b ∈ cs.map (·.2.1)
      · exact .inr (.inl hb)
      · exact .inl (if_neg hb)
    · by_cases hb : b ∈ cs.map (·.2.1)
      · have z' := (if_pos hb).symm.trans z
        cases z'
        exact isT b hb
      · have z' := (if_neg hb).symm.trans z
        cases z'
    · by_cases hb : b ∈ cs.map (·.2.1)
      · exact .inr hb
      · exact absurd (if_neg hb) z
  | none =>
    refine core (fun b => if b = a then some (.frz { cls := .type "list", data := .seq vs.toArray } (.lst (ns.map V.int))) else if b ∈ cs.map (·.2.1) then some (.tbl #[]) else none) (fun p hp => (if_neg (show ¬ p.2.1 = a from fun z => aT (by rw [← z]; exact memT p hp))).trans (if_pos (memT p hp))) (fun b => ?_)
      (.inl ⟨(fun z => nomatch z), _, if_pos rfl⟩) (fun b u z => ?_) (fun b z => ?_) fun _ => hk
    · by_cases hb : b = a
      · exact .inr (.inr ⟨_, _, if_pos hb⟩)
      · by_cases hb2 : b ∈ cs.map (·.2.1)
        · exact .inr (.inl hb2)
        · exact .inl ((if_neg hb).trans (if_neg hb2))
    · by_cases hb : b = a
      · have z' := (if_pos hb).symm.trans z
        cases z'
        rw [hb]
        exact ⟨ha, by rw [List.length_map]; exact hl, vs, _, rv, ha⟩
      · have z1 := (if_neg hb).symm.trans z
        by_cases hb2 : b ∈ cs.map (·.2.1)
        · have z' := (if_pos hb2).symm.trans z1
          cases z'
          exact isT b hb2
        · have z' := (if_neg hb2).symm.trans z1
          cases z'
    · by_cases hb : b = a
      · exact .inl hb
      · by_cases hb2 : b ∈ cs.map (·.2.1)
        · exact .inr hb2
        · exact absurd ((if_neg hb).trans (if_neg hb2)) z
/-- THE END: a law row, from what the law's def is worth -/
theorem walk_end {l : PySem.W.OpenLaw} {n k : Nat} {q : Program} {loose : List Str} {XP : (Str → Option Value) → Heap → Prop} {YP : World → Heap → Prop} {d : DefRec} {K : Params → PySem.W.Frag} {x : Str} {dL : Fd}
    (hn : l.most = some n) (hn2 : n ≤ sizeLine) (hdf : d.params.defaults = []) (hr : Room k callerA) (hY : ∀ (w : World) (h : Heap), YP w h → (K w.params).In h)
    (F : ∀ (w : World) (mg : Str → Option Value) (fa : Addr) (h : Heap), YP w h → (K w.params).In h → h.Ns mainGlobals mg → mg d.name = some (.ref fa) →
      ∃ (fd : FuncData) (cs : List (Addr × Addr × Str)), (∀ p ∈ cs, (K w.params).lookup p.2.1 = none ∧ ∃ y, ((recsOf q).find? (fun e => e.name == y)).isSome = true ∧ PySem.W.tabIn (K w.params) y = some (p.1, p.2.1)) ∧
        (∀ (s : Shared) (u : Value), BindsTo s fd ⟨[u], []⟩ [(x, u)]) ∧ ∀ base : Heap, (K w.params).In base → base.Ns mainGlobals mg → (∀ p ∈ cs, LamX.TabB base mg p.1 p.2.1) → FnG l.prog w (K w.params) mg base k fa fd [x] (@spF ⟨cs.map (·.2)⟩ (K w.params) mg 1 dL))
    (hd : ∀ ns : List Int, ns.length ≤ n → (∀ z ∈ ns, Builtin.Int.intBits z ≤ 1048576) → ∃ h, dL [.rl (ns.map .int)] [] = .ok (.bl true) h) :
    PySem.W.WalkO q loose XP YP l.row.toRowW d [] (fun f vs => PySem.call f vs) := by
  refine Att.attach_callB hn hdf fun w s0 s1 mg mb fa o pm cd doc a vs ns G Y ho hdd hcd hmg hobj hints hlen hbits hg => ?_
  have KX := hY w _ Y
  obtain ⟨fd, cs, hT, hb, hF⟩ := F w mg fa _ Y KX G.T.g hmg
  have tb : ∀ p ∈ cs, PySem.W.CodeHd s1.heap p.1 p.2.1 ∧ s1.heap.get? p.2.1 = some { cls := .none, data := .fields #[] } := fun p hp => by
    obtain ⟨_, y, h1, h2⟩ := hT p hp
    obtain ⟨dr, h3⟩ := Option.isSome_iff_exists.mp h1
    exact PySem.W.tab_of G.T KX h3 h2
  exact law_run KX G.T.g G.T.b G.T.builtins G.T.nolimit hg (fun p hp => (tb p hp).2) (fun p hp => (hT p hp).1) (fun p hp => (tb p hp).1) G.T.bmain hobj hints (Nat.le_trans hlen hn2) hr hF hb (hd ns hlen hbits)
end BW

set_option Elab.async false
set_option linter.all false
set_option maxRecDepth 100000
set_option maxHeartbeats 4000000
namespace BW
open PySem PySem.Spec PyProof.Rows L2
/-! ### an own exception is made: super().__init__(text), then self.f = p -/
section
open PySem.W PySem.Calls Builtin Builtin.ObjectAttr
variable {prog : Program} {w : World} {A : Around} {E : Value → Shared → Prop} {hp : Heap} {g : Array GenState} {d : Drawn} {t : Nat} {os : OsState} {K : Frag} {C : Addr} {B newId i : String} {bmB : List Value}
/-- the class: over a built-in exception by own classes -/
structure XCls (K : Frag) (C : Addr) (B newId i : String) (bmB : List Value) : Prop where
  fb : ExcBaseFacts B newId i bmB
  kf : KxsFacts B i
  sf : StoreFacts B bmB "object.__setattr__" "object"
  q : excInitIn K C bmB newId = true
  ov : excOver K C bmB = true
  dct : hasDictIn K C = true
  sa : findIn K (.ref C) "__setattr__" = some (some (.builtin "object.__setattr__"))
  sub : subIn K (.ref C) (.type B) = some true
  su : ks_superIn K C C "__init__" = some (some (.builtin i))
  op : nsIn K cStatics "thirdparty.any" = some none
  self_ : mroIn K C (.ref C) = some true
theorem XCls.cd (X : XCls K C B newId i bmB) : ∃ cd bm, clsIn K C = some cd ∧ cd.mro = .ref C :: bm ∧ excTail bmB bm = true ∧ cd.hasDict = true := by
  obtain ⟨cd, hc, ho⟩ := any_some X.ov
  (try dsimp only at ho)
  have hd := X.dct
  unfold hasDictIn at hd
  rw [hc] at hd
  split at ho
  · rename_i C' bm hm
    rw [Bool.and_eq_true, beq_iff_eq] at ho
    obtain ⟨rfl, ho⟩ := ho
    exact ⟨cd, bm, hc, hm, ho, by simpa using hd⟩
  · cases ho
/-- self.f = v, the first store -/
theorem xset_new {name : Str} {v : Value} {x t1 : Addr} {Q : Unit → Shared → Prop} (XC : XCls K C B newId i bmB) (X : K.In hp) (hx : hp.get? x = some (excObj C t1 none .none)) (ha : findIn K (.ref C) name = some none)
    (hq : ∀ h' tk' dx, (∀ b o, b ≠ x → hp.get? b = some o → h'.get? b = some o) → hp.objs.size ≤ dx → dx ≠ x → h'.get? x = some (excObj C t1 (some dx) .none) →
      h'.Ns1 dx (fun y => if y = name then some v else none) → Q () ⟨h', g, d, tk', os⟩) :
    wpAny (model prog w) A (setAttr (.ref x) name v) Q E ⟨hp, g, d, t, os⟩ := by
  have I : InstAt hp x (excObj C t1 none .none) C none := ⟨hx, rfl, rfl, trivial⟩
  refine set_plain X I XC.sa ?_
  have hxs : x ≠ hp.objs.size := Nat.ne_of_lt (Heap.lt_size hx)
  refine osa_openX (r := none) XC.sf X I XC.ov (by unfold takerIn; rw [ha]; rfl) fun b => ?_
  obtain ⟨cd, bm, hcd, hm, _, hh⟩ := XC.cd
  have hcls : Looks (model prog w) hp (classData C) cd := looks_clsIn X hcd
  obtain ⟨nm, bs, mro, ns, qn, hd, sn, sb, ab, col, del⟩ := cd
  dsimp only at hh
  subst hh
  unfold storeInOwnDict ownDictForStores
  repeat (first | with_reducible refine HandSPX.store_in_new ?_ ?_ | with_reducible refine wpAny_loadPart_at hx ?_ | with_reducible refine hcls.at ?_ | wp_step)
  · exact ⟨_, #[], _, (Heap.get?_update_ne _ _ _ _ hxs.symm).trans (Heap.get?_push_at rfl rfl), rfl, fun e he => absurd he (by simp), fun _ => rfl⟩
  · intro h' tk' hn' hs
    have hx₁ : (hp.push { cls := .type "dict", data := .dict #[] }).get? x = some (excObj C t1 none .none) := Heap.get?_push_of_some _ hx
    refine hq h' tk' hp.objs.size (fun b o hb ho => ?_) (Nat.le_refl _) hxs.symm ?_ hn'
    · exact (hs.2 b (Nat.ne_of_lt (Heap.lt_size ho))).trans ((Heap.get?_update_ne _ _ _ _ hb).trans (Heap.get?_push_of_some _ ho))
    · exact (hs.2 x hxs).trans (Heap.get?_update_self _ hx₁ rfl)
/-- super().__init__(..) behind its arguments -/
theorem xcall_mw {u x t1 : Addr} {rest : List Value} {Q : Value → Shared → Prop} (XC : XCls K C B newId i bmB) (X : K.In hp) (hu : hp.get? u = some (kxs_mw i x)) (hx : hp.get? x = some (excObj C t1 none .none)) (hz : rest.length ≤ sizeLine)
    (hq : ∀ h' t2, (∀ b o, b ≠ x → hp.get? b = some o → h'.get? b = some o) → h'.get? x = some (excObj C t2 none .none) → Q .none ⟨h', g, d, t, os⟩) :
    wpAny (model prog w) A (call (.ref u) rest) Q E ⟨hp, g, d, t, os⟩ := by
  obtain ⟨nm, N', qn, bs, bm, hdct, sn, sub, ab, col, dd, k0, k1, k2, k3, k5, hC, hT⟩ := excInit_of X XC.q
  refine wpAny_call (codeAny_of_tree ?_)
  show wpAny _ A.in1 (callAny (.ref u) ⟨rest, []⟩) _ _ _
  simp only [callAny]
  refine wpAny_bind (wpAny_load hu ?_)
  simp only [kxs_mw, show (Value.type "method-wrapper" == Value.type "method" || Value.type "method-wrapper" == Value.type "builtin_function_or_method" || Value.type "method-wrapper" == Value.type "method-wrapper") = true by decide, if_true]
  refine KFB.if_so (by decide) ?_
  refine wpAny_bind (check_bound_init XC.fb.toExcCallFacts hC hx rfl ?_)
  refine wpAny_bind (wpAny_pure (wpAny_pure ?_))
  refine ⟨plainId_quiet XC.fb.init.plain _, codeAny_builtin XC.fb.initEntry ?_⟩
  exact exc_init_tree (cls := .ref C) (t0 := t1) (dv := none) (c2 := .none) (c3 := .none) (b4 := .bool false) hx hz fun h' k e1 _ => hq h' _ k e1
/-- the text of an __init__ -/
def xbody (msg f p : Str) (p0 p1 p2 p3 p4 p5 p6 p7 p8 p9 : Pos) (j : Nat) : List Stmt :=
  [.Expr (.Call (.Attribute (.Call (.Name "super" p0) [] [] p1) "__init__" p2) [.Constant (.str msg) j p3] [] p4) p5, .Assign [.Attribute (.Name "self" p6) f p7] (.Name p p8) p9]
def xbody0 (msg : Str) (p0 p1 p2 p3 p4 p5 : Pos) (j : Nat) : List Stmt :=
  [.Expr (.Call (.Attribute (.Call (.Name "super" p0) [] [] p1) "__init__" p2) [.Constant (.str msg) j p3] [] p4) p5]
/-- what the written part says of the __init__ -/
structure XFun (prog : Program) (K : Frag) (C fI : Addr) (qual : Str) (params : Arguments) (body : List Stmt) (scope : Scope) : Prop where
  lk : ∃ oc od osl dV kV doc pm an cda ct cc vs ccl cdd ccs tf cl cld csl, K.lookup fI = some ⟨oc, od, .func (ksFn "__init__" qual params body scope dV kV doc pm an (.ref cda) ct cc), osl⟩ ∧ codeIn K (.ref cda) qual = true ∧
    K.lookup cda = some ⟨ccl, cdd, .fields vs, ccs⟩ ∧ vs[2]? = some (.str prog.main.file tf) ∧ K.lookup cc = some ⟨cl, cld, .cell (some (.ref C)), csl⟩ ∧
    (∀ (s : Shared) (us : List Value), us.length = params.args.length → BindsTo s (ksFn "__init__" qual params body scope dV kV doc pm an (.ref cda) ct cc) ⟨us, []⟩ ((params.args.map (·.arg)).zip us))
  fn : isFn K (.ref fI) = true
  ini : findIn K (.ref C) "__init__" = some (some (.ref fI))
  po : params.posonlyargs = []
  top : (prog.main.scope.names.lookup ("super" : Str)).isSome = false
  ks : scope.names.lookup ("super" : Str) = some .globalImplicit
  kc : scope.names.lookup ("__class__" : Str) = some .free
  kn : scope.kind = .function
  co : scope.isCoroutine = false
  gn : scope.isGenerator = false
  nc : ∀ x ∈ scope.names, x.2 ≠ .cell
  lo : ∀ x ∈ params.args, scope.names.lookup x.arg = some .local
section
variable {mg mb : Str → Option Value} {msg f p qual : Str} {p0 p1 p2 p3 p4 p5 p6 p7 p8 p9 : Pos} {j : Nat} {fI : Addr} {params : Arguments} {scope : Scope} {v : Value}
/-- the first row of an __init__: super().__init__(text) -/
theorem xsuper {a1 : Around} {env : PySem.Env} {body : List Stmt} {m : Str → Option Value} {x t1 : Addr} {cc cda : Addr} {of : Obj} {fd : FuncData} {vs : Array Value} {tf : Tok} {ccl cl : Value} {cdd cld : Option Addr} {ccs csl : Array (Option Value)} {ar : Arg} {Q : Flow → Shared → Prop} {pl : Sem Bool}
    (XC : XCls K C B newId i bmB) (X : K.In hp) (G : hp.Ns mainGlobals mg) (hs : mg "super" = none) (Bn : hp.Ns builtinsNs mb) (hb : mb "super" = some (.type "super"))
    (hx : hp.get? x = some (excObj C t1 none .none)) (hL : hp.Ns env.locals m) (hm : m ar.arg = some (.ref x))
    (hks : env.kindOf "super" = some .globalImplicit) (hkc : env.kindOf "__class__" = some .free) (hka : env.kindOf ar.arg = some .local) (hk : env.scope.kind = .function) (hfu : env.func = some fI) (hf : hp.get? fI = some of) (hfd : of.data = .func fd)
    (hpar : (fd.params.posonlyargs ++ fd.params.args).head? = some ar) (hco : env.code = .ref cda) (hcc : K.lookup cda = some ⟨ccl, cdd, .fields vs, ccs⟩) (hvs : vs[2]? = some (.str prog.main.file tf)) (htop : (prog.main.scope.names.lookup ("super" : Str)).isSome = false)
    (hgl : env.globals = mainGlobals) (hbu : env.builtins = builtinsNs) (hcl : env.cells.lookup ("__class__" : Str) = some cc) (hcell : K.lookup cc = some ⟨cl, cld, .cell (some (.ref C)), csl⟩)
    (he : eval (.Call (.Attribute (.Call (.Name "super" p0) [] [] p1) "__init__" p2) [.Constant (.str msg) j p3] [] p4) env = (do
      let ov ← attributeBase (.Call (.Name "super" p0) [] [] p1) "__init__" env (eval (.Call (.Name "super" p0) [] [] p1) env)
      standAt p2.atName
      let (f, first) ← holding [ov] (getMethod ov "__init__" pl)
      callWith p4 f first (backTo p4 (starEach [.Constant (.str msg) j p3] env)) []))
    (hi : interactive env = false) (hsw : swapsWith (.Call (.Attribute (.Call (.Name "super" p0) [] [] p1) "__init__" p2) [.Constant (.str msg) j p3] [] p4) none p5.line env = pure false)
    (hq : ∀ h' t2 tk, (∀ b o, b ≠ x → hp.get? b = some o → h'.get? b = some o) → h'.get? x = some (excObj C t2 none .none) → Q .next ⟨h', g, d, tk, os⟩) :
    _root_.PySem.wpAt (model prog w) a1 (.func body env) (exec (.Expr (.Call (.Attribute (.Call (.Name "super" p0) [] [] p1) "__init__" p2) [.Constant (.str msg) j p3] [] p4) p5) env) Q E ⟨hp, g, d, t, os⟩ := by
  obtain ⟨cd, bm, hcd, hmro, htl, hdct⟩ := XC.cd
  obtain ⟨oD, hD1, hD2⟩ : ∃ oD, hp.get? C = some oD ∧ oD.data = .cls cd := by
    have hcd' := hcd
    unfold clsIn at hcd'
    split at hcd'
    · rename_i c d cd' sl ho
      cases hcd'
      exact ⟨_, X _ _ ho, rfl⟩
    · cases hcd'
  have I : InstAt hp x (excObj C t1 none .none) C none := ⟨hx, rfl, rfl, trivial⟩
  refine ks_wpAt_Expr_any (ks_wpAt_MethodCall (pl := pl) (ks_wpAt_super_base (s := ⟨hp, g, d, t, os⟩) hks hkc (by decide) hfu hf hfd hpar hco (X _ _ hcc) rfl hvs (by simp) htop ?_) he) hi hsw
  refine ks_loadName_global hk hks (loadGlobal_builtin (by rw [hgl]; exact G) hs (by rw [hbu]; exact Bn) hb ⟨rfl, ?_⟩)
  refine wpAny_loadName_free hk hkc hcl ⟨_, X _ _ hcell, rfl⟩ ?_
  refine wpAny_loadName_local hk hka hL hm ?_
  refine ks_wpAny_isType_cls hD1 hD2 ⟨rfl, ?_⟩
  refine ks_wpAny_call_super hD1 hD2 hx rfl (fun c e => by cases e) (looks_mroIn X XC.self_) (fun h' e k => ?_)
  have X' : K.In h' := X.keeps k
  have hx' := k _ _ hx
  have I' : InstAt h' x (excObj C t1 none .none) C none := ⟨hx', rfl, rfl, trivial⟩
  have hsu := XC.su
  unfold ks_superIn at hsu
  rw [hcd] at hsu
  refine kxs_getMethod XC.kf e (looks_opaque X' XC.op) (l₀ := cd.mro) (fun A Q E s k q => wpAny_bind ((looks_clsIn X' hcd) A _ E s k (wpAny_pure q))) rfl X' hsu (I'.type.andThen (looks_subIn X' XC.sub)) (ks_ne X I hcd) (by decide) ?_
  have hu : (h'.push (kxs_mw i x)).get? h'.objs.size = some (kxs_mw i x) := Heap.get?_push_at rfl rfl
  have k2 : ∀ b o, h'.get? b = some o → (h'.push (kxs_mw i x)).get? b = some o := fun b o e => Heap.get?_push_of_some _ e
  refine kxs_callWith (i := i) (x := x) (by rfl) (evalArgs_plain ?_)
  refine Calls.spliced_cons (wpAny_Constant_str (k := j) (pos := p3) ?_)
  refine Calls.spliced_nil ⟨hu, ?_⟩
  refine xcall_mw XC (X'.keeps k2) hu (k2 _ _ hx') (by simp [sizeLine_eq]) fun h3 t2 k3 e3 => ?_
  exact hq h3 t2 _ (fun b o hb ho => k3 b o hb (k2 b o (k b o ho))) e3
/-- C(v) -/
theorem xmake1 {Q : Value → Shared → Prop} (XC : XCls K C B newId i bmB) (XF : XFun prog K C fI qual params (xbody msg f p p0 p1 p2 p3 p4 p5 p6 p7 p8 p9 j) scope) (hpar : params.args.map (·.arg) = [("self" : Str), p]) (hps : p ≠ "self") (hf : findIn K (.ref C) f = some none)
    (hev : ∀ env : PySem.Env, env.scope = scope → ∃ pl, eval (.Call (.Attribute (.Call (.Name "super" p0) [] [] p1) "__init__" p2) [.Constant (.str msg) j p3] [] p4) env = (do
      let ov ← attributeBase (.Call (.Name "super" p0) [] [] p1) "__init__" env (eval (.Call (.Name "super" p0) [] [] p1) env)
      standAt p2.atName
      let (f, first) ← holding [ov] (getMethod ov "__init__" pl)
      callWith p4 f first (backTo p4 (starEach [.Constant (.str msg) j p3] env)) []))
    (hsw : ∀ env : PySem.Env, env.scope = scope → swapsWith (.Call (.Attribute (.Call (.Name "super" p0) [] [] p1) "__init__" p2) [.Constant (.str msg) j p3] [] p4) none p5.line env = pure false)
    (hsw2 : ∀ env : PySem.Env, env.scope = scope → swapsWith (.Name p p8) (some (.Attribute (.Name "self" p6) f p7)) p9.line env = pure false) (hdb : (p == ("__debug__" : Str)) = false)
    (X : K.In hp) (G : hp.Ns mainGlobals mg) (hs : mg "super" = none) (Bn : hp.Ns builtinsNs mb) (hb : mb "super" = some (.type "super")) (lim : hp.NoLimit) (room : (A.under (.builtin "type.__call__" ⟨[.ref C, v], []⟩)).depth < recursionLimit)
    (hq : ∀ h' tk' a dx t1, (∀ b o, hp.get? b = some o → h'.get? b = some o) → hp.objs.size ≤ a → hp.objs.size ≤ dx → dx ≠ a → h'.get? a = some (excObj C t1 (some dx) .none) → h'.Ns1 dx (fun y => if y = f then some v else none) → Q (.ref a) ⟨h', g, d, tk', os⟩) :
    wpAny (model prog w) A (call (.ref C) [v]) Q E ⟨hp, g, d, t, os⟩ := by
  obtain ⟨nm, N', qn, bs, bm, hdct, sn, sub, ab, col, dd, k0, k1, k2, k3, k5, hC, hT⟩ := excInit_of X XC.q
  obtain ⟨oc, od, osl, dV, kV, doc, pm, an, cda, ct, cc, vs, ccl, cdd, ccs, tf, cl, cld, csl, lk, hcode, hcc, hvs, hcell, hbind⟩ := XF.lk
  obtain ⟨oI, hoI, hcI⟩ : ∃ oI, hp.get? fI = some oI ∧ oI.cls = .type "function" := by
    obtain ⟨o, ho, hc⟩ := Option.map_eq_some_iff.mp (show (K.lookup fI).map (·.cls) = some (.type "function") from beq_iff_eq.mp XF.fn)
    exact ⟨o, X _ _ ho, hc⟩
  refine wpAny_call (PX.call_own XC.fb hT hC (looks_findIn X XF.ini) (fun self => exc_bind hoI hcI self) (by simp [sizeLine_eq]) ?_)
  have kk : ∀ b o, hp.get? b = some o → ((hp.push (kdv_tup [v])).push (PX.excO C hp.objs.size)).get? b = some o := fun b o e => Heap.get?_push_of_some _ (Heap.get?_push_of_some _ e)
  have hx : ((hp.push (kdv_tup [v])).push (PX.excO C hp.objs.size)).get? (hp.objs.size + 1) = some (excObj C hp.objs.size none .none) := by heap_get
  have X2 := X.keeps kk
  have hl : ([Value.ref (hp.objs.size + 1), v] : List Value).length = params.args.length := by
    have e := congrArg List.length hpar
    rw [List.length_map] at e
    exact e.symm
  have hb0 := hbind ⟨(hp.push (kdv_tup [v])).push (PX.excO C hp.objs.size), g, d, t, os⟩ [.ref (hp.objs.size + 1), v] hl
  rw [hpar] at hb0
  have lo1 : scope.names.lookup ("self" : Str) = some .local := by
    have z : ("self" : Str) ∈ params.args.map (·.arg) := by rw [hpar]; simp
    obtain ⟨x, hx, e⟩ := List.mem_map.mp z
    rw [← e]; exact XF.lo x hx
  have lo2 : scope.names.lookup p = some .local := by
    have z : p ∈ params.args.map (·.arg) := by rw [hpar]; simp
    obtain ⟨x, hx, e⟩ := List.mem_map.mp z
    rw [← e]; exact XF.lo x hx
  obtain ⟨ar, hd1, har⟩ : ∃ ar, (params.posonlyargs ++ params.args).head? = some ar ∧ ar.arg = "self" := by
    rw [XF.po, List.nil_append]
    cases h : params.args with
    | nil => rw [h] at hpar; cases hpar
    | cons x l =>
      rw [h, List.map_cons] at hpar
      exact ⟨x, rfl, (List.cons.inj hpar).1⟩
  refine ks_codeAny_call_defAt (fd := ksFn "__init__" qual params (xbody msg f p p0 p1 p2 p3 p4 p5 p6 p7 p8 p9 j) scope dV kV doc pm an (.ref cda) ct cc) (body := xbody msg f p p0 p1 p2 p3 p4 p5 p6 p7 p8 p9 j) (binds := [(("self" : Str), .ref (hp.objs.size + 1)), (p, v)]) room (X2 _ _ lk) rfl (lim.keeps kk) (codeRec_of X2 hcode) rfl hb0 XF.nc
    (fun y hy => by
      rcases List.mem_cons.mp hy with rfl | hy
      · exact lo1
      · rcases List.mem_cons.mp hy with rfl | hy
        · exact lo2
        · cases hy) (fun h0 hns kp => ?_) XF.co XF.gn XF.kn
  have k0 : ∀ b o, hp.get? b = some o → h0.get? b = some o := fun b o e => kp b o (kk b o e)
  have X0 := X.keeps k0
  have hx0 := kp _ _ hx
  obtain ⟨pl, he⟩ := hev (callEnv (ksFn "__init__" qual params (xbody msg f p p0 p1 p2 p3 p4 p5 p6 p7 p8 p9 j) scope dV kV doc pm an (.ref cda) ct cc) ((hp.push (kdv_tup [v])).push (PX.excO C hp.objs.size)).objs.size fI) rfl
  have ms : (fun y => ([(("self" : Str), Value.ref (hp.objs.size + 1)), (p, v)] : List (Str × Value)).reverse.lookup y) ("self" : Str) = some (.ref (hp.objs.size + 1)) := by
    have z : (("self" : Str) == p) = false := beq_eq_false_iff_ne.mpr (Ne.symm hps)
    simp [List.lookup_cons, z]
  have mp : (fun y => ([(("self" : Str), Value.ref (hp.objs.size + 1)), (p, v)] : List (Str × Value)).reverse.lookup y) p = some v := by simp [List.lookup_cons]
  have hin : interactive (callEnv (ksFn "__init__" qual params (xbody msg f p p0 p1 p2 p3 p4 p5 p6 p7 p8 p9 j) scope dV kV doc pm an (.ref cda) ct cc) ((hp.push (kdv_tup [v])).push (PX.excO C hp.objs.size)).objs.size fI) = false := by
    show (scope.kind == .module && _) = false
    rw [XF.kn]
    rfl
  refine ks_wpAt_execs_cons (xsuper (ar := ar) (cda := cda) (cc := cc) (m := fun y => ([(("self" : Str), Value.ref (hp.objs.size + 1)), (p, v)] : List (Str × Value)).reverse.lookup y) XC X0 (G.keeps k0) hs (Bn.keeps k0) hb hx0 hns (by rw [har]; exact ms) XF.ks XF.kc (by rw [har]; exact lo1) XF.kn rfl (k0 _ _ (X _ _ lk)) rfl hd1 rfl hcc hvs XF.top rfl rfl rfl hcell he hin (hsw _ rfl) fun h1 t2 tk1 kx hx1 => ?_)
  refine ks_wpAt_execs_cons (ks_wpAt_Assign_Attr (wpAt_of_wpAny ?_) (hsw2 _ rfl))
  have hLne : ((hp.push (kdv_tup [v])).push (PX.excO C hp.objs.size)).objs.size ≠ hp.objs.size + 1 := by simp [Heap.size_push]
  have hns1 : h1.Ns ((hp.push (kdv_tup [v])).push (PX.excO C hp.objs.size)).objs.size (fun y => ([(("self" : Str), Value.ref (hp.objs.size + 1)), (p, v)] : List (Str × Value)).reverse.lookup y) := by
    obtain ⟨o, es, ep, e1, r⟩ := hns
    exact ⟨o, es, ep, kx _ _ hLne e1, r⟩
  refine wpAny_Name (wpAny_loadName_local XF.kn lo2 hns1 mp ?_) hdb
  refine wpAny_Name (wpAny_loadName_local XF.kn lo1 hns1 ms ?_) (by decide)
  have X1 : K.In h1 := fun b o e => kx b o (fun z => by
    have := X _ _ e
    rw [z] at this
    exact absurd (Heap.lt_size this) (by simp)) (X0 b o e)
  refine xset_new XC X1 hx1 hf fun h2 tk2 dx k2 hdx hne hx2 hn2 => ?_
  refine wpAt_of_wpAny ?_
  show wpAny _ _ (pure Flow.next) _ _ _
  refine wpAny_pure ⟨rfl, ?_⟩
  have ne : ∀ {b : Addr} {o : Obj}, hp.get? b = some o → b ≠ hp.objs.size + 1 := fun {b o} e z => by
    rw [z] at e
    exact absurd (Heap.lt_size e) (by simp)
  exact hq h2 tk2 (hp.objs.size + 1) dx t2 (fun b o e => k2 b o (ne e) (kx b o (ne e) (k0 b o e))) (Nat.le_succ _) (Nat.le_trans (Nat.le_of_lt (Nat.lt_of_succ_lt (Heap.lt_size hx1))) hdx) hne hx2 hn2
end
end
end BW

set_option Elab.async false
set_option linter.all false
set_option maxRecDepth 100000
set_option maxHeartbeats 4000000
namespace BW
open PySem PySem.Spec PyProof.Rows L2
section
open PySem.W PySem.Calls Builtin Builtin.ObjectAttr
variable {prog : Program} {w : World} {A : Around} {E : Value → Shared → Prop} {hp : Heap} {g : Array GenState} {d : Drawn} {t : Nat} {os : OsState} {K : Frag} {C : Addr} {B newId i : String} {bmB : List Value}
variable {mg mb : Str → Option Value} {msg f p qual : Str} {p0 p1 p2 p3 p4 p5 p6 p7 p8 p9 : Pos} {j : Nat} {fI : Addr} {params : Arguments} {scope : Scope} {v : Value}
/-- C() -/
theorem xmake0 {Q : Value → Shared → Prop} (XC : XCls K C B newId i bmB) (XF : XFun prog K C fI qual params (xbody0 msg p0 p1 p2 p3 p4 p5 j) scope) (hpar : params.args.map (·.arg) = [("self" : Str)])
    (hev : ∀ env : PySem.Env, env.scope = scope → ∃ pl, eval (.Call (.Attribute (.Call (.Name "super" p0) [] [] p1) "__init__" p2) [.Constant (.str msg) j p3] [] p4) env = (do
      let ov ← attributeBase (.Call (.Name "super" p0) [] [] p1) "__init__" env (eval (.Call (.Name "super" p0) [] [] p1) env)
      standAt p2.atName
      let (f, first) ← holding [ov] (getMethod ov "__init__" pl)
      callWith p4 f first (backTo p4 (starEach [.Constant (.str msg) j p3] env)) []))
    (hsw : ∀ env : PySem.Env, env.scope = scope → swapsWith (.Call (.Attribute (.Call (.Name "super" p0) [] [] p1) "__init__" p2) [.Constant (.str msg) j p3] [] p4) none p5.line env = pure false)
    (X : K.In hp) (G : hp.Ns mainGlobals mg) (hs : mg "super" = none) (Bn : hp.Ns builtinsNs mb) (hb : mb "super" = some (.type "super")) (lim : hp.NoLimit) (room : (A.under (.builtin "type.__call__" ⟨[.ref C], []⟩)).depth < recursionLimit)
    (hq : ∀ h' tk' a t1, (∀ b o, hp.get? b = some o → h'.get? b = some o) → hp.objs.size ≤ a → h'.get? a = some (excObj C t1 none .none) → Q (.ref a) ⟨h', g, d, tk', os⟩) :
    wpAny (model prog w) A (call (.ref C) []) Q E ⟨hp, g, d, t, os⟩ := by
  obtain ⟨nm, N', qn, bs, bm, hdct, sn, sub, ab, col, dd, k0, k1, k2, k3, k5, hC, hT⟩ := excInit_of X XC.q
  obtain ⟨oc, od, osl, dV, kV, doc, pm, an, cda, ct, cc, vs, ccl, cdd, ccs, tf, cl, cld, csl, lk, hcode, hcc, hvs, hcell, hbind⟩ := XF.lk
  obtain ⟨oI, hoI, hcI⟩ : ∃ oI, hp.get? fI = some oI ∧ oI.cls = .type "function" := by
    obtain ⟨o, ho, hc⟩ := Option.map_eq_some_iff.mp (show (K.lookup fI).map (·.cls) = some (.type "function") from beq_iff_eq.mp XF.fn)
    exact ⟨o, X _ _ ho, hc⟩
  refine wpAny_call (PX.call_own XC.fb hT hC (looks_findIn X XF.ini) (fun self => exc_bind hoI hcI self) (by simp [sizeLine_eq]) ?_)
  have kk : ∀ b o, hp.get? b = some o → ((hp.push (kdv_tup [])).push (PX.excO C hp.objs.size)).get? b = some o := fun b o e => Heap.get?_push_of_some _ (Heap.get?_push_of_some _ e)
  have hx : ((hp.push (kdv_tup [])).push (PX.excO C hp.objs.size)).get? (hp.objs.size + 1) = some (excObj C hp.objs.size none .none) := by heap_get
  have X2 := X.keeps kk
  have hl : ([Value.ref (hp.objs.size + 1)] : List Value).length = params.args.length := by
    have e := congrArg List.length hpar
    rw [List.length_map] at e
    exact e.symm
  have hb0 := hbind ⟨(hp.push (kdv_tup [])).push (PX.excO C hp.objs.size), g, d, t, os⟩ [.ref (hp.objs.size + 1)] hl
  rw [hpar] at hb0
  have lo1 : scope.names.lookup ("self" : Str) = some .local := by
    have z : ("self" : Str) ∈ params.args.map (·.arg) := by rw [hpar]; simp
    obtain ⟨x, hx, e⟩ := List.mem_map.mp z
    rw [← e]; exact XF.lo x hx
  obtain ⟨ar, hd1, har⟩ : ∃ ar, (params.posonlyargs ++ params.args).head? = some ar ∧ ar.arg = "self" := by
    rw [XF.po, List.nil_append]
    cases h : params.args with
    | nil => rw [h] at hpar; cases hpar
    | cons x l =>
      rw [h, List.map_cons] at hpar
      exact ⟨x, rfl, (List.cons.inj hpar).1⟩
  refine ks_codeAny_call_defAt (fd := ksFn "__init__" qual params (xbody0 msg p0 p1 p2 p3 p4 p5 j) scope dV kV doc pm an (.ref cda) ct cc) (body := xbody0 msg p0 p1 p2 p3 p4 p5 j) (binds := [(("self" : Str), .ref (hp.objs.size + 1))]) room (X2 _ _ lk) rfl (lim.keeps kk) (codeRec_of X2 hcode) rfl hb0 XF.nc
    (fun y hy => by
      rcases List.mem_cons.mp hy with rfl | hy
      · exact lo1
      · cases hy) (fun h0 hns kp => ?_) XF.co XF.gn XF.kn
  have k0 : ∀ b o, hp.get? b = some o → h0.get? b = some o := fun b o e => kp b o (kk b o e)
  have X0 := X.keeps k0
  have hx0 := kp _ _ hx
  obtain ⟨pl, he⟩ := hev (callEnv (ksFn "__init__" qual params (xbody0 msg p0 p1 p2 p3 p4 p5 j) scope dV kV doc pm an (.ref cda) ct cc) ((hp.push (kdv_tup [])).push (PX.excO C hp.objs.size)).objs.size fI) rfl
  have ms : (fun y => ([(("self" : Str), Value.ref (hp.objs.size + 1))] : List (Str × Value)).reverse.lookup y) ("self" : Str) = some (.ref (hp.objs.size + 1)) := by
    simp [List.lookup_cons]
  have hin : interactive (callEnv (ksFn "__init__" qual params (xbody0 msg p0 p1 p2 p3 p4 p5 j) scope dV kV doc pm an (.ref cda) ct cc) ((hp.push (kdv_tup [])).push (PX.excO C hp.objs.size)).objs.size fI) = false := by
    show (scope.kind == .module && _) = false
    rw [XF.kn]
    rfl
  refine ks_wpAt_execs_cons (xsuper (ar := ar) (cda := cda) (cc := cc) (m := fun y => ([(("self" : Str), Value.ref (hp.objs.size + 1))] : List (Str × Value)).reverse.lookup y) XC X0 (G.keeps k0) hs (Bn.keeps k0) hb hx0 hns (by rw [har]; exact ms) XF.ks XF.kc (by rw [har]; exact lo1) XF.kn rfl (k0 _ _ (X _ _ lk)) rfl hd1 rfl hcc hvs XF.top rfl rfl rfl hcell he hin (hsw _ rfl) fun h1 t2 tk1 kx hx1 => ?_)
  refine wpAt_of_wpAny ?_
  show wpAny _ _ (pure Flow.next) _ _ _
  refine wpAny_pure ⟨rfl, ?_⟩
  have ne : ∀ {b : Addr} {o : Obj}, hp.get? b = some o → b ≠ hp.objs.size + 1 := fun {b o} e z => by
    rw [z] at e
    exact absurd (Heap.lt_size e) (by simp)
  exact hq h1 tk1 (hp.objs.size + 1) t2 (fun b o e => kx b o (ne e) (k0 b o e)) (Nat.le_succ _) hx1
end

/-- what the text of an own exception with one field says -/
structure XTx (scope : Scope) (msg f p : Str) (p0 p1 p2 p3 p4 p5 p6 p7 p8 p9 : Pos) (j : Nat) : Prop where
  hev : ∀ env : PySem.Env, env.scope = scope → ∃ pl, eval (.Call (.Attribute (.Call (.Name "super" p0) [] [] p1) "__init__" p2) [.Constant (.str msg) j p3] [] p4) env = (do
      let ov ← attributeBase (.Call (.Name "super" p0) [] [] p1) "__init__" env (eval (.Call (.Name "super" p0) [] [] p1) env)
      standAt p2.atName
      let (f, first) ← holding [ov] (getMethod ov "__init__" pl)
      callWith p4 f first (backTo p4 (starEach [.Constant (.str msg) j p3] env)) [])
  hsw : ∀ env : PySem.Env, env.scope = scope → swapsWith (.Call (.Attribute (.Call (.Name "super" p0) [] [] p1) "__init__" p2) [.Constant (.str msg) j p3] [] p4) none p5.line env = pure false
  hsw2 : ∀ env : PySem.Env, env.scope = scope → swapsWith (.Name p p8) (some (.Attribute (.Name "self" p6) f p7)) p9.line env = pure false
  hdb : (p == ("__debug__" : Str)) = false
structure XTx0 (scope : Scope) (msg : Str) (p0 p1 p2 p3 p4 p5 : Pos) (j : Nat) : Prop where
  hev : ∀ env : PySem.Env, env.scope = scope → ∃ pl, eval (.Call (.Attribute (.Call (.Name "super" p0) [] [] p1) "__init__" p2) [.Constant (.str msg) j p3] [] p4) env = (do
      let ov ← attributeBase (.Call (.Name "super" p0) [] [] p1) "__init__" env (eval (.Call (.Name "super" p0) [] [] p1) env)
      standAt p2.atName
      let (f, first) ← holding [ov] (getMethod ov "__init__" pl)
      callWith p4 f first (backTo p4 (starEach [.Constant (.str msg) j p3] env)) [])
  hsw : ∀ env : PySem.Env, env.scope = scope → swapsWith (.Call (.Attribute (.Call (.Name "super" p0) [] [] p1) "__init__" p2) [.Constant (.str msg) j p3] [] p4) none p5.line env = pure false
/-- the own exception class c, with its one field -/
def XC1 (P : Program) (K : PySem.W.Frag) (mg : Str → Option Value) (c : Str) : Prop :=
  ∃ (C fI : Addr) (B newId i : String) (bmB : List Value) (qual msg f p : Str) (params : Arguments) (scope : Scope) (p0 p1 p2 p3 p4 p5 p6 p7 p8 p9 : Pos) (j : Nat),
    mg c = some (.ref C) ∧ PySem.W.keepIn K (.ref C) = true ∧ PySem.W.subIn K (.ref C) (.type "BaseException") = some true ∧ PySem.W.typeIn K (.ref C) = some (.type "type") ∧ fieldOf c = some f ∧
    XCls K C B newId i bmB ∧ XFun P K C fI qual params (xbody msg f p p0 p1 p2 p3 p4 p5 p6 p7 p8 p9 j) scope ∧ XTx scope msg f p p0 p1 p2 p3 p4 p5 p6 p7 p8 p9 j ∧ params.args.map (·.arg) = [("self" : Str), p] ∧ p ≠ "self" ∧ PySem.W.findIn K (.ref C) f = some none
/-- .. without a field -/
def XC0 (P : Program) (K : PySem.W.Frag) (mg : Str → Option Value) (c : Str) : Prop :=
  ∃ (C fI : Addr) (B newId i : String) (bmB : List Value) (qual msg : Str) (params : Arguments) (scope : Scope) (p0 p1 p2 p3 p4 p5 : Pos) (j : Nat),
    mg c = some (.ref C) ∧ PySem.W.keepIn K (.ref C) = true ∧ PySem.W.subIn K (.ref C) (.type "BaseException") = some true ∧ PySem.W.typeIn K (.ref C) = some (.type "type") ∧
    XCls K C B newId i bmB ∧ XFun P K C fI qual params (xbody0 msg p0 p1 p2 p3 p4 p5 j) scope ∧ XTx0 scope msg p0 p1 p2 p3 p4 p5 j ∧ params.args.map (·.arg) = [("self" : Str)]

variable [Tb]
section
variable {X : Cx} {W : Wx}
theorem inv_blt {pins : List (Addr × Obj)} {σ : L2.St} {H : Hp} {s : Shared} (I : Inv X pins σ H s) : ∃ mb, s.heap.Ns builtinsNs mb ∧ mb "super" = some (.type "super") := by
  obtain ⟨mb, h1, h2⟩ := I.ok.mod.blt
  exact ⟨mb, h1.keeps I.bk, (h2 "super" (by decide)).trans (by decide +kernel)⟩
theorem pmk_x1 {c : Str} {C : Addr} {f : Str} {e : Expr} {te : TE} {p pos : Pos} {k : Nat} (XC : XC1 X.prog X.K X.mg c) (hC : X.mg c = some (.ref C)) (hf : fieldOf c = some f) (hs : X.mg "super" = none) (hr : Room (k + 1) X.A) (hg : Gl X c) (he : PE X e te)
    (hst : starEach [e] X.env = (false, eval e X.env) :: starEach [] X.env := by rfl) (hdb : (c == ("__debug__" : Str)) = false := by decide) :
    PMk X (.Call (.Name c p) [e] [] pos) (fun σ H Q => te σ H fun v H1 => ∀ dx, H1 dx = none → Q (.ref C) (some dx) (upd H1 dx (.xd [(f, v)]))) := by
  intro pins s σ H Q I h
  obtain ⟨C', fI, B, newId, i, bmB, qual, msg, f', p', params, scope, p0, p1, p2, p3, p4, p5, p6, p7, p8, p9, j, hC', kC, sub, ty, hf', XK, XF, XT, hpar, hps, hff⟩ := XC
  rw [hC] at hC'
  cases hC'
  rw [hf] at hf'
  cases hf'
  refine wpAny_Call_Name_kw (ld_glob I hg hC ?_ hdb)
  refine PySem.W.callWith_K (h₀ := X.base) I.ok.mod.kin kC ?_ hst (by rfl)
  rw [hst]
  show wpAny _ _ (spliced ((false, eval e X.env) :: backTo pos (starEach [] X.env))) _ _ s
  refine Calls.spliced_cons (thn (he.run pins s σ H _ I h) fun u s1 ⟨v, H1, I1, r1, q1⟩ => ?_)
  refine Calls.spliced_nil ⟨I1.kIn, ?_⟩
  show wpAny _ _ (call (.ref C) [u]) _ _ _
  obtain ⟨mb, nb, eb⟩ := inv_blt I1
  have G1 := I1.ok.mod.glob.keeps I1.bk
  have room := (hr.make C [u] []).depth
  obtain ⟨hp, g, d, t, os⟩ := s1
  refine xmake1 XK XF hpar hps hff XT.hev XT.hsw XT.hsw2 XT.hdb I1.kIn G1 hs nb eb I1.nolimit room fun h' tk' a dx t1 kk ha hdx hne hx hns => ?_
  obtain ⟨G, g1, g2⟩ := restrict h' fun b => decide (b ≠ a)
  have gk : ∀ b o, b ≠ a → h'.get? b = some o → G.get? b = some o := fun b o hb e => by
    rw [g1 b (decide_eq_true hb)]; exact e
  have ga : G.get? a = none := g2 a (decide_eq_false fun z => z rfl)
  have gs : ∀ b o, G.get? b = some o → h'.get? b = some o := fun b o e => by
    by_cases hb : b = a
    · rw [hb, ga] at e; cases e
    · rw [← g1 b (decide_eq_true hb)]; exact e
  have nea : ∀ {b : Addr} {o : Obj}, hp.get? b = some o → b ≠ a := fun {b o} z => Nat.ne_of_lt (Nat.lt_of_lt_of_le (Heap.lt_size z) ha)
  have J := I1.laid (t' := tk') (a := dx) (o := .xd [(f, v)]) (h' := G) (fun b o e => gk b o (nea e) (kk b o e)) hdx
    ⟨fun y => if y = f then some u else none, (by
      obtain ⟨o, es, ep, e1, e2⟩ := hns
      exact ⟨o, es, ep, gk _ _ hne e1, e2⟩), fun y => by
      by_cases hy : y = f
      · subst hy
        simp only [List.lookup_cons, beq_self_eq_true, if_true]
        exact r1
      · have : (y == f) = false := beq_eq_false_iff_ne.mpr hy
        simp only [List.lookup_cons, this, if_neg hy, List.lookup_nil]
        trivial⟩
  have hn : H1 dx = none := I1.hok.fresh hdx
  exact ⟨a, _, _, _, _, .ref C, some dx, rfl, J, gs, ga, hx, ⟨rfl, rfl⟩, rfl, rfl, by rw [upd_ne (Ne.symm hne)]; exact I1.hok.fresh ha, rfl, I1.bare, raises_own sub ty, q1 dx hn⟩
theorem pmk_x0 {c : Str} {C : Addr} {p pos : Pos} {k : Nat} (XC : XC0 X.prog X.K X.mg c) (hC : X.mg c = some (.ref C)) (hs : X.mg "super" = none) (hr : Room (k + 1) X.A) (hg : Gl X c) (hdb : (c == ("__debug__" : Str)) = false := by decide) :
    PMk X (.Call (.Name c p) [] [] pos) (fun σ H Q => Q (.ref C) none H) := by
  intro pins s σ H Q I h
  obtain ⟨C', fI, B, newId, i, bmB, qual, msg, params, scope, p0, p1, p2, p3, p4, p5, j, hC', kC, sub, ty, XK, XF, XT, hpar⟩ := XC
  rw [hC] at hC'
  cases hC'
  refine wpAny_Call_Name_kw (ld_glob I hg hC ?_ hdb)
  refine PySem.W.callWith_K0 I.kIn kC ?_
  show wpAny _ _ (call (.ref C) []) _ _ _
  obtain ⟨mb, nb, eb⟩ := inv_blt I
  have G1 := I.ok.mod.glob.keeps I.bk
  have room := (hr.make C [] []).depth
  obtain ⟨hp, g, d, t, os⟩ := s
  refine xmake0 XK XF hpar XT.hev XT.hsw I.kIn G1 hs nb eb I.nolimit room fun h' tk' a t1 kk ha hx => ?_
  obtain ⟨G, g1, g2⟩ := restrict h' fun b => decide (b ≠ a)
  have gk : ∀ b o, b ≠ a → h'.get? b = some o → G.get? b = some o := fun b o hb e => by
    rw [g1 b (decide_eq_true hb)]; exact e
  have ga : G.get? a = none := g2 a (decide_eq_false fun z => z rfl)
  have gs : ∀ b o, G.get? b = some o → h'.get? b = some o := fun b o e => by
    by_cases hb : b = a
    · rw [hb, ga] at e; cases e
    · rw [← g1 b (decide_eq_true hb)]; exact e
  have nea : ∀ {b : Addr} {o : Obj}, hp.get? b = some o → b ≠ a := fun {b o} z => Nat.ne_of_lt (Nat.lt_of_lt_of_le (Heap.lt_size z) ha)
  have J := I.kept (t' := tk') (h' := G) (fun b o e => gk b o (nea e) (kk b o e))
  exact ⟨a, _, _, _, _, .ref C, none, rfl, J, gs, ga, hx, ⟨rfl, rfl⟩, rfl, rfl, I.hok.fresh ha, rfl, I.bare, raises_own sub ty, h⟩

/-! ### raise -/
def svRaise1 (c : Str) (f : Ev) : Sv := fun e h => (pv f e h).toFl e fun d h1 => .exc (.exc c [d]) e h1
def svRaise0 (c : Str) : Sv := fun e h => .exc (.exc c []) e h
theorem den_raise1 {c : Str} {ex : Expr} {p pos pos' : Pos} {f : Ev} {k : Nat} (XC : XC1 X.prog X.K X.mg c) (hs : X.mg "super" = none) (hr : Room k X.A) (tk : Takes X W) (he : DenE X W ex f) (hjk : 1 ≤ k := by decide) (hg : Gl X c := by rfl) (hc : X.calm = true := by rfl)
    (hst : starEach [ex] X.env = (false, eval ex X.env) :: starEach [] X.env := by rfl) (hdb : (c == ("__debug__" : Str)) = false := by decide) :
    DenS X W (.Raise (some (.Call (.Name c p) [ex] [] pos)) none pos') (svRaise1 c f) := by
  obtain ⟨C, fn, hC, hf⟩ : ∃ C fn, X.mg c = some (.ref C) ∧ fieldOf c = some fn := by
    obtain ⟨C', fI, B, newId, i, bmB, qual, msg, f', p', params, scope, p0, p1, p2, p3, p4, p5, p6, p7, p8, p9, j, hC', kC, sub, ty, hf', _⟩ := XC
    exact ⟨_, _, hC', hf'⟩
  refine PS.imp (ps_raise hc tk (pmk_x1 (k := 0) XC hC hf hs (hr.mono hjk) hg (den_pv he) hst hdb)) fun N σ H ⟨r, e, h, er, hr, ok⟩ => ?_
  unfold svRaise1 at ok
  refine rdV_bindS er hr ok fun d h1 v r1 H1 s1 hr1 t1 er1 ok1 => fun dx hdx => ?_
  have s2 : Step r1 H1 r1 (upd H1 dx (.xd [(fn, v)])) := Step.alloc hdx
  exact ok1 _ _ σ r1 _ s2 (er1.mono s2.mn) (hr1.alloc hdx) (.e1 hC hf (fun z => hr1.there z hdx) upd_same (t1.mono s2.mn))
theorem den_raise0 {c : Str} {p pos pos' : Pos} {k : Nat} (XC : XC0 X.prog X.K X.mg c) (hs : X.mg "super" = none) (hr : Room k X.A) (tk : Takes X W) (hjk : 1 ≤ k := by decide) (hg : Gl X c := by rfl) (hc : X.calm = true := by rfl) (hdb : (c == ("__debug__" : Str)) = false := by decide) :
    DenS X W (.Raise (some (.Call (.Name c p) [] [] pos)) none pos') (svRaise0 c) := by
  obtain ⟨C, hC⟩ : ∃ C, X.mg c = some (.ref C) := by
    obtain ⟨C', fI, B, newId, i, bmB, qual, msg, params, scope, p0, p1, p2, p3, p4, p5, j, hC', _⟩ := XC
    exact ⟨_, hC'⟩
  exact PS.imp (ps_raise hc tk (pmk_x0 (k := 0) XC hC hs (hr.mono hjk) hg hdb)) fun N σ H ⟨r, e, h, er, hr, ok⟩ => ok _ _ σ r H (Step.refl _ _) er hr (.e0 hC)
end
end BW

set_option Elab.async false
set_option linter.all false
set_option maxRecDepth 100000
set_option maxHeartbeats 4000000
namespace BW
open PySem PySem.Spec PyProof.Rows L2
/-! ### an exception that is caught and kept -/
section
variable {X : Cx} {pins : List (Addr × Obj)} {σ : L2.St} {H : Hp} {s : Shared}
theorem XO_tup {a C : Addr} {d : Option Addr} (xs : List V) : XO a C d ≠ .tup xs := fun z => by unfold XO at z; cases z
theorem XO_own {a C : Addr} {d : Option Addr} (x : Addr) : XO a C d ≠ .own x := fun z => by unfold XO at z; cases z
/-- a pinned object of ours is tracked from now on -/
theorem inv_hold {a C : Addr} {oe : Obj} {vs : Array Value} {d : Option Addr} (I : Inv X ((a, oe) :: pins) σ H s) (hc : oe.cls = .ref C) (hdi : oe.dict = d) (hd : oe.data = .fields vs) (n0 : X.s_0.heap.get? a = none) (np : ∀ p ∈ X.pn ++ pins, p.1 ≠ a) :
    Inv X pins σ (upd H a (XO a C d)) s := by
  obtain ⟨ha, na, nL, nF, _⟩ := I.pin (a, oe) (List.mem_append_right _ List.mem_cons_self)
  have nC : ∀ x c, X.env.cells.lookup x = some c → c ≠ a := fun x c e z => by
    obtain ⟨v, o, ho, hd'⟩ := I.cell x c e
    rw [z] at ho
    have ha' : s.heap.get? a = some oe := ha
    rw [ha'] at ho
    cases ho
    rw [hd] at hd'
    cases hd'
  have ne0 : ∀ b o, X.s_0.heap.get? b = some o → b ≠ a := fun b o e z => by
    rw [z, n0] at e
    cases e
  refine ⟨I.ok, I.os, I.bare, ⟨I.base.keep, I.base.slot, fun b o e n hq => ?_, I.base.there, fun b xs e => ?_, fun b o u e => ?_, fun b ps e => ?_⟩, I.loc, I.cell, ?_, fun x c e => ?_, fun p hp => ?_, fun b u e => ?_, I.len⟩
  · rw [upd_ne (ne0 b o e)]
    exact I.base.free b o e n hq
  · have q := I.base.tups b xs e
    rw [upd_ne (ne_of_none q na)]
    exact q
  · have q := I.base.frzs b o u e
    rw [upd_ne (ne_of_none q na)]
    exact q
  · obtain ⟨m, q⟩ := I.base.tbls b ps e
    exact ⟨m, by rw [upd_ne (ne_of_none q na)]; exact q⟩
  · rw [upd_ne (Ne.symm nL)]
    exact I.free
  · rw [upd_ne (nC x c e)]
    exact I.freeC x c e
  · have hp' : p ∈ X.pn ++ (a, oe) :: pins := by
      rcases List.mem_append.mp hp with z | z
      · exact List.mem_append_left _ z
      · exact List.mem_append_right _ (List.mem_cons_of_mem _ z)
    obtain ⟨e, n, ne, nf, d'⟩ := I.pin p hp'
    exact ⟨e, by rw [upd_ne (np p hp)]; exact n, ne, nf, d'⟩
  · by_cases hb : b = a
    · subst hb
      rw [upd_same] at e
      cases e
      exact ⟨⟨oe, vs, ha, hc, hdi, hd⟩, ⟨oe, ha⟩, fun h1 h2 ⟨o, ws, q1, q2⟩ st => ⟨o, ws, st _ q1, q2⟩⟩
    · rw [upd_ne hb] at e
      exact (I.hok b u e).stay (fun c v _ q => q) (fun c q => by rw [upd_ne (ne_of_none q na)]; exact q) fun c xs q => by rw [upd_ne (ne_of_none q na)]; exact q
end
/-- what the clause 'except (..) as n: y = n' wishes -/
def wHold (K : PySem.W.Frag) (cs : List Value) (i j : Nat) (Wout : WX) (D : Ends) : WX := fun cls d σ H =>
  ∃ b, PySem.W.exmAny K cls cs = some b ∧ (b = true → ∀ a, H a = none → ∃ C, cls = .ref C ∧ D.nx (((σ.set i (some (.ref a))).set j (some (.ref a))).set i none) (upd H a (XO a C d))) ∧ (b = false → Wout cls d σ H)
section
variable {X : Cx} {x1 x2 n y : Str} {c1 c2 : Value} {i j kk : Nat} {body : List Stmt} {np1 np2 tp py pn' pa pos pos' : Pos} {tb : WX → TS} {Wout : WX}
theorem ps_try_hold (hs : X.stack = X.env :: X.outer) (hex : X.ex = []) (hf : X.env.frame = some X.env.locals) (hN : X.N.Nodup) (hi : X.N[i]? = some n) (hj : X.N[j]? = some y) (hln : X.env.scope.names.lookup n = some .local) (hly : X.env.scope.names.lookup y = some .local) (hc1 : Names X x1 c1) (hc2 : Names X x2 c2) (tk : Takes X Wout)
    (hb : ∀ (W : WX) (pn : List (Addr × Obj)) (xe : Value → Shared → Prop), Takes (X.tr pn xe) W → PassesOwn (model X.prog X.w) X.A X.env xe → PSs (X.tr pn xe) body (tb W))
    (hsw : swapsWith (.Name n pn') (some (.Name y py)) pa.line X.env = pure false) (hd1 : (n == ("__debug__" : Str)) = false := by decide) (hd2 : (n == ("__classdict__" : Str)) = false := by decide) :
    PS X (.Try body [.ExceptHandler (some (.Tuple [.Name x1 np1, .Name x2 np2] kk tp)) (some n) [.Assign [.Name y py] (.Name n pn') pa] pos'] [] [] pos) (fun D σ H => tb (wHold X.K [c1, c2] i j Wout D) D σ H) := by
  refine ⟨fun pins s σ H D I h => ?_⟩
  have ok := I.ok
  have hfr : X.A.frames = some (X.env :: X.outer) := by rw [ok.frames, hs]
  have hloc : Loc X.env.scope n := .inl hln
  refine wpAny_Try_except ?_
  refine wpAny_mono ((hb (wHold X.K [c1, c2] i j Wout D) (X.pn ++ pins) (fun e s₁ => wpAny (model X.prog X.w) X.A (noteFrame e X.env) (fun _ s₂ => wpAny (model X.prog X.w) X.A (setFlight e none) (fun _ s₃ =>
    wpAny (model X.prog X.w) X.A (handleBy e X.env [.ExceptHandler (some (.Tuple [.Name x1 np1, .Name x2 np2] kk tp)) (some n) [.Assign [.Name y py] (.Name n pn') pa] pos']) (SP X pins D) X.xe s₃) X.xe s₂) X.xe s₁) (fun u s' xx => ?_) PassesOwn.looking).run [] s σ H D (I.toTry _) h) (fun f s1 hsp => ?_) (fun e s1 he => he)
  · -- the catch
    obtain ⟨a, B, sI, pins', σ', H', cls, d, rfl, J', nb, up, sky, na, os, ag, b, hb1, hyes, hno⟩ := xx
    have J : Inv X pins σ' H' sI := J'.ofTry ok
    have sky' : Sky B (X.env :: X.outer) a (Zc cls d) X.env.locals s'.heap := by rw [← hs]; exact sky
    show wpAny (model X.prog X.w) X.A (noteFrame (.ref a) X.env) _ _ _
    refine Sky.land Zc.steady hfr hf sky' fun h3 fl3 up3 => ?_
    have J3 : Inv X pins σ' H' { s' with heap := h3 } := J.landed nb fl3.1 (up.trans up3) os ag
    obtain ⟨oe3, vs3, he3, hz3, hd3⟩ := fl3.there
    have notFr : ∀ {h : Heap} {o : Obj} {vs : Array Value}, h.FunFrames B (X.env :: X.outer) → h.get? a = some o → o.data = .fields vs → a ∉ frs (X.env :: X.outer) := fun {h o vs} ff e dd hm => by
      obtain ⟨_, o', e', hnf⟩ := ff.mem hm
      rw [e] at e'; cases e'
      exact hnf _ dd
    have nfr := notFr fl3.2.2.1 he3 hd3
    have nL : a ≠ X.env.locals := fun z => nfr (List.mem_filterMap.mpr ⟨X.env, List.mem_cons_self, by rw [hf, z]⟩)
    have nF : a ∉ X.fs := fun hm => by
      obtain ⟨e, he, q⟩ := List.mem_filterMap.mp hm
      exact nfr (List.mem_filterMap.mpr ⟨e, List.mem_cons_of_mem _ he, q⟩)
    have S3 := J3.suite he3 hd3 na nL nF
    have nI : sI.heap.get? a = none := by
      cases e : sI.heap.get? a with
      | none => rfl
      | some o =>
        have z := nb a o e (by rw [hs]; exact nfr)
        rw [fl3.2.1] at z
        cases z
    refine wpAny_handleBy_cons (codeAny_handlers_test ?_) (by intro q; cases q)
    have test : ∀ {x : Str} {c : Value} {np : Pos} {Q : Value → Shared → Prop} {E : Value → Shared → Prop}, Names X x c → Q c { s' with heap := h3 } → wpAny (model X.prog X.w) (X.A.mark (some (.ref a))) (eval (.Name x np) X.env) Q E { s' with heap := h3 } := fun {x c np Q E} hc q => by
      obtain ⟨hg, hdbg, hm | ⟨hm, hv, hnn⟩⟩ := hc
      · exact ld_glob (X := X.suite a ((a, oe3) :: (X.pn ++ pins))) S3 hg hm q hdbg
      · exact ld_blt (X := X.suite a ((a, oe3) :: (X.pn ++ pins))) S3 hg hm hv q hnn hdbg
    refine wpAny_Tuple ?_
    refine wpAny_items_cons (test hc1 ?_)
    refine wpAny_items_cons (test hc2 ?_)
    refine wpAny_items_nil ⟨by size_fits, ?_⟩
    have kp : ∀ q o, h3.get? q = some o → (h3.push { cls := .type "tuple", data := .seq [c1, c2].toArray }).get? q = some o := fun _ _ z => Heap.get?_push_of_some _ z
    have LT : PySem.W.Looks (model X.prog X.w) (h3.push { cls := .type "tuple", data := .seq [c1, c2].toArray }) (typeOf (.ref a)) cls := fun A Q E s k q => wpAny_typeOf_ref (k _ _ (kp _ _ he3)) (by rw [hz3.1]; exact q)
    have LM := PySem.W.exm_tup2 (M := model X.prog X.w) (J3.kIn.keeps kp) LT (Heap.get?_push_size h3 rfl) hb1
    refine LM.here ?_
    have fl3' : HandSPX.FlyingZ B (X.env :: X.outer) a (Zc cls d) (h3.push { cls := .type "tuple", data := .seq [c1, c2].toArray }) := by
      obtain ⟨f1, f2, f3, oe, ws, T, oT, ts, he, hc, hd, h1, hn, hne, hT, hdT, h3'⟩ := fl3
      exact ⟨fun b o q => kp b o (f1 b o q), f2, f3.of_keeps fun b o q _ => ⟨o, kp b o q, rfl⟩, oe, ws, T, oT, ts, kp _ _ he, hc, hd, h1, hn, hne, kp _ _ hT, hdT, h3'⟩
    have up3' : s'.heap.UpToSlots (h3.push { cls := .type "tuple", data := .seq [c1, c2].toArray }) := up3.trans (Heap.UpToSlots.of_keeps kp)
    cases b with
    | true =>
      refine codeAny_handlers_suite_as ?_
      refine HandSPX.lands_againZ fl3' fun h4 fl4 up4 => ?_
      have J4 : Inv X pins σ' H' { s' with heap := h4 } := J.landed nb fl4.1 ((up.trans up3').trans up4) os ag
      obtain ⟨oe4, vs4, he4, hz4, hd4⟩ := fl4.there
      have S4 := J4.suite he4 hd4 na nL nF
      refine store_ok (X := X.suite a ((a, oe4) :: (X.pn ++ pins))) (v := .ref a) S4 hN hi hloc rfl (fun s5 S5 => ?_) (.inr hln)
      obtain ⟨C, hC, hnx⟩ := hyes rfl a na
      have hst : PSs (X.suite a ((a, oe4) :: (X.pn ++ pins))) [.Assign [.Name y py] (.Name n pn') pa] _ := pss_one (ps_set (X := X.suite a ((a, oe4) :: (X.pn ++ pins))) (i := j) hN hj (.inl hly) (pe_var (pos := pn') (i := i) hi (.inl hln) hd1 hd2) hsw (.inr hly))
      have hlen : i < σ'.length := by
        have e1 := J.len
        have e2 := (List.getElem?_eq_some_iff.mp hi).1
        rw [e1]; exact e2
      refine wpAny_mono (hst.run [] s5 _ H' { nx := fun σ6 H6 => σ6 = (σ'.set i (some (.ref a))).set j (some (.ref a)) ∧ H6 = H', rt := fun _ _ => False } S5 ⟨.ref a, by rw [List.getElem?_set_self hlen], rfl, rfl⟩) (fun f s6 hsp => ?_) (fun _ _ z => False.elim z)
      cases f with
      | next =>
        obtain ⟨σ6, H6, S6, q6⟩ := hsp
        obtain ⟨rfl, rfl⟩ := q6
        have T6 : Inv X ((a, oe4) :: pins) ((σ'.set i (some (.ref a))).set j (some (.ref a))) H6 s6 := ⟨ok, S6.os, S6.bare, S6.base, S6.loc, S6.cell, S6.free, S6.freeC, fun p hp => S6.pin p (by
          rw [List.append_nil]
          rcases List.mem_append.mp hp with z | z
          · exact List.mem_cons_of_mem _ (List.mem_append_left _ z)
          · rcases List.mem_cons.mp z with z | z
            · rw [z]; exact List.mem_cons_self
            · exact List.mem_cons_of_mem _ (List.mem_append_right _ z)), S6.hok, S6.len⟩
        refine gone_ok T6 hN hi hln fun s7 J7 => ⟨_, _, inv_hold (C := C) J7 (hz4.1.trans hC) hz4.2 hd4 ?_ fun p hp z => ?_, hnx⟩
        · cases e : X.s_0.heap.get? a with
          | none => rfl
          | some o =>
            exfalso
            obtain ⟨o', q⟩ : ∃ o', sI.heap.get? a = some o' := by
              exact J.base.there a o e (by rw [hex]; exact fun z => nomatch z)
            rw [nI] at q
            cases q
        · obtain ⟨e, _⟩ := J.pin p hp
          rw [z, nI] at e
          cases e
      | brk =>
        obtain ⟨σ6, H6, S6, q6⟩ := hsp
        exact q6.elim
      | cont =>
        obtain ⟨σ6, H6, S6, q6⟩ := hsp
        exact q6.elim
      | ret u =>
        obtain ⟨v6, σ6, H6, S6, r6, q6⟩ := hsp
        exact q6.elim
    | false =>
      show wpAny _ X.A (handleBy (.ref a) X.env []) _ _ _
      refine wpAny_handleBy_nil ?_
      obtain ⟨k1, k2, k3, oe, vs, T, oT, ts', he, hz, hd, h1, hr⟩ := id fl3'
      unfold PySem.passOn
      refine wpAny_bind (wpAny_field he hd h1 ?_)
      rw [if_neg (show ¬ ((Value.ref T == Value.none) = true) from by simp)]
      have fin : wpAny (model X.prog X.w) X.A (setFlight (.ref a) X.env.frame) (fun _ s4 => wpAny (model X.prog X.w) X.A (throw (.ref a) : Sem Flow) (SP X pins D) X.xe s4) X.xe { s' with heap := h3.push { cls := .type "tuple", data := .seq [c1, c2].toArray } } := by
        rw [hf]
        refine HandSPX.setFlight_upZ fl3' fun h4 hh4 up4 => wpAny_throw (tk _ _ ?_)
        exact ⟨a, B, sI, pins, σ', H', cls, d, rfl, J, nb, (up.trans up3').trans up4, .inr (.inr (by rw [hs]; exact hh4)), na, os, ag, hno rfl⟩
      first
        | exact wpAny_bind (wpAny_pure (wpAny_bind fin))
        | exact wpAny_bind fin
  · cases f with
    | next =>
      obtain ⟨σ', H', J', q⟩ := hsp
      exact wpAny_execs_nil ⟨σ', H', J'.ofTry ok, q⟩
    | brk =>
      obtain ⟨σ', H', J', q⟩ := hsp
      exact ⟨σ', H', J'.ofTry ok, q⟩
    | cont =>
      obtain ⟨σ', H', J', q⟩ := hsp
      exact ⟨σ', H', J'.ofTry ok, q⟩
    | ret u =>
      obtain ⟨v, σ', H', J', r, q⟩ := hsp
      exact ⟨v, σ', H', J'.ofTry ok, r, q⟩
end
end BW

set_option Elab.async false
set_option linter.all false
set_option maxRecDepth 100000
set_option maxHeartbeats 4000000
namespace BW
open PySem PySem.Spec PyProof.Rows L2
/-! ### an exception as a value: its class is asked, its field is read -/
section
open PySem.W PySem.Calls
variable {prog : Program} {w : World} {A : Around} {E : Value → Shared → Prop} {s : Shared} {K : Frag} {x D : Addr} {ox : Obj}
theorem xo_find {od : Option Obj} (c : ExcC K D) : findObj K D od "__class__" = some (.bind (.builtin "getset_descriptor.__get__") (.builtin "object.__class__")) := by
  obtain ⟨cd, hc, _⟩ := any_some c.hd
  simp [findObj, hc, c.ha, c.hn, c.ht]
theorem xo_class {od : Option Obj} {Q : Option Value → Shared → Prop} (c : ExcC K D) (X : K.In s.heap) (I : InstAt s.heap x ox D od) (h : Q (some (.ref D)) { s with toks := s.toks + 1 }) : wpAny (model prog w) A (getAttr? (.ref x) "__class__") Q E s := by
  obtain ⟨hp, g, d, t, os⟩ := s
  have ty := I.type (M := model prog w)
  have lg := looks_findIn (M := model prog w) X c.hg
  have lk := looks_findIn (M := model prog w) X c.hk
  have lf := looks_find (M := model prog w) X I (xo_find (od := od) c)
  have isB : Looks (model prog w) hp (isInstance (.ref x) (.type "BaseException")) true := ty.andThen (looks_subIn X c.hs)
  have ne : (Value.builtin "BaseException.__getattribute__" == Value.builtin "object.__getattribute__") = false := by decide +kernel
  unfold getAttr? getAttrBy? getAttrBy
  refine wpAny_bind (wpAny_mkText (wpAny_bind (wpAny_attempt (wpAny_holding (wpAny_bind (ty.at (wpAny_bind (lg.at ?_))))))))
  refine KFB.if_not (by rw [ne, Bool.and_false]) ?_
  unfold getAttrByItsOwn hookBefore
  refine wpAny_bind (KFB.if_so rfl (lk.at ?_))
  refine wpAny_bind (wpAny_attempt (wpAny_holding ?_))
  unfold callGetattribute
  refine KFB.if_not rfl ?_
  unfold boundAndCalled
  rw [PySem.F.excAttr_ValueError.ga.bind (.ref x)]
  refine wpAny_bind (wpAny_pure ?_)
  show wpAny _ _ (call (.builtin "BaseException.__getattribute__") [.ref x, .str "__class__" t]) _ _ _
  refine wpAny_call (codeAny_call_builtin PySem.F.excAttr_ValueError.ga.plain PySem.F.entry_bexc_ga ?_)
  refine @check_slot (model prog w) _ _ ⟨hp, g, d, t + 1, os⟩ "BaseException.__getattribute__" "BaseException" "__getattribute__" (.ref x) [.str "__class__" t] [] _ (by decide +kernel) (by decide +kernel) isB (PySem.F.args_bexc_ga (.ref x) (.str "__class__" t)) ?_
  unfold Builtin.«object.__getattribute__»
  refine wpAny_bind (wpAny_of_eq (a := ((Value.ref x : Value), [Value.str "__class__" t])) (by first | rfl | (simp only [slotArgs]; rfl)) ?_)
  refine wpAny_bind (wpAny_pure (wpAny_bind (ty.at (wpAny_bind (lf.at ?_)))))
  show wpAny _ _ (holding [Value.builtin "object.__class__"] (call (.builtin "getset_descriptor.__get__") [.builtin "object.__class__", .ref x, .ref D]) >>= ret) _ _ _
  refine wpAny_bind (wpAny_holding (wpAny_call (class_get (s := ⟨hp, g, d, t + 1, os⟩) (ox := ox) (od := od) X I c.hm ?_)))
  refine wpAny_pure ?_
  show wpAny _ _ (handedOut (.ref D)) _ _ _
  rw [handedOut_of (v := .ref D) rfl]
  first
    | exact wpAny_pure (wpAny_pure h)
    | exact wpAny_pure h
    | exact wpAny_pure (wpAny_bind (wpAny_pure (wpAny_pure h)))
theorem xo_kit {od : Option Obj} (c : ExcC K D) : KitX K (.ref x) (.ref D) (fun h => InstAt h x ox D od) := by
  have ho : ∃ cc dd cd sl, K.lookup D = some ⟨cc, dd, .cls cd, sl⟩ := by
    obtain ⟨cd, hc, _⟩ := any_some c.hd
    unfold clsIn at hc
    split at hc
    · rename_i ho; exact ⟨_, _, _, _, ho⟩
    · cases hc
  obtain ⟨cc, dd, cd, sl, ho⟩ := ho
  refine ⟨fun _ _ _ I => I.type, fun _ _ X _ A' Q' E' s' k q => ?_, fun h tp dd its n sl X htp => ?_, fun X I k => xo_class c X I k⟩
  · unfold isType loadHead
    exact wpAny_bind (wpAny_loadPart (k _ _ (X _ _ ho)) (wpAny_pure q))
  · refine Bool.eq_false_iff.mpr fun q => ?_
    have e : D = tp := Value.ref.inj (beq_iff_eq.mp q)
    subst e
    have z := (X _ _ ho).symm.trans htp
    cases z
end
variable [Tb]
def xNames : List Str := ["BadBonds", "BadWord", "BadRow", "BadDeed", "BadNumber", "Unlike", "BadChoice", "BadText", "NothingLeft", "Endless", "TooGreat"]
/-- what is known of the own exception classes -/
structure XOne (K : PySem.W.Frag) (mg : Str → Option Value) (c : Str) (C : Addr) : Prop where
  ec : ExcC K C
  fld : ∀ f, fieldOf c = some f → PySem.W.findIn K (.ref C) f = some none
  own : ∀ c' ∈ xNames, ∀ C', mg c' = some (.ref C') → PySem.W.kitOne K (.ref C) (.ref C') = some (decide (c = c'))
  base : ∀ CB, mg "BondError" = some (.ref CB) → PySem.W.kitOne K (.ref C) (.ref CB) = some (decide (c ≠ "TooGreat"))
  ve : PySem.W.kitOne K (.ref C) (.type "ValueError") = some (decide (c ≠ "TooGreat"))
  ov : PySem.W.kitOne K (.ref C) (.type "OverflowError") = some (decide (c = "TooGreat"))
  exm : ∀ CB CT, mg "BondError" = some (.ref CB) → mg "TooGreat" = some (.ref CT) → PySem.W.exmAny K (.ref C) [.ref CB, .ref CT] = some true
def XAll (K : PySem.W.Frag) (mg : Str → Option Value) : Prop := (∃ CB, mg "BondError" = some (.ref CB)) ∧ (∃ CT, mg "TooGreat" = some (.ref CT)) ∧ ∀ c ∈ xNames, ∀ C, mg c = some (.ref C) → XOne K mg c C
section
variable {X : Cx} {W : Wx}
/-- a value that is an exception -/
theorem xo_at {pins : List (Addr × Obj)} {σ : L2.St} {H : Hp} {s : Shared} {r : List Addr} {v : V} {c : Str} {xs : List D} (I : Inv X pins σ H s) (q : RelU X.K X.mg r H v (.exc c xs)) : ∃ a C ox od, v = .ref a ∧ X.mg c = some (.ref C) ∧ PySem.W.InstAt s.heap a ox C od := by
  cases q with
  | val q => cases q with
    | @exc0 c a C hm hn ha =>
      obtain ⟨⟨o, vs, h1, h2, h3, h4⟩, _, _⟩ := I.hok a _ ha
      exact ⟨a, C, o, none, rfl, hm, h1, h2, by unfold PySem.W.notCls; rw [h4], by rw [h3]; trivial⟩
    | @exc1 c f a C dx v x hm hf hn hdn ha hd q =>
      obtain ⟨⟨o, vs, h1, h2, h3, h4⟩, _, _⟩ := I.hok a _ ha
      obtain ⟨mA, ⟨od, es, ep, e1, _⟩, _⟩ := (show ObjOk X.prog X.w H s.heap dx (.xd [(f, v)]) from I.hok dx _ hd)
      exact ⟨a, C, o, some od, rfl, hm, h1, h2, by unfold PySem.W.notCls; rw [h4], by rw [h3]; exact e1⟩
def rIsX (K : PySem.W.Frag) (mg : Str → Option Value) : List V → Hp → VK → Prop := fun xs H Q => ∃ (x c : V) (u : Value) (b : Bool) (r : List Addr) (n : Str) (ds : List D), xs = [x, c] ∧ ClsV c u ∧ RelU K mg r H x (.exc n ds) ∧ (∀ C, mg n = some (.ref C) → ExcC K C ∧ PySem.W.kitOne K (.ref C) u = some b) ∧ Q (.bl b) H
theorem call_isX : CallR X (.builtin "isinstance") (rIsX X.K X.mg) := by
  intro pins s σ H xs us Q I r h
  obtain ⟨x, c, u, b, rr, n, ds, rfl, k, ty, e, q⟩ := h
  obtain ⟨u1, u2, rfl, r1, r2⟩ := vals2 r
  have e2 := k.eq r2
  subst e2
  obtain ⟨a, C, ox, od, rfl, hm, J⟩ := xo_at I ty
  obtain rfl : u1 = Value.ref a := r1
  obtain ⟨ec, ek⟩ := e C hm
  exact PySem.W.kia_one (xo_kit ec) I.kIn J ek (fun z => nomatch z) fun tk => ⟨.bl b, H, I.tok tk, rfl, q⟩
def evIsX (t : Str → Bool) (f : Ev) : Ev := fun e h => (f e h).bind fun d h1 => match d with
  | .exc c _ => if c ∈ xNames then .ok (.bl (t c)) h1 else .stuck
  | _ => .stuck
theorem rd_isX {σ : L2.St} {H : Hp} {Q : VK} {t : Str → Bool} {f : Ev} {cv : V} {u : Value} (hc : ClsV cv u) (hk : ∀ c ∈ xNames, ∀ C, X.mg c = some (.ref C) → ExcC X.K C ∧ PySem.W.kitOne X.K (.ref C) u = some (t c)) (q : rdE X.K X.mg W (evIsX t f) σ H Q) :
    rdE X.K X.mg W f σ H fun v H1 => rIsX X.K X.mg [v, cv] H1 Q := by
  obtain ⟨r, e, h, er, hr, ok⟩ := q
  unfold evIsX at ok
  refine rdE_bind er hr ok fun d h1 v r1 H1 s1 hr1 t1 er1 ok1 => ?_
  split at ok1
  · rename_i c ds
    split at ok1
    · rename_i hz
      exact ⟨v, cv, u, t c, r1, c, ds, rfl, hc, t1.u, fun C hC => hk c hz C hC, ok1 _ r1 H1 (Step.refl _ _) hr1 (.val (.bl _))⟩
    · exact ok1.elim
  · exact ok1.elim
/-- isinstance(e, C), C an own exception class -/
theorem den_isX {x : Str} {a : Expr} {p p2 pos : Pos} {f : Ev} (XA : XAll X.K X.mg) (hx : ∃ C, X.mg x = some (.ref C)) (hg : Gl X "isinstance") (hm : X.mg "isinstance" = none) (hg2 : Gl X x) (ha : DenE X W a f) (hxn : x ∈ xNames := by decide)
    (hdb2 : (x == ("__debug__" : Str)) = false := by decide)
    (he : starEach [a, .Name x p2] X.env = (false, eval a X.env) :: starEach [.Name x p2] X.env := by rfl) (hpl : (backTo pos (starEach [.Name x p2] X.env)).any (·.1) = false := by rfl) (he2 : starEach [.Name x p2] X.env = (false, eval (.Name x p2) X.env) :: starEach [] X.env := by rfl) :
    DenE X W (.Call (.Name "isinstance" p) [a, .Name x p2] [] pos) (evIsX (fun c => decide (c = x)) f) := by
  obtain ⟨C', hC'⟩ := hx
  refine PE.imp (pe_callB call_isX hg hm (by decide +kernel) (pa_cons ha (pa_cons (pe_glob (v := .ref C') hg2 hC' rfl hdb2) pa_nil he2) he) (by decide) (by decide) he hpl) fun σ H Q q => ?_
  exact rd_isX (.own C') (fun c hc C hC => ⟨(XA.2.2 c hc C hC).ec, (XA.2.2 c hc C hC).own x hxn C' hC'⟩) q
theorem den_isXB {a : Expr} {p p2 pos : Pos} {f : Ev} (XA : XAll X.K X.mg) (hg : Gl X "isinstance") (hm : X.mg "isinstance" = none) (hg2 : Gl X "BondError") (ha : DenE X W a f)
    (he : starEach [a, .Name "BondError" p2] X.env = (false, eval a X.env) :: starEach [.Name "BondError" p2] X.env := by rfl) (hpl : (backTo pos (starEach [.Name "BondError" p2] X.env)).any (·.1) = false := by rfl) (he2 : starEach [.Name "BondError" p2] X.env = (false, eval (.Name "BondError" p2) X.env) :: starEach [] X.env := by rfl) :
    DenE X W (.Call (.Name "isinstance" p) [a, .Name "BondError" p2] [] pos) (evIsX (fun c => decide (c ≠ "TooGreat")) f) := by
  obtain ⟨CB, hCB⟩ := XA.1
  refine PE.imp (pe_callB call_isX hg hm (by decide +kernel) (pa_cons ha (pa_cons (pe_glob (v := .ref CB) hg2 hCB rfl) pa_nil he2) he) (by decide) (by decide) he hpl) fun σ H Q q => ?_
  exact rd_isX (.own CB) (fun c hc C hC => ⟨(XA.2.2 c hc C hC).ec, (XA.2.2 c hc C hC).base CB hCB⟩) q
theorem den_isXV {a : Expr} {p p2 pos : Pos} {f : Ev} (XA : XAll X.K X.mg) (hg : Gl X "isinstance") (hm : X.mg "isinstance" = none) (hg2 : Gl X "ValueError") (hm2 : X.mg "ValueError" = none) (ha : DenE X W a f)
    (he : starEach [a, .Name "ValueError" p2] X.env = (false, eval a X.env) :: starEach [.Name "ValueError" p2] X.env := by rfl) (hpl : (backTo pos (starEach [.Name "ValueError" p2] X.env)).any (·.1) = false := by rfl) (he2 : starEach [.Name "ValueError" p2] X.env = (false, eval (.Name "ValueError" p2) X.env) :: starEach [] X.env := by rfl) :
    DenE X W (.Call (.Name "isinstance" p) [a, .Name "ValueError" p2] [] pos) (evIsX (fun c => decide (c ≠ "TooGreat")) f) :=
  PE.imp (pe_callB call_isX hg hm (by decide +kernel) (pa_cons ha (pa_cons (pe_bltn (v := .ty "ValueError") hg2 hm2 (by decide +kernel) rfl) pa_nil he2) he) (by decide) (by decide) he hpl) fun σ H Q q => rd_isX (.ty "ValueError") (fun c hc C hC => ⟨(XA.2.2 c hc C hC).ec, (XA.2.2 c hc C hC).ve⟩) q
theorem den_isXO {a : Expr} {p p2 pos : Pos} {f : Ev} (XA : XAll X.K X.mg) (hg : Gl X "isinstance") (hm : X.mg "isinstance" = none) (hg2 : Gl X "OverflowError") (hm2 : X.mg "OverflowError" = none) (ha : DenE X W a f)
    (he : starEach [a, .Name "OverflowError" p2] X.env = (false, eval a X.env) :: starEach [.Name "OverflowError" p2] X.env := by rfl) (hpl : (backTo pos (starEach [.Name "OverflowError" p2] X.env)).any (·.1) = false := by rfl) (he2 : starEach [.Name "OverflowError" p2] X.env = (false, eval (.Name "OverflowError" p2) X.env) :: starEach [] X.env := by rfl) :
    DenE X W (.Call (.Name "isinstance" p) [a, .Name "OverflowError" p2] [] pos) (evIsX (fun c => decide (c = "TooGreat")) f) :=
  PE.imp (pe_callB call_isX hg hm (by decide +kernel) (pa_cons ha (pa_cons (pe_bltn (v := .ty "OverflowError") hg2 hm2 (by decide +kernel) rfl) pa_nil he2) he) (by decide) (by decide) he hpl) fun σ H Q q => rd_isX (.ty "OverflowError") (fun c hc C hC => ⟨(XA.2.2 c hc C hC).ec, (XA.2.2 c hc C hC).ov⟩) q
/-- e.f -/
def evFld (f : Str) (g : Ev) : Ev := fun e h => (g e h).bind fun d h1 => match d with
  | .exc c [x] => if c ∈ xNames ∧ fieldOf c = some f then .ok x h1 else .stuck
  | _ => .stuck
theorem den_fld {f : Str} {ex : Expr} {pos : Pos} {g : Ev} (XA : XAll X.K X.mg) (he : DenE X W ex g) (hb : attributeBase ex f X.env (eval ex X.env) = eval ex X.env := by rfl) : DenE X W (.Attribute ex f pos) (evFld f g) := by
  refine ⟨fun pins s σ H Q I hq => ?_⟩
  obtain ⟨r, e, h, er, hr, ok⟩ := hq
  unfold evFld at ok
  refine attr_of hb (thn (he.run pins s σ H (fun v H1 => ∃ r1 c x h1, HRel X.K X.mg r1 h1 H1 ∧ RelU X.K X.mg r1 H1 v (.exc c [x]) ∧ c ∈ xNames ∧ fieldOf c = some f ∧ ∀ v', Rel X.K X.mg r1 H1 v' x → Q v' H1) I ?_) fun u s1 hh => ?_)
  · refine rdE_bind er hr ok fun d h1 v r1 H1 s1 hr1 t1 er1 ok1 => ?_
    split at ok1
    · rename_i c x
      split at ok1
      · rename_i hz
        exact ⟨r1, c, x, h1, hr1, t1.u, hz.1, hz.2, fun v' q => ok1 v' r1 H1 (Step.refl _ _) hr1 (.val q)⟩
      · exact ok1.elim
    · exact ok1.elim
  · obtain ⟨v, H1, I1, rv, r1, c, x, h1, hr1, t1, hc, hf, k⟩ := hh
    cases t1 with
    | val q => cases q with
      | @exc1 c f' a C dx v x hm hf' hn hdn ha hd q =>
        rw [hf] at hf'
        cases hf'
        obtain rfl : u = Value.ref a := rv
        have XO := XA.2.2 c hc C hm
        obtain ⟨⟨o, vs, h1, h2, h3, h4⟩, _, _⟩ := I1.hok a _ ha
        obtain ⟨mA, hns, hrr⟩ := (show ObjOk X.prog X.w H1 s1.heap dx (.xd [(f, v)]) from I1.hok dx _ hd)
        obtain ⟨od, ho, hl⟩ := lookIn_ns hns
        obtain ⟨u, hu, ru⟩ := RelO.some_of (v := v) (o := mA f) (by have := hrr f; simpa using this)
        have J : PySem.W.InstAt s1.heap a o C (some od) := ⟨h1, h2, by unfold PySem.W.notCls; rw [h4], by rw [h3]; exact ho⟩
        exact HandSPX.exc_get I1.kIn J XO.ec.hg XO.ec.hk XO.ec.hs (PySem.W.findObj_own XO.ec.hd (XO.fld f hf) rfl (by rw [hl, hu])) (handed_of ru) ⟨v, H1, I1.tok _, ru, k v q⟩
/-! ### try: .. except (BondError, TooGreat) as n: y = n -/
def svTryHold (fb : Sv) (i j : Nat) : Sv := fun e h => match fb e h with
  | .exc (.exc c xs) e' h' => if c ∈ xNames then .nx ((e'.set j (some (.exc c xs))).set i none) h' else .stuck
  | .exc _ _ _ => .stuck
  | o => o
theorem set_set_none {α : Type} (σ : List (Option α)) (i j : Nat) (v : Option α) : (((σ.set i v).set j v).set i none) = (σ.set j v).set i none := by
  by_cases h : i = j
  · subst h; simp
  · rw [List.set_comm _ _ h, List.set_set]
theorem ERel.dropS {K : PySem.W.Frag} {mg : Str → Option Value} {r : List Addr} {e : Env} {σ : L2.St} {H : Hp} (q : ERel K mg r e σ H) (i : Nat) : ERel K mg r (e.set i none) (σ.set i none) H := by
  refine ⟨by rw [List.length_set, List.length_set]; exact q.len, fun j y hy => ?_⟩
  by_cases hj : i = j
  · subst hj
    rw [List.getElem?_set] at hy
    simp only [if_true] at hy
    split at hy <;> cases hy
  · rw [List.getElem?_set_ne hj] at hy ⊢
    exact q.at_ j y hy
theorem den_tryHold {n y : Str} {i j kk : Nat} {body : List Stmt} {fb : Sv} {np1 np2 tp py pn' pa pos pos' : Pos} (XA : XAll X.K X.mg) (hs : X.stack = X.env :: X.outer) (hex : X.ex = []) (hf : X.env.frame = some X.env.locals) (hN : X.N.Nodup) (hi : X.N[i]? = some n) (hj : X.N[j]? = some y)
    (hln : X.env.scope.names.lookup n = some .local) (hly : X.env.scope.names.lookup y = some .local) (hg1 : Gl X "BondError") (hg2 : Gl X "TooGreat") (tk : Takes X W)
    (hb : ∀ (W' : WX) (pn : List (Addr × Obj)) (xe : Value → Shared → Prop), Takes (X.tr pn xe) W' → PassesOwn (model X.prog X.w) X.A X.env xe → DenB (X.tr pn xe) W' body fb)
    (hsw : swapsWith (.Name n pn') (some (.Name y py)) pa.line X.env = pure false) (hd1 : (n == ("__debug__" : Str)) = false := by decide) (hd2 : (n == ("__classdict__" : Str)) = false := by decide) :
    DenS X W (.Try body [.ExceptHandler (some (.Tuple [.Name "BondError" np1, .Name "TooGreat" np2] kk tp)) (some n) [.Assign [.Name y py] (.Name n pn') pa] pos'] [] [] pos) (svTryHold fb i j) := by
  obtain ⟨CB, hCB⟩ := XA.1
  obtain ⟨CT, hCT⟩ := XA.2.1
  refine PS.imp (ps_try_hold (tb := fun W' => rdS X.K X.mg W' fb) hs hex hf hN hi hj hln hly (c1 := .ref CB) (c2 := .ref CT) ⟨hg1, by decide, .inl hCB⟩ ⟨hg2, by decide, .inl hCT⟩ tk hb hsw hd1 hd2) fun D σ H ⟨r, e, h, er, hr, ok⟩ => ⟨r, e, h, er, hr, ?_⟩
  unfold svTryHold at ok
  cases hfb : fb e h with
  | stuck => rw [hfb] at ok; exact ok
  | nx e' h' => rw [hfb] at ok; exact ok
  | ret d h' => rw [hfb] at ok; exact ok
  | brk e' h' => rw [hfb] at ok; exact ok
  | cont e' h' => rw [hfb] at ok; exact ok
  | exc x e' h' =>
    rw [hfb] at ok
    cases x with
    | exc c xs =>
      dsimp only at ok
      split at ok
      · rename_i hc
        intro cv dx σ' r' H' s er' hr' xr
        refine ⟨true, ?_, fun _ a ha => ?_, fun z => nomatch z⟩
        · cases xr with
          | e0 hm => exact (XA.2.2 c hc _ hm).exm CB CT hCB hCT
          | e1 hm hf _ _ _ => exact (XA.2.2 c hc _ hm).exm CB CT hCB hCT
        · rw [set_set_none]
          cases xr with
          | @e0 c C hm =>
            refine ⟨C, rfl, ?_⟩
            have s2 : Step r' H' r' (upd H' a (XO a C none)) := Step.alloc ha
            exact ok _ r' _ (s.trans s2) (((er'.mono s2.mn).set j (.exc0 hm (fun z => hr'.there z ha) upd_same)).dropS i) (hr'.alloc ha fun ps z => by unfold XO at z; cases z)
          | @e1 c f C dx v x hm hf hdn hd q =>
            refine ⟨C, rfl, ?_⟩
            have s2 : Step r' H' r' (upd H' a (XO a C (some dx))) := Step.alloc ha
            have ne : dx ≠ a := ne_of_none hd ha
            exact ok _ r' _ (s.trans s2) (((er'.mono s2.mn).set j (.exc1 hm hf (fun z => hr'.there z ha) hdn upd_same (by rw [upd_ne ne]; exact hd) (q.mono s2.mn))).dropS i) (hr'.alloc ha fun ps z => by unfold XO at z; cases z)
      · exact ok.elim
    | _ => exact ok.elim
end
end BW

set_option Elab.async false
set_option linter.all false
set_option maxRecDepth 100000
set_option maxHeartbeats 4000000
namespace BW
open PySem PySem.Spec PyProof.Rows L2
/-! ### a lambda, with a default or without, is made and handed to a def that calls it -/
abbrev lfn (qual : Str) (params : Arguments) (body : Expr) (scope : Scope) (cl : List (Str × Addr)) (dV pm cdv ct : Value) : FuncData :=
  { name := "<lambda>", qualname := qual, params, body := .expr body, scope, globals := mainGlobals, closure := cl, defaults := dV, kwdefaults := .none, doc := .none, pyModule := pm, annotations := none, code := cdv, closureTuple := ct, builtins := builtinsNs }
abbrev lobj (qual : Str) (params : Arguments) (body : Expr) (scope : Scope) (cl : List (Str × Addr)) (dV pm : Value) (cdv : Value) (ct : Value) : Obj := { cls := .type "function", data := .func (lfn qual params body scope cl dV pm cdv ct) }
section
open PySem.W
variable {M : Model} {A : Around} {E : Value → Shared → Prop} {s : Shared} {qual : Str} {params : Arguments} {body : Expr} {scope : Scope} {env : PySem.Env} {c P : Addr} {ps : Array Value} {pos : Pos} {firstLine : Nat} {mg : Str → Option Value}
  {clos : List (Str × Addr)} {Q : Value → Shared → Prop} {dV : Value}
/-- the closure's tuple, if there is one -/
theorem lclos (hcl : closureFor scope env = pure clos) {k : Value → Sem Value} (h : ∀ ctv h1, (∀ b o, s.heap.get? b = some o → h1.get? b = some o) → s.heap.objs.size ≤ h1.objs.size → wpAny M A (k ctv) Q E { s with heap := h1 }) :
    wpAny M A (if clos.isEmpty = true then (pure .none >>= k) else (newTextTuple ((clos.mergeSort fun a b => a.1.cps.toList ≤ b.1.cps.toList).map (.ref ·.2)) >>= k)) Q E s := by
  cases clos with
  | nil => exact wpAny_bind (wpAny_pure (h .none s.heap (fun _ _ e => e) (Nat.le_refl _)))
  | cons q r =>
    refine wpAny_bind (wpAny_newTextTuple (h _ _ (fun b o e => Heap.get?_push_of_some _ e) ?_))
    rw [Heap.size_push]
    exact Nat.le_succ _
theorem lmiss (hcl : closureFor scope env = pure clos) (hge0 : env.globals = mainGlobals) (hg : s.heap.Ns mainGlobals mg) (hcode : env.code = .ref c) (C : CodeHd s.heap c P) (hP : s.heap.get? P = some (tabObj ps)) (ht : TriplesOk ps.toList)
    (hnf : codeAmong pos ps.toList = none) (hgP : mainGlobals ≠ P) (hb : s.heap.BuiltinsAt mg P)
    (h : ∀ c' ctv h' tk, Heap.ExtBut P s.heap h' → s.heap.objs.size ≤ c' → c' < h'.objs.size → h'.CodeRec (.ref c') qual → h'.get? P = some (tabObj (ps ++ #[rawInt pos.line, rawInt pos.col, .ref c'])) →
      Q (.ref h'.objs.size) { s with heap := h'.push (lobj qual params body scope clos dV ((mg "__name__").getD .none) (.ref c') ctv), toks := tk }) :
    wpAny M A (makeTail "<lambda>" qual params (.expr body) scope env dV .none none pos firstLine) Q E s := by
  obtain ⟨bm, ob, hbm, hne0, _, hneP, hbo, hcls, hdict, hdata⟩ := hb
  unfold makeTail
  rw [hcl, hge0]
  refine wpAny_bind (wpAny_pure ?_)
  dsimp only
  refine lclos hcl fun ctv h1 k1 hsz => ?_
  refine wpAny_bind (wpAny_functionCodeX hcode ((C.keeps k1).code (k1 _ _ hP) ht) ((C.keeps k1).tab (k1 _ _ hP)) hnf fun c' h' tk hx hge hlt _ hrec htb _ => ?_)
  have hg' := (hg.keeps k1).extBut hx hgP
  have hx' : Heap.ExtBut P s.heap h' := fun b o hb' e => hx b o hb' (k1 b o e)
  refine wpAny_bind (wpAny_builtinsFor hg' hbm hne0 (hx' _ _ hneP hbo) hcls hdict hdata ?_)
  refine wpAny_bind (wpAny_nsGet hg' ?_)
  exact wpAny_bind (wpAny_pure (wpAny_newObj_type (h c' ctv h' tk hx' (Nat.le_trans hsz hge) hlt hrec htb.2) (by size_fits)))
theorem lhit {cv : Value} (hcl : closureFor scope env = pure clos) (hge0 : env.globals = mainGlobals) (hg : s.heap.Ns mainGlobals mg) (hcode : env.code = .ref c) (C : CodeHd s.heap c P) (hP : s.heap.get? P = some (tabObj ps)) (ht : TriplesOk ps.toList)
    (hf : codeAmong pos ps.toList = some cv) (hb : s.heap.BuiltinsAt mg P)
    (h : ∀ (ctv : Value) (h' : Heap) (tk : Tok), (∀ b o, s.heap.get? b = some o → h'.get? b = some o) → s.heap.objs.size ≤ h'.objs.size →
      Q (.ref h'.objs.size) { s with heap := h'.push (lobj qual params body scope clos dV ((mg "__name__").getD .none) cv ctv), toks := tk }) :
    wpAny M A (makeTail "<lambda>" qual params (.expr body) scope env dV .none none pos firstLine) Q E s := by
  obtain ⟨bm, ob, hbm, hne0, _, hneP, hbo, hcls, hdict, hdata⟩ := hb
  unfold makeTail
  rw [hcl, hge0]
  refine wpAny_bind (wpAny_pure ?_)
  dsimp only
  refine lclos hcl fun ctv h1 k1 hsz => ?_
  refine wpAny_bind (wpAny_functionCode_hit hcode ((C.keeps k1).code (k1 _ _ hP) ht) hf ?_)
  refine wpAny_bind (wpAny_builtinsFor (hg.keeps k1) hbm hne0 (k1 _ _ hbo) hcls hdict hdata ?_)
  refine wpAny_bind (wpAny_nsGet (hg.keeps k1) ?_)
  exact wpAny_bind (wpAny_pure (wpAny_newObj_type (h ctv h1 s.toks k1 hsz) (by size_fits)))
end
/-- a table may have grown by one new code object -/
def Grow (T : List (Addr × Str)) (H H1 : Hp) : Prop := H1 = H ∨ ∃ (P : Addr) (q : Str) (ps ps' : Array Value) (c' : Addr), (P, q) ∈ T ∧ H P = some (.tbl ps) ∧ H c' = none ∧ H1 = upd (upd H P (.tbl ps')) c' (LamX.CodeO c' q) ∧ TriplesOk ps'.toList ∧
  ∀ (pos : Pos) (cv : Value), codeAmong pos ps'.toList = some cv → codeAmong pos ps.toList = some cv ∨ cv = .ref c'
section
variable {X : Cx} {pins : List (Addr × Obj)} {σ : L2.St} {H : Hp} {s : Shared}
/-- the function object is made, its code object new or found in the table -/
theorem lmake {T : List (Addr × Str)} {c P : Addr} {params : Arguments} {body : Expr} {scope : Scope} {pos : Pos} {dV : Value} {E : Value → Shared → Prop} {Q : Value → Shared → Prop} (I : Inv X pins σ H s) (TB : LamX.TabB X.base X.mg c P) (hcode : X.env.code = .ref c)
    (hm : (P, X.env.qual ++ "<lambda>") ∈ T) (hu : ∀ p ∈ T, p.1 = P → p.2 = X.env.qual ++ "<lambda>") (hT : LamX.Tabs T H) (hfree : ∀ y ∈ scope.names, y.2 = .free → ∃ c, X.env.cells.lookup y.1 = some c)
    (h : ∀ (f c' : Addr) (pm ctv : Value) (H1 : Hp) (s' : Shared), Inv X pins σ H1 s' → Grow T H H1 → (∀ b o, s.heap.get? b = some o → H b = none → s'.heap.get? b = some o ∧ H1 b = none) →
      s'.heap.get? f = some (lobj (X.env.qual ++ "<lambda>") params body scope (cloFrom X.env.cells scope.names []) dV pm (.ref c') ctv) → H1 f = none → f ∉ frs X.stack → H1 c' = some (LamX.CodeO c' (X.env.qual ++ "<lambda>")) → Q (.ref f) s') :
    wpAny (model X.prog X.w) X.A (makeTail "<lambda>" (X.env.qual ++ "<lambda>") params (.expr body) scope X.env dV .none none pos pos.line) Q E s := by
  obtain ⟨ps, hP, ht, ha⟩ := hT _ hm
  have bP : s.heap.BuiltinsAt X.mg P := TB.bm.keeps I.bk
  have hP' : s.heap.get? P = some { cls := .none, data := .fields ps } := I.hok P _ hP
  have nofr : ∀ f, s.heap.objs.size ≤ f → f ∉ frs X.stack := fun f hf z => by
    rcases List.mem_cons.mp (I.stkSub _ z) with e | e
    · exact Nat.lt_irrefl _ (Nat.lt_of_lt_of_le (e ▸ I.lt) hf)
    · exact I.nofs hf e
  cases hc : codeAmong pos ps.toList with
  | none =>
    refine lmiss (mg := X.mg) (c := c) (P := P) (ps := ps) (closure_ok hfree) I.ok.glob (I.mod.glob.keeps I.bk) hcode (TB.code.keeps I.bk) hP' ht hc TB.gP bP fun c' ctv h' tk hx hge hlt hrec htb => ?_
    obtain ⟨c2, oc, vs, t, e2, hoc, hd, hv⟩ := hrec
    cases e2
    have hsz : s.heap.objs.size ≤ h'.objs.size := Nat.le_trans hge (Nat.le_of_lt hlt)
    have nC : H c' = none := I.hok.fresh hge
    have I1 := LamX.inv_table (t' := tk) (more := #[rawInt pos.line, rawInt pos.col, .ref c']) (h' := h'.push (lobj (X.env.qual ++ "<lambda>") params body scope (cloFrom X.env.cells scope.names []) dV ((X.mg "__name__").getD .none) (.ref c') ctv)) I hP
      (fun b o hb e => Heap.get?_push_of_some _ (hx b o hb e)) (Heap.get?_push_of_some _ htb) hge ⟨oc, vs, t, Heap.get?_push_of_some _ hoc, hd, hv⟩
    have eL : (ps ++ #[rawInt pos.line, rawInt pos.col, .ref c']).toList = ps.toList ++ [rawInt pos.line, rawInt pos.col, .ref c'] := by simp
    refine h h'.objs.size c' ((X.mg "__name__").getD .none) ctv _ _ I1 (.inr ⟨P, _, ps, _, c', hm, hP, nC, rfl, by rw [eL]; exact PySem.TriplesOk_snoc _ _ _ _ ht, fun p' cv hcv => ?_⟩) (fun b o e n => ?_) (Heap.get?_push_size _ rfl) ?_ (nofr _ hsz) upd_same
    · rw [eL] at hcv
      exact LamX.among_app _ ht hcv
    · have n1 : b ≠ P := fun z => by rw [z, hP] at n; cases n
      have n2 : b ≠ c' := Nat.ne_of_lt (Nat.lt_of_lt_of_le (Heap.lt_size e) hge)
      exact ⟨Heap.get?_push_of_some _ (hx b o n1 e), by rw [upd_ne n2, upd_ne n1]; exact n⟩
    · have n1 : h'.objs.size ≠ c' := Nat.ne_of_gt hlt
      have n2 : h'.objs.size ≠ P := Nat.ne_of_gt (Nat.lt_of_lt_of_le (Heap.lt_size hP') hsz)
      rw [upd_ne n1, upd_ne n2]
      exact I.hok.fresh hsz
  | some cv =>
    obtain ⟨c', e, hco⟩ := ha pos cv hc
    subst e
    refine lhit (mg := X.mg) (c := c) (P := P) (ps := ps) (closure_ok hfree) I.ok.glob (I.mod.glob.keeps I.bk) hcode (TB.code.keeps I.bk) hP' ht hc bP fun ctv h' tk hx hsz => ?_
    have I1 : Inv X pins σ H { s with heap := h'.push (lobj (X.env.qual ++ "<lambda>") params body scope (cloFrom X.env.cells scope.names []) dV ((X.mg "__name__").getD .none) (.ref c') ctv), toks := tk } := I.kept fun b o e => Heap.get?_push_of_some _ (hx b o e)
    exact h h'.objs.size c' ((X.mg "__name__").getD .none) ctv H _ I1 (.inl rfl) (fun b o e n => ⟨Heap.get?_push_of_some _ (hx b o e), n⟩) (Heap.get?_push_size _ rfl) (I.hok.fresh hsz) (nofr _ hsz) hco
end
/-! ### the lambda's names: own parameters, captured ones, globals -/
structure LamO (N : List Str) (sc scope : Scope) (own : List Str) (ix : List Nat) : Prop where
  kind : scope.kind = .function
  co : scope.isCoroutine = false
  gen : scope.isGenerator = false
  names : ∀ y ∈ scope.names, y.2 ≠ .cell ∧ (y.2 = .local → y.1 ∈ own)
  loc : ∀ y ∈ own, scope.names.lookup y = some .local
  no : ∀ i y, N[i]? = some y → y ∈ own → i ∈ ix
  free : ∀ y ∈ scope.names, y.2 = .free → sc.names.lookup y.1 = some .cell ∨ sc.names.lookup y.1 = some .free
def lamOB (N : List Str) (sc scope : Scope) (own : List Str) (ix : List Nat) : Bool :=
  decide (scope.kind = .function) && (!scope.isCoroutine && (!scope.isGenerator && ((scope.names.all fun y => !decide (y.2 = .cell) && ((!decide (y.2 = .local) || own.contains y.1) && (!decide (y.2 = .free) || (decide (sc.names.lookup y.1 = some .cell) || decide (sc.names.lookup y.1 = some .free))))) && ((own.all fun y => decide (scope.names.lookup y = some .local)) && (List.range N.length).all fun i => !(own.contains (N.getD i "")) || ix.contains i))))
theorem lamO_by {N : List Str} {sc scope : Scope} {own : List Str} {ix : List Nat} (h : lamOB N sc scope own ix = true) : LamO N sc scope own ix := by
  unfold lamOB at h
  simp only [Bool.and_eq_true, Bool.or_eq_true, Bool.not_eq_true', decide_eq_true_eq, decide_eq_false_iff_not, List.all_eq_true, List.contains_iff_mem] at h
  obtain ⟨h1, h2, h3, h4, h5, h6⟩ := h
  refine ⟨h1, h2, h3, fun y hy => ⟨(h4 y hy).1, fun e => ?_⟩, fun y hy => h5 y hy, fun i y hi hy => ?_, fun y hy e => ?_⟩
  · rcases (h4 y hy).2.1 with z | z
    · exact absurd e z
    · exact z
  · obtain ⟨hl, e⟩ := List.getElem?_eq_some_iff.mp hi
    rcases h6 i (List.mem_range.mpr hl) with z | z
    · rw [Bool.eq_false_iff] at z
      refine absurd (List.contains_iff_mem.mpr ?_) z
      rw [List.getD_eq_getElem?_getD, hi]
      exact hy
    · exact z
  · rcases (h4 y hy).2.2 with z | z
    · exact absurd e z
    · exact z
theorem LamO.has {X : Cx} {scope : Scope} {own : List Str} {ix : List Nat} (L : LamO X.N X.env.scope scope own ix) (ok : X.Ok) : ∀ y ∈ scope.names, y.2 = .free → ∃ c, X.env.cells.lookup y.1 = some c := fun y hy e => by
  rcases L.free y hy e with k | k
  · exact ok.has _ (.inl k)
  · exact ok.has _ (.inr k)
section
variable {X : Cx} {pins : List (Addr × Obj)} {σ : L2.St} {H HZ : Hp} {s s1 : Shared}
theorem wipe_len (σ : L2.St) : ∀ ix : List Nat, (L2.wipe σ ix).length = σ.length
  | [] => rfl
  | i :: ix => by
    show ((L2.wipe σ ix).set i none).length = _
    rw [List.length_set, wipe_len σ ix]
theorem wipe_get {σ : L2.St} {i : Nat} {v : V} : ∀ {ix : List Nat}, (L2.wipe σ ix)[i]? = some (some v) → i ∉ ix ∧ σ[i]? = some (some v)
  | [], e => ⟨List.not_mem_nil, e⟩
  | j :: ix, e => by
    have e' : ((L2.wipe σ ix).set j none)[i]? = some (some v) := e
    by_cases hj : j = i
    · subst hj
      rw [List.getElem?_set] at e'
      simp only [if_true] at e'
      split at e' <;> cases e'
    · rw [List.getElem?_set_ne hj] at e'
      obtain ⟨h1, h2⟩ := wipe_get e'
      exact ⟨fun z => by
        rcases List.mem_cons.mp z with z | z
        · exact hj z.symm
        · exact h1 z, h2⟩
theorem lstart {A : Around} {outer : List PySem.Env} {E : XK} {scope : Scope} {own : List Str} {ix : List Nat} {f c' : Addr} {h₁ : Heap} {tk : Nat} {m : Str → Option Value} (I : Inv X pins σ H s) (L : LamO X.N X.env.scope scope own ix) (e0 : Env0 X.prog X.w X.K X.mg X.base A outer s1 HZ) (hd : A.handled = none)
    (un : Un (frs X.stack) [] H HZ s.heap s1.heap) (hns : h₁.Ns s1.heap.objs.size m) (kp : ∀ b o, s1.heap.get? b = some o → h₁.get? b = some o) :
    Inv (LamX.lamCx X A outer s1 HZ E scope f c') [] (L2.wipe σ ix) HZ { s1 with heap := h₁, toks := tk } := by
  have hfree := L.has I.ok
  have cm : ∀ {y c}, (cloFrom X.env.cells scope.names []).lookup y = some c → X.env.cells.lookup y = some c := fun {y c} e => by
    rcases cloFrom_mem (PySem.mem_of_lookup e) with hm | ⟨h1, h2⟩
    · cases hm
    · obtain ⟨c1, hc⟩ := hfree _ h1 rfl
      have hc' : X.env.cells.lookup y = some c1 := hc
      rw [show c = c1 by rw [h2, hc'] <;> rfl]
      exact hc'
  have look : ∀ {y}, scope.names.lookup y = some .free → ∃ c, (cloFrom X.env.cells scope.names []).lookup y = some c := fun {y} hl =>
    mem_lookup (cloFrom_has (cells := X.env.cells) (acc := []) (PySem.mem_of_lookup hl))
  have cellK : ∀ {c : Addr} {v : Option Value}, H c = none → s.heap.IsCell c v → h₁.IsCell c v := fun {c v} n ⟨o, ho, hd⟩ => by
    obtain ⟨sl, q⟩ := un.any ho n (by simp)
    exact ⟨_, kp _ _ q, hd⟩
  have noA : ∀ b : Addr, b ∉ (LamX.lamCx X A outer s1 HZ E scope f c').ex := fun b z => absurd (show b ∈ ([] : List Addr) from z) (by simp)
  refine ⟨⟨e0.mod, L.kind, rfl, rfl, Nat.le_refl _, fun y z c e1 e2 => I.ok.inj y z c (cm e1) (cm e2), fun y hy => ?_, fun y c z _ => ?_, fun _ => hd, Around.frames_deeper e0.frames, .inr ⟨rfl, rfl⟩, fun b z => absurd z (noA b), e0.bs, e0.bsz, fun b _ _ => noA b,
      fun b z => absurd z (noA b), e0.funs, e0.frf⟩,
    rfl, e0.bare, Un.kept kp, ⟨_, hns, fun i y v e1 e2 e3 => ?_⟩, fun y c e => ?_, e0.hok.fresh (Nat.le_refl _), fun y c e => ?_, fun q hq => absurd (show q ∈ ([] : List (Addr × Obj)) ++ [] from hq) (by simp), e0.hok.kept kp, by rw [wipe_len]; exact I.len⟩
  · rcases (show scope.names.lookup y = some .cell ∨ scope.names.lookup y = some .free from hy) with hy | hy
    · exact absurd rfl (L.names _ (PySem.mem_of_lookup hy)).1
    · exact look hy
  · exact absurd (show false = true from z) Bool.false_ne_true
  · rcases (show Vis scope y from e3) with k | k | k
    · exact absurd (L.no i y e1 ((L.names _ (PySem.mem_of_lookup k)).2 rfl)) (wipe_get e2).1
    · exact absurd rfl (L.names _ (PySem.mem_of_lookup k)).1
    · obtain ⟨m', hn, hl⟩ := I.loc
      have hvis : Vis X.env.scope y := (L.free _ (PySem.mem_of_lookup k) rfl).elim (fun k => .inr (.inl k)) (fun k => .inr (.inr k))
      obtain ⟨w', r, q⟩ := hl i y v e1 (wipe_get e2).2 hvis
      obtain ⟨c2, h2⟩ := look k
      refine ⟨w', r, .inr ⟨.inr k, c2, h2, ?_⟩⟩
      have c1 := cm h2
      rcases q with ⟨k', _⟩ | ⟨_, c3, e', z⟩
      · have k' : X.env.scope.names.lookup y = some .local := k'
        rcases L.free _ (PySem.mem_of_lookup k) rfl with k2 | k2 <;> rw [show X.env.scope.names.lookup y = _ from k2] at k' <;> cases k'
      · rw [c1] at e'
        cases e'
        exact cellK (I.freeC y _ c1) z
  · obtain ⟨w', z⟩ := I.cell y c (cm e)
    exact ⟨w', cellK (I.freeC y c (cm e)) z⟩
  · obtain ⟨v, o, ho, hd⟩ := I.cell y c (cm e)
    exact un.free c o ho (I.freeC y c (cm e)) (by simp)
/-- a(), in the def that got the lambda -/
theorem pe_actS {CXg : CXT} {Eg : XK} {Ng : List Str} {qg : Str} {sg : Scope} {g f c' : Addr} {cdg pm ctv dV : Value} {params : Arguments} {body : Expr} {scope : Scope} {own : List Str} {ix : List Nat} {binds : List (Str × Value)} {k i : Nat} {a : Str} {pn : List (Addr × Obj)} {xe : Value → Shared → Prop} {W : WX} {t : XK → TE} {p1 p2 : Pos}
    (I : Inv X pins σ H s) (L : LamO X.N X.env.scope scope own ix) (hf : s.heap.get? f = some (lobj (X.env.qual ++ "<lambda>") params body scope (cloFrom X.env.cells scope.names []) dV pm (.ref c') ctv)) (hfn : H f = none) (hfr : f ∉ frs X.stack)
    (hbind : ∀ s1 : Shared, (∀ b o, s.heap.get? b = some o → H b = none → b ∉ frs X.stack → s1.heap.get? b = some o) → BindsTo s1 (lfn (X.env.qual ++ "<lambda>") params body scope (cloFrom X.env.cells scope.names []) dV pm (.ref c') ctv) ⟨[], []⟩ binds) (hbl : ∀ y ∈ binds, scope.names.lookup y.1 = some .local)
    (tk : Takes ((cxOf CXg X.prog X.w X.K X.mg X.base Ng qg sg g cdg X.A X.stack s H Eg).tr pn xe) W) (hr : Room (k + 1) (X.A.deeper (envOfC qg sg s.heap.objs.size g cdg)))
    (hbody : ∀ (A : Around) (outer : List PySem.Env) (s : Shared) (H : Hp) (E : XK), Room k (A.deeper (LamX.lamEnv X scope s.heap.objs.size f c')) → PE (LamX.lamCx X A outer s H E scope f c') body (t E))
    (hN : Ng[i]? = some a) (hv : Vis sg a) (hd : (a == ("__debug__" : Str)) = false := by decide) (hcd : (a == ("__classdict__" : Str)) = false := by decide) :
    PE ((cxOf CXg X.prog X.w X.K X.mg X.base Ng qg sg g cdg X.A X.stack s H Eg).tr pn xe) (.Call (.Name a p1) [] [] p2)
      (fun σZ HZ Q => σZ[i]? = some (some (.ref f)) ∧ HZ c' = some (LamX.CodeO c' (X.env.qual ++ "<lambda>")) ∧ t (fun cls d H' => W cls d σZ H') (L2.wipe σ ix) HZ Q) := by
  refine ⟨fun pinsZ sZ σZ HZ Q IZ ⟨hs, hc, ht⟩ => ?_⟩
  refine wpAny_Call_Name_kw (thn ((pe_var (pos := p1) (i := i) hN hv hd hcd).run pinsZ sZ σZ HZ (fun v H1 => v = .ref f ∧ H1 = HZ) IZ ⟨.ref f, hs, rfl, rfl⟩) fun u s1 ⟨v, H1, I1, r1, q1⟩ => ?_)
  obtain ⟨ev, eH⟩ := q1
  subst ev
  rw [eH] at I1
  obtain rfl : u = Value.ref f := r1
  have un : Un (frs X.stack) [] H HZ s.heap s1.heap := I1.base
  have kept : ∀ b o, s.heap.get? b = some o → H b = none → b ∉ frs X.stack → s1.heap.get? b = some o := fun b o e n hb => un.keep b o e n hb (fun z => nomatch z)
  have of1 := kept f _ hf hfn hfr
  refine PySem.W.callWith_F0 ⟨_, _, _, _, of1⟩ ?_
  obtain ⟨⟨oc, vs, tt, hoc, hdc, hvc⟩, _, _⟩ := I1.hok c' _ hc
  have rc : codeAny (model X.prog X.w) (X.A.deeper (envOfC qg sg s.heap.objs.size g cdg)) (.call (.ref f) ⟨[], []⟩) (CR (L2.CX X.prog X.w) (envOfC qg sg s.heap.objs.size g cdg :: X.stack) X.prog X.w HZ s1 Q (fun cls d H' => W cls d σZ H')) s1 := by
    refine PySem.W.kla_callFunE hr.depth of1 rfl L.co L.gen rfl ⟨c', oc, vs, tt, rfl, hoc, hdc, hvc⟩ (hbind s1 kept _ _ _ _ ?_)
    refine wpAny_newFunctionEnv (fun y hy => (L.names y hy).1) hbl (fun h₁ hns hsb => ⟨I1.nolimit.fresh _ hsb, ?_⟩) L.kind
    show codeAny _ _ (.expr body (LamX.lamEnv X scope s1.heap.objs.size f c')) _ _
    have kp : ∀ b o, s1.heap.get? b = some o → h₁.get? b = some o := fun b o e => hsb.extBut b o (Nat.ne_of_lt (Heap.lt_size e)) (Heap.get?_push_of_some _ e)
    have J := lstart (E := fun cls d H' => W cls d σZ H') (f := f) (c' := c') (tk := s1.toks + binds.length) I L I1.env0 hr.hd un hns kp
    refine PySem.W.kla_codeExpr (wpAny_mono ((hbody _ _ s1 HZ _ (hr.deeper _)).run [] _ _ HZ Q J ht) (fun v s' hq => ?_) fun e s' hq => hq)
    obtain ⟨w', H', J', rv, q⟩ := hq
    exact ⟨w', H', J'.os, J'.bare, J'.base, J'.hok, rv, q⟩
  refine wpAny_call (codeAny_mono rc fun r s' hq => ?_)
  cases r with
  | error e => exact tk e s' (XE.of_call I1 (fun cls d H' h => h) hq)
  | ok fl =>
    cases fl with
    | ret u => exact I1.after hq
    | next => exact False.elim hq
    | brk => exact False.elim hq
    | cont => exact False.elim hq
end
/-- the lambda's default, if it has one -/
def DflOk (env : PySem.Env) (params : Arguments) (own : List Str) : Option (Str × Int) → Prop
  | none => defaultsOf params env = ([], []) ∧ own = []
  | some (n, v) => ∃ j pd, defaultsOf params env = ([eval (.Constant (.int v) j pd) env], []) ∧ own = [n] ∧ params.kwonlyargs = []
def BindOk (params : Arguments) (body : Expr) (scope : Scope) (q : Str) (cl : List (Str × Addr)) (dV pm cv ctv : Value) (s1 : Shared) : Option (Str × Int) → Prop
  | none => dV = .none → BindsTo s1 (lfn q params body scope cl dV pm cv ctv) ⟨[], []⟩ []
  | some (n, v) => ∀ td tk, dV = .ref td → s1.heap.get? td = some { cls := .type "tuple", data := .seq #[.int v tk] } → BindsTo s1 (lfn q params body scope cl dV pm cv ctv) ⟨[], []⟩ [(n, .int v tk)]
/-- the def x that calls what it got, whatever calls it: TT is what it makes of the lambda's reading -/
def GivesS (X : Cx) (Ng : List Str) (x : Str) (sg : Scope) (g : Addr) (cdg : Value) (bg : List Stmt) (a : Str) (TT : (XK → Hp → VK → Prop) → Hp → VK → Prop) : Prop :=
  ∀ (f c' : Addr) (q : Str) (s : Shared) (H : Hp) (Q : VK) (tl : XK → Hp → VK → Prop),
    (∀ (W : WX) (pn : List (Addr × Obj)) (xe : Value → Shared → Prop) (p1 p2 : Pos), Takes ((cxOf C8.CX0 X.prog X.w X.K X.mg X.base Ng x sg g cdg X.A X.stack s H C8.E0).tr pn xe) W →
      PE ((cxOf C8.CX0 X.prog X.w X.K X.mg X.base Ng x sg g cdg X.A X.stack s H C8.E0).tr pn xe) (.Call (.Name a p1) [] [] p2) (fun σZ HZ Q => σZ[0]? = some (some (.ref f)) ∧ HZ c' = some (LamX.CodeO c' q) ∧ tl (fun cls d H' => W cls d σZ H') HZ Q)) →
    H c' = some (LamX.CodeO c' q) → TT tl H Q →
    ∃ t, PSs (cxOf C8.CX0 X.prog X.w X.K X.mg X.base Ng x sg g cdg X.A X.stack s H C8.E0).nox bg t ∧ t { nx := fun _ H' => Q .non H', rt := Q } (L2.start Ng [.ref f]) H
section
variable {X : Cx}
/-- x(lambda: body), x(lambda n=0: body) -/
theorem pe_lam {T : List (Addr × Str)} {TT : (XK → Hp → VK → Prop) → Hp → VK → Prop} {x a : Str} {g c P : Addr} {k : Nat} {pg : Arguments} {bg : List Stmt} {sg : Scope} {dG kV doc pm cdv ct oc : Value} {an od : Option Addr} {osl : Array (Option Value)} {Ng : List Str}
    {params : Arguments} {body : Expr} {scope : Scope} {own : List Str} {ix : List Nat} {dfl : Option (Str × Int)} {t : XK → TE} {p lpos pos : Pos} (hg : Gl X x) (hm : X.mg x = some (.ref g)) (hk : PySem.W.keepIn X.K (.ref g) = true)
    (lk : X.K.lookup g = some ⟨oc, od, .func (PySem.W.fnOf x x pg bg sg dG kV doc pm an cdv ct), osl⟩) (hcg : PySem.W.codeIn X.K cdv x = true) (hb : L2.Binds X.K (PySem.W.fnOf x x pg bg sg dG kV doc pm an cdv ct) [a] []) (Sg : FnScope Ng [a] sg) (hNg : Ng[0]? = some a) (hva : Vis sg a)
    (hG : GivesS X Ng x sg g cdv bg a TT)
    (TB : LamX.TabB X.base X.mg c P) (hcode : X.env.code = .ref c) (hmT : (P, X.env.qual ++ "<lambda>") ∈ T) (hu : ∀ p ∈ T, p.1 = P → p.2 = X.env.qual ++ "<lambda>") (hr : Room (k + 2) X.A) (L : LamO X.N X.env.scope scope own ix)
    (hdef : DflOk X.env params own dfl) (hbind : ∀ (q : Str) (cl : List (Str × Addr)) (dV pm cv ctv : Value) (s1 : Shared), BindOk params body scope q cl dV pm cv ctv s1 dfl)
    (hbody : ∀ (A : Around) (outer : List PySem.Env) (s : Shared) (H : Hp) (E : XK) (f c' : Addr), Room k (A.deeper (LamX.lamEnv X scope s.heap.objs.size f c')) → PE (LamX.lamCx X A outer s H E scope f c') body (t E))
    (hdb : (x == ("__debug__" : Str)) = false := by decide) (hd : (a == ("__debug__" : Str)) = false := by decide) (hcd : (a == ("__classdict__" : Str)) = false := by decide) :
    PE X (.Call (.Name x p) [.Lambda params body scope lpos] [] pos) (fun σ H Q => LamX.Tabs T H ∧ ∀ H1, Grow T H H1 → TT (fun E H' Q' => t E (L2.wipe σ ix) H' Q') H1 Q) := by
  refine ⟨fun pins s σ H Q I ⟨hT, h⟩ => ?_⟩
  refine wpAny_Call_Name_kw (ld_glob I hg hm ?_ hdb)
  refine PySem.W.callWith_K (h₀ := X.base) I.ok.mod.kin hk ?_ (by rfl) (by rfl)
  show wpAny _ _ (spliced ((false, eval (.Lambda params body scope lpos) X.env) :: backTo pos (starEach [] X.env))) _ _ s
  have last : ∀ (dV : Value) (f c' : Addr) (pm' ctv : Value) (H1 : Hp) (s' : Shared) (binds : List (Str × Value)), Inv X pins σ H1 s' → Grow T H H1 → s'.heap.get? f = some (lobj (X.env.qual ++ "<lambda>") params body scope (cloFrom X.env.cells scope.names []) dV pm' (.ref c') ctv) → H1 f = none → f ∉ frs X.stack → H1 c' = some (LamX.CodeO c' (X.env.qual ++ "<lambda>")) →
      (∀ s1 : Shared, (∀ b o, s'.heap.get? b = some o → H1 b = none → b ∉ frs X.stack → s1.heap.get? b = some o) → BindsTo s1 (lfn (X.env.qual ++ "<lambda>") params body scope (cloFrom X.env.cells scope.names []) dV pm' (.ref c') ctv) ⟨[], []⟩ binds) → (∀ y ∈ binds, scope.names.lookup y.1 = some .local) →
      wpAny (model X.prog X.w) X.A (spliced (backTo pos (starEach [] X.env))) (fun vs s₁ => X.K.In s₁.heap ∧ wpAny (model X.prog X.w) X.A (call (.ref g) ([] ++ (Value.ref f :: vs))) (fun v s'' => EP X pins σ Q v s'') X.xe s₁) X.xe s' := by
    intro dV f c' pm' ctv H1 s' binds I1 eN hf hfn hfr hco hbd hbl
    refine Calls.spliced_nil ⟨I1.kIn, ?_⟩
    have rc : codeAny (model X.prog X.w) X.A (.call (.ref g) ⟨[.ref f], []⟩) (CR C8.CX0 X.stack X.prog X.w H1 s' Q C8.E0) s' := by
      refine LamX.run_ofS (N := Ng) (ps := [a]) (us := [.ref f]) (vs := [.ref f]) lk hcg Sg hr I1.env0 (hb s' [.ref f] I1.kIn rfl) (.cons rfl .nil) rfl fun hr' => ?_
      obtain ⟨t', ht', hq'⟩ := hG f c' (X.env.qual ++ "<lambda>") s' H1 Q (fun E H' Q' => t E (L2.wipe σ ix) H' Q') (fun W pn xe p1 p2 tk => pe_actS (i := 0) I1 L hf hfn hfr hbd hbl tk hr' (fun A outer s H E hr2 => hbody A outer s H E f c' hr2) hNg hva hd hcd) hco (h H1 eN)
      exact ⟨t', ht'.nox, hq'⟩
    refine wpAny_call (codeAny_mono rc fun r s2 hq => ?_)
    cases r with
    | error e => exact (show False from hq).elim
    | ok fl =>
      cases fl with
      | ret u => exact I1.after hq
      | next => exact False.elim hq
      | brk => exact False.elim hq
      | cont => exact False.elim hq
  refine Calls.spliced_cons ?_
  rw [arm_eval_Lambda]
  cases dfl with
  | none =>
    obtain ⟨hdef, ho⟩ := hdef
    rw [hdef]
    show wpAny _ _ (do let dv ← evalAll []; let kdv ← holding dv (evalAllOpt []); makeFunction "<lambda>" (X.env.qual ++ "<lambda>") params (.expr body) scope X.env dv kdv [] lpos lpos.line) _ _ s
    refine wpAny_bind (wpAny_pure (wpAny_bind (wpAny_holding (wpAny_pure ?_))))
    rw [makeFunction_eq]
    simp only [List.zip_nil_right, List.filterMap_nil, List.isEmpty_nil, if_true, pure_bind]
    refine lmake I TB hcode hmT hu hT (L.has I.ok) fun f c' pm' ctv H1 s' I1 eN _ hf hfn hfr hco => ?_
    exact last .none f c' pm' ctv H1 s' [] I1 eN hf hfn hfr hco (fun s1 _ => hbind _ _ _ _ _ _ s1 rfl) (fun y hy => by cases hy)
  | some nv =>
    obtain ⟨n, v⟩ := nv
    obtain ⟨j, pd, hdef, ho, hkw⟩ := hdef
    rw [hdef]
    show wpAny _ _ (do let dv ← evalAll [eval (.Constant (.int v) j pd) X.env]; let kdv ← holding dv (evalAllOpt []); makeFunction "<lambda>" (X.env.qual ++ "<lambda>") params (.expr body) scope X.env dv kdv [] lpos lpos.line) _ _ s
    refine wpAny_bind ?_
    show wpAny _ _ (do let v ← eval (.Constant (.int v) j pd) X.env; return v :: (← holding [v] (evalAll []))) _ _ s
    refine wpAny_bind (thn ((pe_int (X := X) (i := v) (j := j) (pos := pd)).run pins s σ H (fun x H1 => x = .int v ∧ H1 = H) I ⟨rfl, rfl⟩) fun u s0 ⟨x, H0, I0, r0, e1, e2⟩ => ?_)
    subst e1 e2
    obtain ⟨tk, rfl⟩ := r0
    refine wpAny_bind (wpAny_holding (wpAny_pure (wpAny_pure ?_)))
    refine wpAny_bind (wpAny_holding (wpAny_pure ?_))
    rw [makeFunction_eq]
    simp only [List.zip_nil_right, List.filterMap_nil, List.isEmpty_nil, List.isEmpty_cons, Bool.false_eq_true, if_false, if_true, pure_bind]
    refine wpAny_bind (wpAny_newTextTuple ?_)
    have kp : ∀ b o, s0.heap.get? b = some o → (s0.heap.push { cls := .type "tuple", data := .seq #[Value.int v tk] }).get? b = some o := fun b o e => Heap.get?_push_of_some _ e
    have I2 : Inv X pins σ H0 { s0 with heap := s0.heap.push { cls := .type "tuple", data := .seq #[Value.int v tk] } } := I0.kept (t' := s0.toks) kp
    have nt : H0 s0.heap.objs.size = none := I0.hok.fresh (Nat.le_refl _)
    have nofr : s0.heap.objs.size ∉ frs X.stack := fun z => by
      rcases List.mem_cons.mp (I0.stkSub _ z) with e | e
      · exact Nat.lt_irrefl _ (e ▸ I0.lt)
      · exact I0.nofs (Nat.le_refl _) e
    refine lmake (dV := .ref s0.heap.objs.size) I2 TB hcode hmT hu hT (L.has I.ok) fun f c' pm' ctv H1 s' I1 eN hkp hf hfn hfr hco => ?_
    obtain ⟨td1, td2⟩ := hkp s0.heap.objs.size _ (Heap.get?_push_size s0.heap rfl) nt
    exact last _ f c' pm' ctv H1 s' [(n, .int v tk)] I1 eN hf hfn hfr hco (fun s1 k1 => hbind _ _ _ _ _ _ s1 _ tk rfl (k1 _ _ td1 td2 nofr)) (fun y hy => by
      rcases List.mem_cons.mp hy with rfl | hy
      · exact L.loc n (by rw [ho]; exact List.mem_cons_self)
      · cases hy)
end
end BW

set_option Elab.async false
set_option linter.all false
set_option maxRecDepth 100000
set_option maxHeartbeats 4000000
namespace BW
open PySem PySem.Spec PyProof.Rows L2
variable [Tb]
/-! ### told(lambda: ..) -/
def Fl.out (o : Fl) (h : AH) : Out D := match o with
  | .ret d h' => fin h d h'
  | .nx _ h' => fin h .non h'
  | .exc x _ h' => finX h x h'
  | _ => .stuck
section
variable {K : PySem.W.Frag} {mg : Str → Option Value}
theorem fl_end {W : Wx} {o : Fl} {r : List Addr} {H : Hp} {h : AH} {Q : VK} {E : XK} (hr : HRel K mg r h H) (hW : ∀ c dx σ H, E c dx H → W c dx σ H) (ok : OkF K mg r H Q E (o.out h)) :
    OkS K mg W r H { nx := fun _ H' => Q .non H', rt := Q } o := by
  have := fn_end (W := W) (n := 0) (body := fun _ _ => o) (ds := []) hr hW (ok := by
    show OkF K mg r H Q E (fnD 0 (fun _ _ => o) [] h)
    have e : fnD 0 (fun _ _ => o) [] h = o.out h := by unfold fnD Fl.out; rfl
    rw [e]; exact ok)
  exact this
theorem ORel.mono2 {r : List Addr} {H H' : Hp} {a : Addr} {o : AO} (m : Mn r H r H') (ow : ∀ b y, H b = some (.own y) → b ∉ r → H' b = some (.own y)) (ha : H' a = H a) (q : ORel K mg r H a o) : ORel K mg r H' a o := by
  cases o with
  | lst xs => obtain ⟨vs, h1, h2⟩ := q; exact ⟨vs, ha.trans h1, h2.mono m⟩
  | dk xs => obtain ⟨vs, h1, h2⟩ := q; exact ⟨vs, ha.trans h1, h2.mono m⟩
  | dt xs => obtain ⟨vs, h1, h2⟩ := q; exact ⟨vs, ha.trans h1, h2.mono m⟩
  | ins c fs => obtain ⟨C, dx, vs, h0, h1, h2, h3, h4⟩ := q; exact ⟨C, dx, vs, h0, ha.trans h1, ow _ _ h2 h3, h3, h4.mono m⟩
  | sins c fs =>
    obtain ⟨C, dx, vs, h0, h1, h2, h3, h4⟩ := q
    exact ⟨C, dx, vs, h0, ha.trans h1, (m.keep _ _ h2 h3 trivial).2, h3, h4.mono m⟩
/-- an object of the list is no table -/
theorem ORel.kind {r : List Addr} {H : Hp} {a : Addr} {o : AO} (q : ORel K mg r H a o) (ps : Array Value) : H a ≠ some (.tbl ps) := by
  cases o with
  | lst xs => obtain ⟨vs, h1, _⟩ := q; rw [h1]; exact fun z => by cases z
  | dk xs => obtain ⟨vs, h1, _⟩ := q; rw [h1]; exact fun z => by cases z
  | dt xs => obtain ⟨vs, h1, _⟩ := q; rw [h1]; exact fun z => by cases z
  | ins c fs => obtain ⟨C, dx, vs, h0, h1, _⟩ := q; rw [h1]; exact fun z => by cases z
  | sins c fs => obtain ⟨C, dx, vs, h0, h1, _⟩ := q; rw [h1]; exact fun z => by unfold SlX.SlO at z; cases z
/-- each table is one def's -/
def TbUq : Prop := ∀ p ∈ Tb.T, ∀ q ∈ Tb.T, p.1 = q.1 → p.2 = q.2
theorem grow_step {r : List Addr} {h : AH} {H H1 : Hp} (hu : TbUq) (hr : HRel K mg r h H) (g : Grow Tb.T H H1) : Step r H r H1 ∧ HRel K mg r h H1 := by
  rcases g with rfl | ⟨P, q, ps, ps', c', hP, eP, ec, rfl, ht, ha⟩
  · exact ⟨Step.refl _ _, hr⟩
  have nPc : P ≠ c' := ne_of_none eP ec
  have at_ : ∀ b, b ≠ P → b ≠ c' → upd (upd H P (.tbl ps')) c' (LamX.CodeO c' q) b = H b := fun b h1 h2 => by rw [upd_ne h2, upd_ne h1]
  have nP : ∀ {b : Addr} {o : HO}, H b = some o → NoOwn o → b ≠ P := fun {b o} e no z => by
    rw [z, eP] at e
    exact no.2 ps (Option.some.inj e).symm
  have nPo : ∀ {b : Addr} {y : Addr}, H b = some (.own y) → b ≠ P := fun {b y} e z => by
    rw [z, eP] at e
    cases e
  have nc : ∀ {b : Addr} {o : HO}, H b = some o → b ≠ c' := fun {b o} e => ne_of_none e ec
  have cr : c' ∉ r := fun z => hr.there z ec
  have kp : ∀ b o, H b = some o → NoOwn o → upd (upd H P (.tbl ps')) c' (LamX.CodeO c' q) b = some o := fun b o e no => by rw [at_ b (nP e no) (nc e)]; exact e
  have m : Mn r H r (upd (upd H P (.tbl ps')) c' (LamX.CodeO c' q)) := ⟨List.prefix_refl _, fun b o e hb ho => ⟨hb, kp b o e ho.no⟩⟩
  refine ⟨⟨List.prefix_refl _, fun _ a b => absurd a b, fun b o e _ no => kp b o e no, fun b f o e => ?_⟩, hr.len, hr.nd, ⟨fun p hp => ?_⟩, fun i o a h1 h2 => (hr.obj i o a h1 h2).mono2 m (fun b y e _ => by rw [at_ b (nPo e) (nc e)]; exact e) ?_⟩
  · by_cases hb : b = P
    · subst hb; rw [eP] at e; cases e; exact ⟨ps, rfl⟩
    · exact f o (by rw [at_ b hb (nc e)]; exact e)
  · obtain ⟨ps0, h1, h2, h3, h4⟩ := hr.tbs.tab p hp
    by_cases hb : p.1 = P
    · have e2 := hu p hp (P, q) hP hb
      rw [hb] at h1 h2
      rw [eP] at h1
      cases h1
      refine ⟨ps', by rw [hb, upd_ne nPc, upd_same], by rw [hb]; exact h2, ht, fun pos cv hc => ?_⟩
      rcases ha pos cv hc with z | z
      · obtain ⟨c, e1, e3, e4⟩ := h4 pos cv z
        exact ⟨c, e1, e3, kp c _ e4 (Fixed.no (show Fixed (LamX.CodeO c p.2) from trivial))⟩
      · exact ⟨c', z, cr, by rw [upd_same, e2]⟩
    · refine ⟨ps0, by rw [at_ _ hb (nc h1)]; exact h1, h2, h3, fun pos cv hc => ?_⟩
      obtain ⟨c, e1, e3, e4⟩ := h4 pos cv hc
      exact ⟨c, e1, e3, kp c _ e4 (Fixed.no (show Fixed (LamX.CodeO c p.2) from trivial))⟩
  · have q0 := hr.obj i o a h1 h2
    rw [at_ a (fun z => by rw [← z] at eP; exact q0.kind ps eP) (fun z => q0.there (z ▸ ec))]
theorem tabs_of {r : List Addr} {h : AH} {H : Hp} (hr : HRel K mg r h H) : LamX.Tabs Tb.T H := fun p hp => by
  obtain ⟨ps, h1, h2, h3, h4⟩ := hr.tbs.tab p hp
  refine ⟨ps, h1, h3, fun pos cv hc => ?_⟩
  obtain ⟨c, e1, _, e3⟩ := h4 pos cv hc
  exact ⟨c, e1, e3⟩
end
/-- what a lambda of no arguments is worth: with the slots of the def that made it -/
abbrev Lv := AH → Out D
abbrev Fh := Lv → AH → Out D
def evAct (L : Lv) : Ev := fun _ h => L h
def evTold (ix : List Nat) (dt : Fh) (fb : Ev) : Ev := fun e h => match dt (fun h' => fb (wipeE e ix) h') h with
  | .ok d h' => .ok d h'
  | _ => .stuck
def rdTT (K : PySem.W.Frag) (mg : Str → Option Value) (dt : Fh) : (XK → Hp → VK → Prop) → Hp → VK → Prop := fun tl H Q => ∃ r h L, HRel K mg r h H ∧
  (∀ E H' Q' r' h', Step r H r' H' → HRel K mg r' h' H' → OkE K mg (fun c d _ H => E c d H) [] r' H' Q' (L h') → tl E H' Q') ∧ OkF K mg r H Q (fun _ _ _ => False) (dt L h)
theorem OkE.any {K : PySem.W.Frag} {mg : Str → Option Value} {E : XK} {σ σ' : L2.St} {r : List Addr} {H : Hp} {Q : VK} {o : Out D} (q : OkE K mg (fun c d _ H => E c d H) σ r H Q o) : OkE K mg (fun c d _ H => E c d H) σ' r H Q o := by
  cases o <;> exact q
/-- a def x of one parameter that calls what it got -/
def Told (P : Program) (w : World) (K : PySem.W.Frag) (mg : Str → Option Value) (base : Heap) (x : Str) (k : Nat) (dt : Fh) : Prop :=
  ∃ (g : Addr) (pg : Arguments) (bg : List Stmt) (sg : Scope) (dG kV doc pm cdv ct oc : Value) (an od : Option Addr) (osl : Array (Option Value)) (Ng : List Str) (a : Str), mg x = some (.ref g) ∧ PySem.W.keepIn K (.ref g) = true ∧
    K.lookup g = some ⟨oc, od, .func (PySem.W.fnOf x x pg bg sg dG kV doc pm an cdv ct), osl⟩ ∧ PySem.W.codeIn K cdv x = true ∧ L2.Binds K (PySem.W.fnOf x x pg bg sg dG kV doc pm an cdv ct) [a] [] ∧ FnScope Ng [a] sg ∧ Ng[0]? = some a ∧ Vis sg a ∧
    (a == ("__debug__" : Str)) = false ∧ (a == ("__classdict__" : Str)) = false ∧
    ∀ X : Cx, X.prog = P → X.w = w → X.K = K → X.mg = mg → X.base = base → Room (k + 1) X.A → GivesS X Ng x sg g cdv bg a (rdTT K mg dt)
section
variable {X : Cx} {W : Wx}
/-- x(lambda: ..) -/
theorem den_told {x : Str} {c P : Addr} {k j : Nat} {dt : Fh} {params : Arguments} {body : Expr} {scope : Scope} {own : List Str} {ix : List Nat} {dfl : Option (Str × Int)} {fb : Ev} {p lpos pos : Pos} (F : Told X.prog X.w X.K X.mg X.base x k dt) (hu : TbUq) (TB : LamX.TabB X.base X.mg c P) (hcode : X.env.code = .ref c) (hmT : (P, X.env.qual ++ "<lambda>") ∈ Tb.T) (hr : Room j X.A)
    (L : LamO X.N X.env.scope scope own ix)
    (hbody : ∀ (A : Around) (outer : List PySem.Env) (s : Shared) (H : Hp) (E : XK) (f c' : Addr), Room (j - 2) (A.deeper (LamX.lamEnv X scope s.heap.objs.size f c')) → Takes (LamX.lamCx X A outer s H E scope f c') (fun c d _ H => E c d H) → DenE (LamX.lamCx X A outer s H E scope f c') (fun c d _ H => E c d H) body fb)
    (hdef : DflOk X.env params own dfl) (hbind : ∀ (q : Str) (cl : List (Str × Addr)) (dV pm cv ctv : Value) (s1 : Shared), BindOk params body scope q cl dV pm cv ctv s1 dfl)
    (hjk : k + 2 ≤ j := by decide) (hg : Gl X x := by rfl) (hdb : (x == ("__debug__" : Str)) = false := by decide) :
    DenE X W (.Call (.Name x p) [.Lambda params body scope lpos] [] pos) (evTold ix dt fb) := by
  obtain ⟨g, pg, bg, sg, dG, kV, doc, pm, cdv, ct, oc, an, od, osl, Ng, a, hm, hk, lk, hcg, hb, Sg, hNg, hva, hd1, hd2, hG⟩ := F
  obtain ⟨j', rfl⟩ : ∃ j', j = j' + 2 := ⟨j - 2, by omega⟩
  refine PE.imp (pe_lam (k := j') (T := Tb.T) (dfl := dfl) (t := fun E => rdE X.K X.mg (fun c d _ H => E c d H) fb) hg hm hk lk hcg hb Sg hNg hva (hG X rfl rfl rfl rfl rfl (hr.mono (by omega))) TB hcode hmT (fun p hp e => hu p hp _ hmT e) hr L hdef hbind (fun A outer s H E f c' hr' => hbody A outer s H E f c' hr' (takes_of rfl rfl rfl rfl)) hdb hd1 hd2) fun σ H Q ⟨r, e, h, er, hr, ok⟩ => ?_
  refine ⟨tabs_of hr, fun H1 gr => ?_⟩
  obtain ⟨s1, hr1⟩ := grow_step hu hr gr
  refine ⟨r, h, fun h' => fb (wipeE e ix) h', hr1, fun E H' Q' r' h' s' hr' ok' => ⟨r', wipeE e ix, h', (er.mono (s1.trans s').mn).wipe ix, hr', ok'.any⟩, ?_⟩
  unfold evTold at ok
  have ok1 := OkE.after s1 ok
  cases hd : dt (fun h' => fb (wipeE e ix) h') h with
  | stuck => rw [hd] at ok1; exact ok1.elim
  | exc x h2 => rw [hd] at ok1; exact ok1.elim
  | ok d h2 => rw [hd] at ok1; exact fun v r' H' s' hr' t => ok1 v r' H' s' hr' (.val t)
end
end BW

set_option Elab.async false
set_option linter.all false
set_option maxRecDepth 100000
set_option maxHeartbeats 4000000
namespace BW
open PySem PySem.Spec PyProof.Rows L2
variable [Tb]
/-! ### the two defs that hear what a lambda says -/
def fnTold (n : Nat) (rest : Sv) : Fh := fun L h => (svSeq (svTryHold (svAsg (evAct L) (gvName 1)) 3 2) rest ([none, some .non, some .non] ++ List.replicate (n - 3) none) h).out h
def fnHeard (n : Nat) (rest : Sv) : Fh := fun L h => (svSeq (svTryHold (svAsg (evLst [evAct L]) (gvName 1)) 3 2) rest ([none, some (.ref h.length), some .non] ++ List.replicate (n - 3) none) (h ++ [.lst []])).out h
section
variable {X : Cx}
/-- what flies out of the lambda is caught and kept -/
theorem hold_ok {K : PySem.W.Frag} {mg : Str → Option Value} {CB CT : Addr} {r r' : List Addr} {H H' : Hp} {e : Env} {σ : L2.St} {h' : AH} {c : Str} {xs : List D} {cv : Value} {dx : Option Addr} {D' N : Ends} {fr : Sv} (XA : XAll K mg) (hCB : mg "BondError" = some (.ref CB)) (hCT : mg "TooGreat" = some (.ref CT)) (hc : c ∈ xNames)
    (hD : ∀ σ' H', rdS K mg W0 fr N σ' H' → D'.nx σ' H') (er : ERel K mg r e σ H) (s : Step r H r' H') (hr' : HRel K mg r' h' H') (xr : ExRel K mg r' H' cv dx (.exc c xs)) (ok : OkS K mg W0 r H N (fr ((e.set 2 (some (.exc c xs))).set 3 none) h')) :
    wHold K [.ref CB, .ref CT] 3 2 W0 D' cv dx σ H' := by
  refine ⟨true, ?_, fun _ a ha => ?_, fun z => nomatch z⟩
  · cases xr with
    | e0 hm => exact (XA.2.2 c hc _ hm).exm CB CT hCB hCT
    | e1 hm hf _ _ _ => exact (XA.2.2 c hc _ hm).exm CB CT hCB hCT
  · rw [set_set_none]
    have er' := er.mono s.mn
    cases xr with
    | @e0 c C hm =>
      have s2 : Step r' H' r' (upd H' a (XO a C none)) := Step.alloc ha
      refine ⟨C, rfl, hD _ _ ⟨r', _, h', ((er'.mono s2.mn).set 2 (.exc0 hm (fun z => hr'.there z ha) upd_same)).dropS 3, hr'.alloc ha (fun ps z => by unfold XO at z; cases z), OkS.after (s.trans s2) ok⟩⟩
    | @e1 c f C dx v x hm hf hdn hd q =>
      have s2 : Step r' H' r' (upd H' a (XO a C (some dx))) := Step.alloc ha
      have ne : dx ≠ a := ne_of_none hd ha
      refine ⟨C, rfl, hD _ _ ⟨r', _, h', ((er'.mono s2.mn).set 2 (.exc1 hm hf (fun z => hr'.there z ha) hdn upd_same (by rw [upd_ne ne]; exact hd) (q.mono s2.mn))).dropS 3, hr'.alloc ha (fun ps z => by unfold XO at z; cases z), OkS.after (s.trans s2) ok⟩⟩
theorem gives_told {Ng : List Str} {x a y1 y2 n : Str} {sg : Scope} {g : Addr} {cdg : Value} {rest : List Stmt} {fr : Sv} {k1 k2 k3 j1 j2 : Nat} {q1 q2 q3 q4 q5 q6 q7 q8 q9 q10 q11 q12 q13 q14 q15 q16 q17 q18 q19 : Pos} (XA : XAll X.K X.mg) (S : FnScope Ng [a] sg) (h0 : Ng[0]? = some a) (h1 : Ng[1]? = some y1) (h2 : Ng[2]? = some y2) (h3 : Ng[3]? = some n)
    (l1 : sg.names.lookup y1 = some .local) (l2 : sg.names.lookup y2 = some .local) (l3 : sg.names.lookup n = some .local) (gB : sg.names.lookup ("BondError" : Str) = some .globalImplicit) (gT : sg.names.lookup ("TooGreat" : Str) = some .globalImplicit)
    (hw : ∀ env : PySem.Env, env.scope = sg → swappedStores [.Tuple [.Name y1 q1, .Name y2 q2] k1 q3] (.Tuple [.Constant .none j1 q4, .Constant .none j2 q5] k2 q6) env = pure none)
    (hs1 : ∀ env : PySem.Env, env.scope = sg → swapsWithSole [.Tuple [.Name y1 q1, .Name y2 q2] k1 q3] (.Tuple [.Constant .none j1 q4, .Constant .none j2 q5] k2 q6) q7.line env = pure false)
    (hs2 : ∀ env : PySem.Env, env.scope = sg → swapsWith (.Name n q15) (some (.Name y2 q14)) q16.line env = pure false) (hs3 : ∀ env : PySem.Env, env.scope = sg → swapsWith (.Call (.Name a q9) [] [] q10) (some (.Name y1 q8)) q11.line env = pure false)
    (hd1 : (n == ("__debug__" : Str)) = false) (hd2 : (n == ("__classdict__" : Str)) = false)
    (hrest : ∀ s H, DenB (cxOf C8.CX0 X.prog X.w X.K X.mg X.base Ng x sg g cdg X.A X.stack s H C8.E0).nox W0 rest fr) :
    GivesS X Ng x sg g cdg (.Assign [.Tuple [.Name y1 q1, .Name y2 q2] k1 q3] (.Tuple [.Constant .none j1 q4, .Constant .none j2 q5] k2 q6) q7 ::
      .Try [.Assign [.Name y1 q8] (.Call (.Name a q9) [] [] q10) q11] [.ExceptHandler (some (.Tuple [.Name "BondError" q12, .Name "TooGreat" q13] k3 q17)) (some n) [.Assign [.Name y2 q14] (.Name n q15) q16] q18] [] [] q19 :: rest) a (rdTT X.K X.mg (fnTold Ng.length fr)) := by
  intro f c' q s H Q tl act hc hTT
  obtain ⟨r, h, L, hr, htl, ok⟩ := hTT
  obtain ⟨CB, hCB⟩ := XA.1
  obtain ⟨CT, hCT⟩ := XA.2.1
  have hlen : 4 ≤ Ng.length := by
    have := (List.getElem?_eq_some_iff.mp h3).1
    omega
  obtain ⟨m, hm⟩ : ∃ m, Ng.length = m + 4 := ⟨Ng.length - 4, by omega⟩
  have par := ps_asg (X := (cxOf C8.CX0 X.prog X.w X.K X.mg X.base Ng x sg g cdg X.A X.stack s H C8.E0).nox) (pos := q7) (tg := .Tuple [.Name y1 q1, .Name y2 q2] k1 q3) (e := .Tuple [.Constant .none j1 q4, .Constant .none j2 q5] k2 q6)
    (pe_tup (pa_cons (pe_non (j := j1) (pos := q4)) (pa_cons (pe_non (j := j2) (pos := q5)) pa_nil)))
    (pg_tup (n := 2) rfl (pgs_cons (pg_name (i := 1) S.nd h1 (.inl l1) (.inr l1)) (pgs_cons (pg_name (i := 2) S.nd h2 (.inl l2) (.inr l2)) pgs_nil))) (hs1 _ rfl) (hw _ rfl)
  refine ⟨_, pss_cons par (pss_cons (ps_try_hold (X := (cxOf C8.CX0 X.prog X.w X.K X.mg X.base Ng x sg g cdg X.A X.stack s H C8.E0).nox) (i := 3) (j := 2) (c1 := .ref CB) (c2 := .ref CT)
      (tb := fun W D σ H => σ[0]? = some (some (.ref f)) ∧ H c' = some (LamX.CodeO c' q) ∧ tl (fun cls d H' => W cls d σ H') H fun v H1 => D.nx (σ.set 1 (some v)) H1)
      rfl rfl rfl S.nd h3 h2 l3 l2 ⟨gB, by decide, .inl hCB⟩ ⟨gT, by decide, .inl hCT⟩ LamX.takes0 (fun W pn xe tk _ => ?_) (hs2 _ rfl) hd1 hd2) (hrest s H)), ?_⟩
  · exact pss_one (ps_set (i := 1) S.nd h1 (.inl l1) (act W pn xe q9 q10 tk) (hs3 _ rfl) (.inr l1))
  · refine ⟨by decide, fun p hp => ⟨p, _, rfl, .inl (.inl upd_same), rfl, _, _, rfl, _, _, rfl, rfl, ?_⟩⟩
    have sA : Step r H r (upd H p (.tup [V.non, V.non])) := Step.alloc hp
    have hrA : HRel X.K X.mg r h (upd H p (.tup [V.non, V.non])) := hr.alloc hp
    have hcA : upd H p (.tup [V.non, V.non]) c' = some (LamX.CodeO c' q) := by rw [upd_ne (ne_of_none hc hp)]; exact hc
    have e0 : (((L2.start Ng [V.ref f]).set 1 (some V.non)).set 2 (some V.non)) = [some (V.ref f), some .non, some .non] ++ List.replicate (m + 1) none := by
      unfold L2.start
      rw [hm]
      rfl
    rw [e0]
    have en : ([none, some D.non, some D.non] ++ List.replicate (Ng.length - 3) none : Env) = [none, some .non, some .non] ++ List.replicate (m + 1) none := by rw [hm]; rfl
    have er : ERel X.K X.mg r ([none, some D.non, some D.non] ++ List.replicate (m + 1) none) ([some (V.ref f), some .non, some .non] ++ List.replicate (m + 1) none) (upd H p (.tup [V.non, V.non])) := by
      refine ⟨by simp, fun i y hy => ?_⟩
      rcases i with _ | _ | _ | i
      · simp at hy
      · simp at hy; subst hy; exact ⟨.non, by simp, .non⟩
      · simp at hy; subst hy; exact ⟨.non, by simp, .non⟩
      · simp [List.getElem?_replicate] at hy
    unfold fnTold at ok
    rw [en] at ok
    have okS := OkS.after sA (fl_end (W := W0) hr (fun _ _ _ _ z => z) ok)
    refine ⟨rfl, hcA, htl _ _ _ r h sA hrA ?_⟩
    unfold svSeq svTryHold svAsg pv evAct at okS
    cases hL : L h with
    | stuck => rw [hL] at okS; exact okS.elim
    | ok d h' =>
      rw [hL] at okS
      simp only [Out.bind_ok] at okS
      intro v r' H' s' hr' t
      cases t with
      | @val v d z =>
        have e1 : promote d h' = .ok d h' := by cases z <;> rfl
        rw [e1] at okS
        exact ⟨r', _, h', (er.mono s'.mn).set 1 z, hr', OkS.after s' okS⟩
      | @tl p vs xs z1 z2 z3 z4 =>
        obtain ⟨g1, g2⟩ := push_ok hr' z2 z3 z4
        have s2 := Step.push z3 s' z1
        exact ⟨_, _, _, (er.mono s2.mn).set 1 g2, g1, OkS.after s2 okS⟩
    | exc z h' =>
      rw [hL] at okS
      cases z with
      | exc c xs =>
        simp only [Out.bind_exc, Out.toFl_exc] at okS
        by_cases hcx : c ∈ xNames
        · simp only [hcx, if_true] at okS
          intro cv dx r' H' s' hr' xr
          exact hold_ok XA hCB hCT hcx (fun _ _ z => z) er s' hr' xr okS
        · simp only [hcx, if_false] at okS
          exact okS.elim
      | _ => exact okS.elim
theorem gives_heard {Ng : List Str} {x a y1 y2 n : Str} {sg : Scope} {g : Addr} {cdg : Value} {rest : List Stmt} {fr : Sv} {k1 k2 k3 j2 : Nat} {q1 q2 q3 q4 q5 q6 q7 q8 q9 q10 q11 q12 q13 q14 q15 q16 q17 q18 q19 q20 : Pos} (XA : XAll X.K X.mg) (S : FnScope Ng [a] sg) (h0 : Ng[0]? = some a) (h1 : Ng[1]? = some y1) (h2 : Ng[2]? = some y2) (h3 : Ng[3]? = some n)
    (l1 : sg.names.lookup y1 = some .local) (l2 : sg.names.lookup y2 = some .local) (l3 : sg.names.lookup n = some .local) (gB : sg.names.lookup ("BondError" : Str) = some .globalImplicit) (gT : sg.names.lookup ("TooGreat" : Str) = some .globalImplicit)
    (hw : ∀ env : PySem.Env, env.scope = sg → swappedStores [.Tuple [.Name y1 q1, .Name y2 q2] k1 q3] (.Tuple [.List [] q4, .Constant .none j2 q5] k2 q6) env = pure (some [y1, y2]))
    (hs1 : ∀ env : PySem.Env, env.scope = sg → swapsWithSole [.Tuple [.Name y1 q1, .Name y2 q2] k1 q3] (.Tuple [.List [] q4, .Constant .none j2 q5] k2 q6) q7.line env = pure false)
    (hs2 : ∀ env : PySem.Env, env.scope = sg → swapsWith (.Name n q15) (some (.Name y2 q14)) q16.line env = pure false) (hs3 : ∀ env : PySem.Env, env.scope = sg → swapsWith (.List [.Call (.Name a q9) [] [] q10] q20) (some (.Name y1 q8)) q11.line env = pure false)
    (hd1 : (n == ("__debug__" : Str)) = false) (hd2 : (n == ("__classdict__" : Str)) = false)
    (hrest : ∀ s H, DenB (cxOf C8.CX0 X.prog X.w X.K X.mg X.base Ng x sg g cdg X.A X.stack s H C8.E0).nox W0 rest fr) :
    GivesS X Ng x sg g cdg (.Assign [.Tuple [.Name y1 q1, .Name y2 q2] k1 q3] (.Tuple [.List [] q4, .Constant .none j2 q5] k2 q6) q7 ::
      .Try [.Assign [.Name y1 q8] (.List [.Call (.Name a q9) [] [] q10] q20) q11] [.ExceptHandler (some (.Tuple [.Name "BondError" q12, .Name "TooGreat" q13] k3 q17)) (some n) [.Assign [.Name y2 q14] (.Name n q15) q16] q18] [] [] q19 :: rest) a (rdTT X.K X.mg (fnHeard Ng.length fr)) := by
  intro f c' q s H Q tl act hc hTT
  obtain ⟨r, h, L, hr, htl, ok⟩ := hTT
  obtain ⟨CB, hCB⟩ := XA.1
  obtain ⟨CT, hCT⟩ := XA.2.1
  have hlen : 4 ≤ Ng.length := by
    have := (List.getElem?_eq_some_iff.mp h3).1
    omega
  obtain ⟨m, hm⟩ : ∃ m, Ng.length = m + 4 := ⟨Ng.length - 4, by omega⟩
  have par := ps_par (X := (cxOf C8.CX0 X.prog X.w X.K X.mg X.base Ng x sg g cdg X.A X.stack s H C8.E0).nox) (pos := q7) (px := q1) (py := q2) (pt := q3) (kt := k1) (k2 := k2) (pt2 := q6) (i := 1) (j := 2) rfl S.nd h1 h2 (by decide) l1 l2
    (pa_cons (pe_lst (pos := q4) pa_nil) (pa_cons (pe_non (j := j2) (pos := q5)) pa_nil)) (hw _ rfl) (hs1 _ rfl)
  refine ⟨_, pss_cons par (pss_cons (ps_try_hold (X := (cxOf C8.CX0 X.prog X.w X.K X.mg X.base Ng x sg g cdg X.A X.stack s H C8.E0).nox) (i := 3) (j := 2) (c1 := .ref CB) (c2 := .ref CT)
      (tb := fun W D σ H => σ[0]? = some (some (.ref f)) ∧ H c' = some (LamX.CodeO c' q) ∧ tl (fun cls d H' => W cls d σ H') H fun v H1 => [v].length ≤ sizeLine ∧ ∀ p, H1 p = none → D.nx (σ.set 1 (some (.ref p))) (upd H1 p (.lst [v])))
      rfl rfl rfl S.nd h3 h2 l3 l2 ⟨gB, by decide, .inl hCB⟩ ⟨gT, by decide, .inl hCT⟩ LamX.takes0 (fun W pn xe tk _ => ?_) (hs2 _ rfl) hd1 hd2) (hrest s H)), ?_⟩
  · refine PSs.imp (pss_one (ps_set (i := 1) S.nd h1 (.inl l1) (pe_lst (pa_cons (act W pn xe q9 q10 tk) pa_nil)) (hs3 _ rfl) (.inr l1))) fun N σ H z => ?_
    obtain ⟨z1, z2, z3⟩ := z
    exact ⟨z1, z2, z3⟩
  · refine ⟨by decide, fun p hp => ⟨_, _, rfl, ?_⟩⟩
    have e0 : (((L2.start Ng [V.ref f]).set 1 (some (V.ref p))).set 2 (some V.non)) = [some (V.ref f), some (.ref p), some .non] ++ List.replicate (m + 1) none := by
      unfold L2.start
      rw [hm]
      rfl
    rw [e0]
    have en : ([none, some (D.ref h.length), some D.non] ++ List.replicate (Ng.length - 3) none : Env) = [none, some (.ref h.length), some .non] ++ List.replicate (m + 1) none := by rw [hm]; rfl
    have sA : Step r H r (upd H p (.lst [])) := Step.alloc hp
    have hpr : p ∉ r := fun z => hr.there z hp
    obtain ⟨hr1, rp⟩ := push_ok (xs := []) (hr.alloc hp) upd_same hpr .nil
    have s1 : Step r H (r ++ [p]) (upd H p (.lst [])) := Step.push hpr sA (.of hp)
    have hc1 : upd H p (.lst []) c' = some (LamX.CodeO c' q) := by rw [upd_ne (ne_of_none hc hp)]; exact hc
    have er : ERel X.K X.mg (r ++ [p]) ([none, some (D.ref h.length), some D.non] ++ List.replicate (m + 1) none) ([some (V.ref f), some (.ref p), some .non] ++ List.replicate (m + 1) none) (upd H p (.lst [])) := by
      refine ⟨by simp, fun i y hy => ?_⟩
      rcases i with _ | _ | _ | i
      · simp at hy
      · simp at hy; subst hy; exact ⟨.ref p, by simp, rp⟩
      · simp at hy; subst hy; exact ⟨.non, by simp, .non⟩
      · simp [List.getElem?_replicate] at hy
    unfold fnHeard at ok
    rw [en] at ok
    have okS := OkS.after s1 (fl_end (W := W0) hr (fun _ _ _ _ z => z) ok)
    refine ⟨rfl, hc1, htl _ _ _ (r ++ [p]) (h ++ [.lst []]) s1 hr1 ?_⟩
    unfold svSeq svTryHold svAsg pv evLst at okS
    simp only [evsV, pv, evAct] at okS
    cases hL : L (h ++ [.lst []]) with
    | stuck => rw [hL] at okS; exact okS.elim
    | ok d h' =>
      rw [hL] at okS
      simp only [Out.bind_ok] at okS
      intro v r' H' s' hr' t
      have fin : ∀ {r' : List Addr} {H' : Hp} {v : V} {d : D} {h' : AH}, Step (r ++ [p]) (upd H p (.lst [])) r' H' → HRel X.K X.mg r' h' H' → Rel X.K X.mg r' H' v d → OkS X.K X.mg W0 (r ++ [p]) (upd H p (.lst [])) { nx := fun _ H' => Q .non H', rt := Q } (fr (([none, some (D.ref h.length), some D.non] ++ List.replicate (m + 1) none).set 1 (some (.ref h'.length))) (h' ++ [.lst [d]])) →
          ∀ p', H' p' = none → rdS X.K X.mg W0 fr { nx := fun _ H' => Q .non H', rt := Q } (([some (V.ref f), some (.ref p), some .non] ++ List.replicate (m + 1) none).set 1 (some (.ref p'))) (upd H' p' (.lst [v])) := by
        intro r' H' v d h' s' hr' z okS p' hp'
        have sB : Step r' H' r' (upd H' p' (.lst [v])) := Step.alloc hp'
        have hpr' : p' ∉ r' := fun z => hr'.there z hp'
        obtain ⟨g1, g2⟩ := push_ok (xs := [d]) (hr'.alloc hp') upd_same hpr' (.cons (z.mono sB.mn) .nil)
        have s2 : Step r' H' (r' ++ [p']) (upd H' p' (.lst [v])) := Step.push hpr' sB (.of hp')
        exact ⟨_, _, _, (er.mono (s'.trans s2).mn).set 1 g2, g1, OkS.after (s'.trans s2) okS⟩
      cases t with
      | @val v d z =>
        have e1 : promote d h' = .ok d h' := by cases z <;> rfl
        rw [e1] at okS
        simp only [Out.bind_ok] at okS
        exact ⟨(show 1 ≤ sizeLine by decide), fin s' hr' z okS⟩
      | @tl p2 vs xs z1 z2 z3 z4 =>
        obtain ⟨g1, g2⟩ := push_ok hr' z2 z3 z4
        have s2 := Step.push z3 s' z1
        exact ⟨(show 1 ≤ sizeLine by decide), fin s2 g1 g2 okS⟩
    | exc z h' =>
      rw [hL] at okS
      cases z with
      | exc c xs =>
        simp only [Out.bind_exc, Out.toFl_exc] at okS
        by_cases hcx : c ∈ xNames
        · simp only [hcx, if_true] at okS
          intro cv dx r' H' s' hr' xr
          exact hold_ok XA hCB hCT hcx (fun _ _ z => z) er s' hr' xr okS
        · simp only [hcx, if_false] at okS
          exact okS.elim
      | _ => exact okS.elim
end
end BW

set_option Elab.async false
set_option linter.all false
set_option maxRecDepth 100000
set_option maxHeartbeats 4000000
namespace BW
open PySem PySem.Spec PyProof.Rows L2
/-! ### heads: what the written part says of the exception classes, by one look each -/
section
open PySem.W
def xclsB (K : Frag) (C : Addr) (B newId i : String) (bmB : List Value) : Bool :=
  excInitIn K C bmB newId && (excOver K C bmB && (hasDictIn K C && (decide (findIn K (.ref C) "__setattr__" = some (some (.builtin "object.__setattr__"))) && (decide (subIn K (.ref C) (.type B) = some true) &&
    (decide (ks_superIn K C C "__init__" = some (some (.builtin i))) && (decide (nsIn K cStatics "thirdparty.any" = some none) && (decide (mroIn K C (.ref C) = some true) && (keepIn K (.ref C) && (decide (subIn K (.ref C) (.type "BaseException") = some true) && decide (typeIn K (.ref C) = some (.type "type")))))))))))
theorem xcls_of {K : Frag} {C : Addr} {B newId i : String} {bmB : List Value} (fb : ExcBaseFacts B newId i bmB) (kf : KxsFacts B i) (sf : StoreFacts B bmB "object.__setattr__" "object") (h : xclsB K C B newId i bmB = true) :
    XCls K C B newId i bmB ∧ keepIn K (.ref C) = true ∧ subIn K (.ref C) (.type "BaseException") = some true ∧ typeIn K (.ref C) = some (.type "type") := by
  unfold xclsB at h
  simp only [Bool.and_eq_true, decide_eq_true_eq] at h
  obtain ⟨h1, h2, h3, h4, h5, h6, h7, h8, h9, h10, h11⟩ := h
  exact ⟨⟨fb, kf, sf, h1, h2, h3, h4, h5, h6, h7, h8⟩, h9, h10, h11⟩
abbrev veT : List Value := [.type "ValueError", .type "Exception", .type "BaseException", .type "object"]
abbrev ovT : List Value := [.type "OverflowError", .type "ArithmeticError", .type "Exception", .type "BaseException", .type "object"]
/-- the class's base: TooGreat is an OverflowError, the others are ValueErrors -/
def xB (K : Frag) (C : Addr) (ov : Bool) : Bool := if ov then xclsB K C "OverflowError" "OverflowError.__new__" "OverflowError.__init__" ovT else xclsB K C "ValueError" "ValueError.__new__" "ValueError.__init__" veT
theorem xB_ok {K : Frag} {C : Addr} {ov : Bool} (h : xB K C ov = true) : ∃ B newId i bmB, XCls K C B newId i bmB ∧ keepIn K (.ref C) = true ∧ subIn K (.ref C) (.type "BaseException") = some true ∧ typeIn K (.ref C) = some (.type "type") := by
  unfold xB at h
  split at h
  · exact ⟨_, _, _, _, xcls_of PySem.F.excBase_OverflowError kxs_OverflowError PySem.F.store_OverflowError h⟩
  · exact ⟨_, _, _, _, xcls_of PySem.F.excBase_ValueError kxs_ValueError PySem.F.store_ValueError h⟩
end
/-- the names of an __init__'s scope -/
def xscB (prog : Program) (params : Arguments) (scope : Scope) : Bool :=
  params.posonlyargs.isEmpty && (!(prog.main.scope.names.lookup ("super" : Str)).isSome && (decide (scope.names.lookup ("super" : Str) = some .globalImplicit) && (decide (scope.names.lookup ("__class__" : Str) = some .free) && (decide (scope.kind = .function) && (!scope.isCoroutine && (!scope.isGenerator &&
    ((scope.names.all fun x => !decide (x.2 = .cell)) && params.args.all fun x => decide (scope.names.lookup x.arg = some .local))))))))
theorem xfun_mk {P : Program} {K : PySem.W.Frag} {C fI cda cc : Addr} {qual : Str} {st : Stmt} {body : List Stmt} {oc dV kV doc pm ct : Value} {od an : Option Addr} {osl : Array (Option Value)} {vs : Array Value} {ccl cl : Value} {cdd cld : Option Addr} {ccs csl : Array (Option Value)} {tf : Tok}
    (l : K.lookup fI = some ⟨oc, od, .func (PySem.W.ksFn "__init__" qual (defArgs st) (defBody st) (defScope st) dV kV doc pm an (.ref cda) ct cc), osl⟩) (hc : PySem.W.codeIn K (.ref cda) qual = true) (lc : K.lookup cda = some ⟨ccl, cdd, .fields vs, ccs⟩) (hv : vs[2]? = some (.str P.main.file tf))
    (lcc : K.lookup cc = some ⟨cl, cld, .cell (some (.ref C)), csl⟩) (hfn : PySem.W.isFn K (.ref fI) = true) (ini : PySem.W.findIn K (.ref C) "__init__" = some (some (.ref fI))) (hb : defBody st = body) (hs : xscB P (defArgs st) (defScope st) = true)
    (hbind : ∀ (s : Shared) (us : List Value), us.length = (defArgs st).args.length → BindsTo s (PySem.W.ksFn "__init__" qual (defArgs st) (defBody st) (defScope st) dV kV doc pm an (.ref cda) ct cc) ⟨us, []⟩ (((defArgs st).args.map (·.arg)).zip us)) :
    XFun P K C fI qual (defArgs st) body (defScope st) := by
  subst hb
  unfold xscB at hs
  simp only [Bool.and_eq_true, Bool.not_eq_true', decide_eq_true_eq, List.all_eq_true, decide_eq_false_iff_not, List.isEmpty_iff] at hs
  obtain ⟨h1, h2, h3, h4, h5, h6, h7, h8, h9⟩ := hs
  exact ⟨⟨oc, od, osl, dV, kV, doc, pm, an, cda, ct, cc, vs, ccl, cdd, ccs, tf, cl, cld, csl, l, hc, lc, hv, lcc, hbind⟩, hfn, ini, h1, h2, h3, h4, h5, h6, h7, h8, h9⟩
/-- all classes at one look -/
def xoneB (K : PySem.W.Frag) (cs : List (Str × Addr)) (CB CT : Addr) (p : Str × Addr) : Bool :=
  decide (PySem.W.findIn K (.ref p.2) "__getattribute__" = some (some (.builtin "BaseException.__getattribute__"))) && (decide (PySem.W.findIn K (.ref p.2) "__getattr__" = some none) && (decide (PySem.W.subIn K (.ref p.2) (.type "BaseException") = some true) && (PySem.W.hasDictIn K p.2 &&
    (decide (PySem.W.findIn K (.ref p.2) "__class__" = some (some (.builtin "object.__class__"))) && (decide (PySem.W.specialIn K (.builtin "object.__class__") "__get__" = some (some (.builtin "getset_descriptor.__get__"))) && (decide (PySem.W.takesIn K (.builtin "object.__class__") = some true) && (decide (PySem.W.mroIn K p.2 (.type "object") = some true) &&
    ((match fieldOf p.1 with | some f => decide (PySem.W.findIn K (.ref p.2) f = some none) | none => true) && ((cs.all fun q => decide (PySem.W.kitOne K (.ref p.2) (.ref q.2) = some (decide (p.1 = q.1)))) && (decide (PySem.W.kitOne K (.ref p.2) (.ref CB) = some (decide (p.1 ≠ "TooGreat"))) &&
    (decide (PySem.W.kitOne K (.ref p.2) (.type "ValueError") = some (decide (p.1 ≠ "TooGreat"))) && (decide (PySem.W.kitOne K (.ref p.2) (.type "OverflowError") = some (decide (p.1 = "TooGreat"))) && decide (PySem.W.exmAny K (.ref p.2) [.ref CB, .ref CT] = some true)))))))))))))
def AllMg (mg : Str → Option Value) : List (Str × Option Addr) → Prop
  | [] => True
  | p :: r => mg p.1 = p.2.map Value.ref ∧ AllMg mg r
theorem allMg_mem {mg : Str → Option Value} : ∀ {tab : List (Str × Option Addr)}, AllMg mg tab → ∀ c ∈ tab.map (·.1), ∀ C, mg c = some (.ref C) → (c, C) ∈ tab.filterMap fun p => p.2.map fun a => (p.1, a)
  | [], _, _, h, _, _ => by simp at h
  | p :: tab, ⟨h1, h2⟩, c, hc, C, hm => by
    rw [List.map_cons] at hc
    rcases List.mem_cons.mp hc with rfl | hc
    · rw [h1] at hm
      cases hp : p.2 with
      | none => rw [hp] at hm; cases hm
      | some a =>
        rw [hp] at hm
        cases hm
        rw [List.filterMap_cons, hp]
        exact List.mem_cons_self
    · have := allMg_mem h2 c hc C hm
      rw [List.filterMap_cons]
      split
      · exact this
      · exact List.mem_cons_of_mem _ this
variable [Tb]
theorem xall_of {K : PySem.W.Frag} {mg : Str → Option Value} {CB CT : Addr} {tab : List (Str × Option Addr)} (hB : mg "BondError" = some (.ref CB)) (hT : mg "TooGreat" = some (.ref CT)) (hn : tab.map (·.1) = xNames) (hm : AllMg mg tab)
    (h : ((tab.filterMap fun p => p.2.map fun a => (p.1, a)).all (xoneB K (tab.filterMap fun p => p.2.map fun a => (p.1, a)) CB CT)) = true) : XAll K mg := by
  refine ⟨⟨CB, hB⟩, ⟨CT, hT⟩, fun c hc C hC => ?_⟩
  rw [← hn] at hc
  have z := List.all_eq_true.mp h (c, C) (allMg_mem hm c hc C hC)
  unfold xoneB at z
  simp only [Bool.and_eq_true, decide_eq_true_eq] at z
  obtain ⟨z1, z2, z3, z4, z5, z6, z7, z8, z9, z10, z11, z12, z13, z14⟩ := z
  refine ⟨⟨z1, z2, z3, z4, z5, z6, z7, z8⟩, fun f hf => ?_, fun c' hc' C' hC' => ?_, fun CB' hB' => ?_, z12, z13, fun CB' CT' hB' hT' => ?_⟩
  · rw [hf] at z9
    simpa using z9
  · rw [← hn] at hc'
    have := List.all_eq_true.mp z10 (c', C') (allMg_mem hm c' hc' C' hC')
    simpa using this
  · rw [hB] at hB'
    cases hB'
    exact z11
  · rw [hB] at hB'
    rw [hT] at hT'
    cases hB'
    cases hT'
    exact z14
/-! ### the def of a told / a heard -/
section
variable {P : Program} {w : World} {K : PySem.W.Frag} {mg : Str → Option Value} {base : Heap}
theorem told_mk {x a : Str} {st : Stmt} {f : Addr} {fd : FuncData} {N : List Str} {k : Nat} {dt : Fh} (F : Fun K x x st f fd) (m : mg x = some (.ref f)) (S : FnScope N [a] (defScope st)) (b : Binds K fd [a] []) (h0 : N[0]? = some a) (hv : Vis (defScope st) a) (hd1 : (a == ("__debug__" : Str)) = false) (hd2 : (a == ("__classdict__" : Str)) = false)
    (hG : ∀ (X : Cx) (cdv : Value), X.prog = P → X.w = w → X.K = K → X.mg = mg → X.base = base → Room (k + 1) X.A → GivesS X N x (defScope st) f cdv (defBody st) a (rdTT K mg dt)) : Told P w K mg base x k dt := by
  obtain ⟨oc, od, kV, doc, pm, an, cdv, ct, osl, rfl, lk, hcd⟩ := F.ex
  exact ⟨f, _, _, _, _, kV, doc, pm, cdv, ct, oc, an, od, osl, N, a, m, F.kp, lk, hcd, b, S, h0, hv, hd1, hd2, fun X e1 e2 e3 e4 e5 hr => hG X cdv e1 e2 e3 e4 e5 hr⟩
/-! ### a def that makes lambdas: its code object is known -/
theorem fnG_ofC {x qual : Str} {st : Stmt} {f : Addr} {fd : FuncData} {cdv : Value} (F : Fun K x qual st f fd) (hcode : fd.code = cdv) : Fun K x qual st f fd ∧ ∃ oc od kV doc pm an ct osl, fd = PySem.W.fnOf x qual (defArgs st) (defBody st) (defScope st) .none kV doc pm an cdv ct ∧ K.lookup f = some ⟨oc, od, .func fd, osl⟩ ∧ PySem.W.codeIn K cdv qual = true := by
  obtain ⟨oc, od, kV, doc, pm, an, cdv', ct, osl, rfl, lk, hcd⟩ := F.ex
  obtain rfl : cdv' = cdv := hcode
  exact ⟨F, oc, od, kV, doc, pm, an, ct, osl, rfl, lk, hcd⟩
end
end BW
namespace BW
open PySem PySem.Spec PyProof.Rows L2
variable [Tb]
section
variable {X : Cx} {W : Wx}
/-! ### an empty dict -/
def evD0 : Ev := fun _ h => .ok (.ref h.length) (h ++ [.dk []])
theorem den_d0 {pos : Pos} : DenE X W (.Dict [] [] pos) evD0 := PE.imp pe_dnewK fun σ H Q ⟨r, e, h, er, hr, ok⟩ => by
  intro p hp
  have s1 : Step r H r (upd H p (.dK [])) := Step.alloc hp
  have hpr : p ∉ r := fun z => hr.there z hp
  have m : Mo r (upd H p (.dK [])) (r ++ [p]) (upd H p (.dK [])) := Mo.push upd_same (fun z => z) NoOwn.of
  exact ok _ _ _ (Step.push hpr s1 (.of hp)) ((hr.alloc hp).push (ob := .dk []) hpr m ⟨[], upd_same, .nil⟩) (.val (.ref (by rw [← hr.len, List.getElem?_append_right (Nat.le_refl _), Nat.sub_self]; rfl)))
end
end BW
namespace BW
open PySem PySem.Spec PyProof.Rows L2
/-! ### own exceptions of the written part -/
theorem xc1_mk {P : Program} {K : PySem.W.Frag} {mg : Str → Option Value} {c qual : Str} {st : Stmt} {ov : Bool} {C fI cda cc : Addr} {oc dV kV doc pm ct : Value} {od an : Option Addr} {osl : Array (Option Value)} {vs : Array Value} {ccl cl : Value} {cdd cld : Option Addr} {ccs csl : Array (Option Value)} {tf : Tok}
    {msg f p : Str} {p0 p1 p2 p3 p4 p5 p6 p7 p8 p9 : Pos} {j : Nat}
    (hm : mg c = some (.ref C)) (hx : xB K C ov = true) (l : K.lookup fI = some ⟨oc, od, .func (PySem.W.ksFn "__init__" qual (defArgs st) (defBody st) (defScope st) dV kV doc pm an (.ref cda) ct cc), osl⟩) (hc : PySem.W.codeIn K (.ref cda) qual = true) (lc : K.lookup cda = some ⟨ccl, cdd, .fields vs, ccs⟩) (hv : vs[2]? = some (.str P.main.file tf))
    (lcc : K.lookup cc = some ⟨cl, cld, .cell (some (.ref C)), csl⟩) (hfn : PySem.W.isFn K (.ref fI) = true) (ini : PySem.W.findIn K (.ref C) "__init__" = some (some (.ref fI))) (hs : xscB P (defArgs st) (defScope st) = true) (hfl : PySem.W.findIn K (.ref C) f = some none)
    (hb : defBody st = xbody msg f p p0 p1 p2 p3 p4 p5 p6 p7 p8 p9 j) (hf : fieldOf c = some f) (hpar : (defArgs st).args.map (·.arg) = [("self" : Str), p]) (hps : p ≠ "self") (T : XTx (defScope st) msg f p p0 p1 p2 p3 p4 p5 p6 p7 p8 p9 j)
    (hbind : ∀ (s : Shared) (us : List Value), us.length = (defArgs st).args.length → BindsTo s (PySem.W.ksFn "__init__" qual (defArgs st) (defBody st) (defScope st) dV kV doc pm an (.ref cda) ct cc) ⟨us, []⟩ (((defArgs st).args.map (·.arg)).zip us)) : XC1 P K mg c := by
  obtain ⟨B, newId, i, bmB, x1, x2, x3, x4⟩ := xB_ok hx
  exact ⟨C, fI, B, newId, i, bmB, qual, msg, f, p, defArgs st, defScope st, p0, p1, p2, p3, p4, p5, p6, p7, p8, p9, j, hm, x2, x3, x4, hf, x1, xfun_mk l hc lc hv lcc hfn ini hb hs hbind, T, hpar, hps, hfl⟩
theorem xc0_mk {P : Program} {K : PySem.W.Frag} {mg : Str → Option Value} {c qual : Str} {st : Stmt} {ov : Bool} {C fI cda cc : Addr} {oc dV kV doc pm ct : Value} {od an : Option Addr} {osl : Array (Option Value)} {vs : Array Value} {ccl cl : Value} {cdd cld : Option Addr} {ccs csl : Array (Option Value)} {tf : Tok}
    {msg : Str} {p0 p1 p2 p3 p4 p5 : Pos} {j : Nat}
    (hm : mg c = some (.ref C)) (hx : xB K C ov = true) (l : K.lookup fI = some ⟨oc, od, .func (PySem.W.ksFn "__init__" qual (defArgs st) (defBody st) (defScope st) dV kV doc pm an (.ref cda) ct cc), osl⟩) (hc : PySem.W.codeIn K (.ref cda) qual = true) (lc : K.lookup cda = some ⟨ccl, cdd, .fields vs, ccs⟩) (hv : vs[2]? = some (.str P.main.file tf))
    (lcc : K.lookup cc = some ⟨cl, cld, .cell (some (.ref C)), csl⟩) (hfn : PySem.W.isFn K (.ref fI) = true) (ini : PySem.W.findIn K (.ref C) "__init__" = some (some (.ref fI))) (hs : xscB P (defArgs st) (defScope st) = true)
    (hb : defBody st = xbody0 msg p0 p1 p2 p3 p4 p5 j) (hpar : (defArgs st).args.map (·.arg) = [("self" : Str)]) (T : XTx0 (defScope st) msg p0 p1 p2 p3 p4 p5 j)
    (hbind : ∀ (s : Shared) (us : List Value), us.length = (defArgs st).args.length → BindsTo s (PySem.W.ksFn "__init__" qual (defArgs st) (defBody st) (defScope st) dV kV doc pm an (.ref cda) ct cc) ⟨us, []⟩ (((defArgs st).args.map (·.arg)).zip us)) : XC0 P K mg c := by
  obtain ⟨B, newId, i, bmB, x1, x2, x3, x4⟩ := xB_ok hx
  exact ⟨C, fI, B, newId, i, bmB, qual, msg, defArgs st, defScope st, p0, p1, p2, p3, p4, p5, j, hm, x2, x3, x4, x1, xfun_mk l hc lc hv lcc hfn ini hb hs hbind, T, hpar⟩
/-! ### tables of code objects -/
theorem tab_mk {K : PySem.W.Frag} {x : Str} {f c P : Addr} {oc cl : Value} {od cd : Option Addr} {osl ccs : Array (Option Value)} {fd : FuncData} {vs : Array Value} (a : PySem.W.nsIn K mainGlobals x = some (some (.ref f))) (l : K.lookup f = some ⟨oc, od, .func fd, osl⟩) (hc : fd.code = .ref c)
    (lc : K.lookup c = some ⟨cl, cd, .fields vs, ccs⟩) (hp : vs[11]? = some (.ref P)) : PySem.W.tabIn K x = some (c, P) := by
  unfold PySem.W.tabIn
  simp only [a, l, hc, lc, hp]
theorem uq_of : ∀ {T : List (Addr × Str)}, (T.map (·.1)).Nodup → ∀ p ∈ T, ∀ q ∈ T, p.1 = q.1 → p.2 = q.2
  | [], _, p, hp, _, _, _ => by cases hp
  | t :: T, h, p, hp, q, hq, e => by
    rw [List.map_cons, List.nodup_cons] at h
    rcases List.mem_cons.mp hp with hp | hp
    · rcases List.mem_cons.mp hq with hq | hq
      · rw [hp, hq]
      · rw [hp] at e
        exact absurd (List.mem_map.mpr ⟨q, hq, e.symm⟩) h.1
    · rcases List.mem_cons.mp hq with hq | hq
      · rw [hq] at e
        exact absurd (List.mem_map.mpr ⟨p, hp, e⟩) h.1
      · exact uq_of h.2 p hp q hq e
theorem tbuq_of [Tb] (h : (Tb.T.map (·.1)).Nodup) : TbUq := fun p hp q hq e => uq_of h p hp q hq e
end BW

set_option Elab.async false
set_option linter.all false
set_option maxRecDepth 100000
set_option maxHeartbeats 4000000
namespace BW
open PySem PySem.Spec PyProof.Rows L2
variable [Tb]
section
variable {X : Cx} {W : Wx}
/-! ### x is True -/
def opIsB (_ : AH) : D → D → Option D
  | .bl a, .bl b => some (.bl (decide (a = b)))
  | _, _ => none
def opNotB (_ : AH) : D → D → Option D
  | .bl a, .bl b => some (.bl (!decide (a = b)))
  | _, _ => none
theorem opd_isB : OpD X (compareOp .Is) opIsB := OpR.imp op_isBl fun x y H Q ⟨r, h, dx, dy, d, hr, tx, ty, hg, q⟩ => by
  unfold opIsB at hg
  split at hg
  · cases hg; exact ⟨_, _, tx.bl_inv, ty.bl_inv, q _ H (Step.refl r H) hr (.val (.bl _))⟩
  · cases hg
theorem opd_notB : OpD X (compareOp .IsNot) opNotB := OpR.imp op_notBl fun x y H Q ⟨r, h, dx, dy, d, hr, tx, ty, hg, q⟩ => by
  unfold opNotB at hg
  split at hg
  · cases hg; exact ⟨_, _, tx.bl_inv, ty.bl_inv, q _ H (Step.refl r H) hr (.val (.bl _))⟩
  · cases hg
end
end BW

set_option Elab.async false
set_option linter.all false
set_option maxRecDepth 100000
set_option maxHeartbeats 4000000
namespace BW
open PySem PySem.Spec PyProof.Rows L2
/-! ### NAME[k], NAME a dict of the module's, of numbers and tuples of numbers -/
structure DctG (K : PySem.W.Frag) (mg : Str → Option Value) (x : Str) (tab : List (Int × List Int)) : Prop where
  ex : ∃ p es n, mg x = some (.ref p) ∧ K.lookup p = some ⟨.type "dict", none, .dict es n, #[]⟩ ∧ (∀ e ∈ es.toList, ∃ i t, e.key = .int i t ∧ e.hash = hashInt i) ∧
    ∀ k l, tab.lookup k = some l → ∃ q, findBy Value.isInt es k = some (.ref q) ∧ ∀ H, SqT K H q (l.map V.int)
def evWg (tab : List (Int × List Int)) (f : Ev) : Ev := fun e h => (f e h).bind fun d h1 => match d with
  | .int k => match tab.lookup k with
    | some l => .ok (.kt l) h1
    | none => .stuck
  | _ => .stuck
/-- x[i], of a tuple of the module's numbers too -/
def opIxK (h : AH) (x y : D) : Option D := match x, y with
  | .kt xs, .int i => (atI (xs.map V.int) i).bind fun v => match v with
    | .int j => some (.int j)
    | _ => none
  | x, y => opIx h x y
section
variable [Tb] {X : Cx} {W : Wx}
def rWg (es : Array DictEntry) (p : Addr) : R2 := fun x y H Q => ∃ k q, x = .ref p ∧ y = .int k ∧ findBy Value.isInt es k = some (.ref q) ∧ Q (.ref q) H
theorem ix_wg {p : Addr} {es : Array DictEntry} {n : Nat} (hl : X.K.lookup p = some ⟨.type "dict", none, .dict es n, #[]⟩) (hk : ∀ e ∈ es.toList, ∃ i t, e.key = .int i t ∧ e.hash = hashInt i) : IxR X (rWg es p) := by
  intro value slice pins s σ H x y v u Q I rx ry h hs
  obtain ⟨k, a, rfl, rfl, hf, q⟩ := h
  obtain rfl : v = Value.ref p := rx
  obtain ⟨t, rfl⟩ := (show ∃ t, u = Value.int k t from ry)
  have hm : s.heap.MapOf (intKind X.prog X.w) p (fun k => findBy Value.isInt es k) :=
    ⟨_, es, n, I.kIn _ _ hl, ⟨rfl, rfl, rfl⟩, rfl, fun e he => by
      obtain ⟨i, t, e1, e2⟩ := hk e (Array.mem_toList_iff.mpr he)
      exact ⟨i, by rw [e1]; exact intKind_is _ _ i t, e2⟩, fun _ => rfl⟩
  exact tail_any hm.typeIs slot_dict_getitem.lookup (wpAny_getItem_of (intKind_is X.prog X.w k t) hm hf ⟨.ref a, H, I.tok _, rfl, q⟩) hs
theorem den_wget {x : Str} {tab : List (Int × List Int)} {b : Expr} {p pos : Pos} {f : Ev} (T : DctG X.K X.mg x tab) (hg : Gl X x) (hb : DenE X W b f) (hdb : (x == ("__debug__" : Str)) = false := by decide) (hs : PlainIx b := by exact fun _ _ => rfl) : DenE X W (.Subscript (.Name x p) b pos) (evWg tab f) := by
  obtain ⟨a, es, n, hm, hl, hk, hv⟩ := T.ex
  refine PE.imp (pe_ix (ix_wg hl hk) (pe_glob (v := .ref a) hg hm rfl hdb) hb hs) fun σ H Q ⟨r, e, h, er, hr, ok⟩ => ?_
  unfold evWg at ok
  refine rdE_bind er hr ok fun d h1 v r1 H1 s1 hr1 t1 er1 ok1 => ?_
  cases d with
  | int k =>
    dsimp only at ok1
    cases hlk : tab.lookup k with
    | none => rw [hlk] at ok1; exact ok1.elim
    | some l =>
      rw [hlk] at ok1
      obtain ⟨q, h1, h2⟩ := hv k l hlk
      obtain rfl := t1.u.int_inv
      exact ⟨k, q, rfl, rfl, h1, ok1 _ r1 H1 (Step.refl _ _) hr1 (.val (.kt h2))⟩
  | _ => exact ok1.elim
theorem ixdK : IxR X (rdO X.K X.mg opIxK) := fun value slice pins s σ H x y v u Q I rx ry q => by
  obtain ⟨r, h, dx, dy, d, hr, tx, ty, hg, q⟩ := q
  unfold opIxK at hg
  split at hg
  · rename_i xs i
    cases tx with
    | val tx =>
      cases tx with
      | @kt a xs hT =>
        cases hat : atI (xs.map V.int) i with
        | none => rw [hat] at hg; cases hg
        | some w =>
          rw [hat] at hg
          cases w with
          | int j =>
            simp only [Option.bind_some, Option.some.injEq] at hg
            subst hg
            exact ix_tup value slice pins s σ H _ y v u Q I rx ry ⟨a, _, i, .int j, rfl, ty.int_inv, hT H, hat, q _ H (Step.refl r H) hr (.val (.int _))⟩
          | _ => cases hg
  · exact ixd value slice pins s σ H x y v u Q I rx ry ⟨r, h, _, _, d, hr, tx, ty, hg, q⟩
theorem den_ixK {a b : Expr} {pos : Pos} {fa fb : Ev} (ha : DenE X W a fa) (hb : DenE X W b fb) (hs : PlainIx b := by exact fun _ _ => rfl) : DenE X W (.Subscript a b pos) (evOp opIxK fa fb) :=
  PE.imp (pe_ix ixdK ha hb hs) fun σ H Q q => rdO_of q
end
theorem sqK {K : PySem.W.Frag} {q : Addr} {d : Option Addr} {n : Nat} {sl : Array (Option Value)} {a b : Int} {ta tb : Tok} (h : K.lookup q = some ⟨.type "tuple", d, .seq #[.int a ta, .int b tb] n, sl⟩) (H : Hp) : SqT K H q ([a, b].map V.int) :=
  .inr ⟨_, _, _, h, rfl, rfl, (show (2 : Nat) ≤ sizeLine from by decide), .cons ⟨_, rfl⟩ (.cons ⟨_, rfl⟩ .nil)⟩
/-- a written dict of five numbers -/
theorem dctg5 {K : PySem.W.Frag} {mg : Str → Option Value} {x : Str} {p q0 q1 q2 q3 q4 : Addr} {n : Nat} {k0 k1 k2 k3 k4 h0 h1 h2 h3 h4 : Int} {t0 t1 t2 t3 t4 : Tok} {a0 a1 a2 a3 a4 b0 b1 b2 b3 b4 : Int} {ta0 ta1 ta2 ta3 ta4 tb0 tb1 tb2 tb3 tb4 : Tok} {d0 d1 d2 d3 d4 : Option Addr} {n0 n1 n2 n3 n4 : Nat} {s0 s1 s2 s3 s4 : Array (Option Value)}
    (hm : mg x = some (.ref p)) (hl : K.lookup p = some ⟨.type "dict", none, .dict #[⟨h0, .int k0 t0, .ref q0⟩, ⟨h1, .int k1 t1, .ref q1⟩, ⟨h2, .int k2 t2, .ref q2⟩, ⟨h3, .int k3 t3, .ref q3⟩, ⟨h4, .int k4 t4, .ref q4⟩] n, #[]⟩)
    (l0 : K.lookup q0 = some ⟨.type "tuple", d0, .seq #[.int a0 ta0, .int b0 tb0] n0, s0⟩) (l1 : K.lookup q1 = some ⟨.type "tuple", d1, .seq #[.int a1 ta1, .int b1 tb1] n1, s1⟩) (l2 : K.lookup q2 = some ⟨.type "tuple", d2, .seq #[.int a2 ta2, .int b2 tb2] n2, s2⟩) (l3 : K.lookup q3 = some ⟨.type "tuple", d3, .seq #[.int a3 ta3, .int b3 tb3] n3, s3⟩) (l4 : K.lookup q4 = some ⟨.type "tuple", d4, .seq #[.int a4 ta4, .int b4 tb4] n4, s4⟩)
    (e0 : h0 = hashInt k0) (e1 : h1 = hashInt k1) (e2 : h2 = hashInt k2) (e3 : h3 = hashInt k3) (e4 : h4 = hashInt k4) : DctG K mg x [(k0, [a0, b0]), (k1, [a1, b1]), (k2, [a2, b2]), (k3, [a3, b3]), (k4, [a4, b4])] := by
  refine ⟨p, _, n, hm, hl, fun e he => ?_, fun k l hk => ?_⟩
  · simp only [List.mem_cons, List.not_mem_nil, or_false] at he
    rcases he with rfl | rfl | rfl | rfl | rfl
    · exact ⟨_, _, rfl, e0⟩
    · exact ⟨_, _, rfl, e1⟩
    · exact ⟨_, _, rfl, e2⟩
    · exact ⟨_, _, rfl, e3⟩
    · exact ⟨_, _, rfl, e4⟩
  · have fb : ∀ (es : List DictEntry), findBy Value.isInt es.toArray k = (es.find? fun e => Value.isInt k e.key).map (·.val) := fun es => by
      unfold findBy; rw [List.find?_toArray]
    rw [fb]
    have isI : ∀ (i : Int) (t : Tok), Value.isInt k (.int i t) = (k == i) := fun i t => by
      simp only [Value.isInt]
      by_cases h : k = i
      · subst h; simp
      · simp [h, Ne.symm h, beq_eq_false_iff_ne.mpr h, beq_eq_false_iff_ne.mpr (Ne.symm h)]
    simp only [List.lookup] at hk
    simp only [List.find?, isI]
    by_cases c0 : (k == k0) = true
    · simp only [c0] at hk ⊢; cases hk; exact ⟨q0, rfl, sqK l0⟩
    by_cases c1 : (k == k1) = true
    · simp only [c0, c1] at hk ⊢; cases hk; exact ⟨q1, rfl, sqK l1⟩
    by_cases c2 : (k == k2) = true
    · simp only [c0, c1, c2] at hk ⊢; cases hk; exact ⟨q2, rfl, sqK l2⟩
    by_cases c3 : (k == k3) = true
    · simp only [c0, c1, c2, c3] at hk ⊢; cases hk; exact ⟨q3, rfl, sqK l3⟩
    by_cases c4 : (k == k4) = true
    · simp only [c0, c1, c2, c3, c4] at hk ⊢; cases hk; exact ⟨q4, rfl, sqK l4⟩
    · simp only [c0, c1, c2, c3, c4] at hk; cases hk
end BW

set_option Elab.async false
set_option linter.all false
set_option maxRecDepth 100000
set_option maxHeartbeats 4000000
namespace BW
open PySem PySem.Spec PyProof.Rows L2
/-! ### xs[::-1] of a list or a tuple -/
section
variable {prog : Program} {w : World} {A : Around} {E : Value → Shared → Prop} {s : Shared}
theorem adjust_rev (n : Nat) : Builtin.Slice.sliceAdjust none none (-1) (n : Int) = ((n : Int) - 1, -1) := by
  unfold Builtin.Slice.sliceAdjust
  simp
theorem places_rev (n : Nat) : Builtin.Slice.slicePlaces ((n : Int) - 1) (-1) (-1) = n := by
  unfold Builtin.Slice.slicePlaces
  have h1 : ¬ ((-1 : Int) > 0) := by omega
  simp only [h1, if_false]
  by_cases h : (n : Int) - 1 > -1
  · rw [if_pos h]
    have : ((n : Int) - 1 - -1 - 1) / (- -1) + 1 = n := by
      rw [show (- -1 : Int) = 1 by omega, Int.ediv_one]; omega
    rw [this]; simp
  · rw [if_neg h]; omega
theorem applied_rev {sl : Addr} {vl vu vs : Value} {n : Nat} {Q : Int × Int × Nat → Shared → Prop} (hs : s.heap.IsSliceOf sl vl vu vs) (pl : IsPart vl none) (pu : IsPart vu none) (ps : IsPart vs (some (-1)))
    (h : Q ((n : Int) - 1, -1, n) s) : wpAny (model prog w) A (Builtin.Slice.sliceApplied (.ref sl) (pure (n : Int))) Q E s := by
  obtain ⟨os, hos, hcs, hds⟩ := id hs
  unfold Builtin.Slice.sliceApplied Builtin.Slice.sliceFields
  refine wpAny_bind (wpAny_bind (wpAny_field hos hds (x := vl) rfl (wpAny_bind (wpAny_field hos hds (x := vu) rfl (wpAny_bind (wpAny_field hos hds (x := vs) rfl (wpAny_pure ?_)))))))
  refine wpAny_bind (HT.slicePart_ ps ?_)
  show wpAny _ _ (if ((-1 : Int) == 0) = true then _ else _) _ _ s
  rw [if_neg (by decide)]
  refine wpAny_bind (HT.slicePart_ pl (wpAny_bind (HT.slicePart_ pu (wpAny_bind (wpAny_pure ?_)))))
  show wpAny _ _ (match Builtin.Slice.sliceAdjust none none (-1) (n : Int) with | (lo, hi) => pure (lo, (-1 : Int), Builtin.Slice.slicePlaces lo hi (-1))) _ _ s
  rw [adjust_rev n]
  show wpAny _ _ (pure ((n : Int) - 1, (-1 : Int), Builtin.Slice.slicePlaces ((n : Int) - 1) (-1) (-1))) _ _ s
  rw [places_rev]
  exact wpAny_pure h
theorem pick_rev_aux (xs : List Value) : ∀ m, m ≤ xs.length → (List.range m).filterMap (fun (k : Nat) => xs.toArray[(((xs.length : Int) - 1) + (k : Int) * (-1)).toNat]?) = xs.reverse.take m
  | 0, _ => by simp
  | m + 1, h => by
    rw [List.range_succ, List.filterMap_append, pick_rev_aux xs m (by omega), List.take_add_one]
    congr 1
    have e : (((xs.length : Int) - 1) + (m : Int) * (-1)).toNat = xs.length - 1 - m := by omega
    have h2 : xs.length - 1 - m < xs.length := by omega
    have h3 : m < xs.reverse.length := by simp; omega
    simp only [List.filterMap_cons, List.filterMap_nil, e]
    rw [List.getElem?_eq_getElem h3]
    simp [h2]
theorem pick_rev (xs : List Value) : (List.range xs.length).filterMap (fun (k : Nat) => xs.toArray[(((xs.length : Int) - 1) + (k : Int) * (-1)).toNat]?) = xs.reverse := by
  rw [pick_rev_aux xs xs.length (Nat.le_refl _), ← List.length_reverse (as := xs), List.take_length]
theorem getItem_tuple_rev {t sl : Addr} {vals : List Value} {vl vu vs : Value} {Q : Value → Shared → Prop} (ht : IsTup s.heap t vals.toArray) (hs : s.heap.IsSliceOf sl vl vu vs) (pl : IsPart vl none) (pu : IsPart vu none) (ps : IsPart vs (some (-1)))
    (h : Q (.ref s.heap.objs.size) { s with heap := s.heap.push { cls := .type "tuple", data := .seq vals.reverse.toArray } })
    (hsz : vals.length ≤ sizeLine) : wpAny (model prog w) A (getItem (.ref t) (.ref sl)) Q E s := by
  have htake : sizeOk (.seq vals.reverse.toArray) := by
    show vals.reverse.toArray.size ≤ sizeLine
    rw [List.size_toArray, List.length_reverse]
    exact hsz
  obtain ⟨os, hos, hcs, hds⟩ := id hs
  have hTs : s.TypeIs (.ref sl) "slice" := ⟨os, hos, hcs⟩
  unfold getItem
  try with_reducible refine wpAny_holding ?_
  first | refine wpAny_bind (wpAny_pure ?_) | skip
  refine wpAny_bind (wpAny_sequenceKey ht.typeIs (by decide) ?_)
  refine wpAny_bind (wpAny_callSpecial?_slot (name := Str.ofString "__getitem__") ht.typeIs PyProof.Rows.slot_tuple_getitem
    (wpAny_call_entry PyProof.Rows.slot_tuple_getitem ht.typeIs entry_tuple_getitem ?_ (args_tuple_getitem _ _)))
  show wpAny _ _ (Builtin.Tuple.tupleItemsOf (.ref t) >>= _) _ _ s
  refine wpAny_bind (tupleItemsOf_ ht ?_)
  refine wpAny_bind (wpAny_typeOf hTs ?_)
  rw [if_pos (by decide)]
  refine wpAny_bind (applied_rev (n := vals.toArray.size) hs pl pu ps ?_)
  have hno : ¬ ((((vals.toArray.size : Int) - 1) == 0 && (-1 : Int) == 1 && vals.toArray.size == vals.toArray.size) = true) := by
    intro q
    rw [Bool.and_eq_true, Bool.and_eq_true] at q
    exact absurd q.1.2 (by decide)
  show wpAny _ _ (if (((vals.toArray.size : Int) - 1) == 0 && (-1 : Int) == 1 && vals.toArray.size == vals.toArray.size) = true then _ else _) _ _ s
  rw [if_neg hno, List.size_toArray, pick_rev]
  first
    | exact wpAny_bind (m := Builtin.Tuple.tupleExact _) (wpAny_newObj_type (wpAny_pure ⟨_, rfl, wpAny_pure h⟩) htake)
    | exact wpAny_bind (m := Builtin.Tuple.tupleExact _) (wpAny_newObj_type (wpAny_bind (wpAny_pure (wpAny_pure ⟨_, rfl, wpAny_pure h⟩))) htake)
    | exact wpAny_bind (wpAny_bind (m := Builtin.Tuple.tupleExact _) (wpAny_newObj_type (wpAny_pure (wpAny_pure ⟨_, rfl, wpAny_pure h⟩)) htake))
    | exact wpAny_bind (wpAny_bind (m := Builtin.Tuple.tupleExact _) (wpAny_newObj_type (wpAny_pure ⟨_, rfl, wpAny_pure h⟩) htake))
end
section
variable {X : Cx} {W : Wx}
/-- what xs[::-1] gives -/
def tRev (K : PySem.W.Frag) (te : TE) : TE := fun σ H Q => te σ H fun x H1 => ∃ a xs, x = .ref a ∧ ((SqL K H1 a xs ∧ ∀ p, H1 p = none → Q (.ref p) (upd H1 p (.lst xs.reverse))) ∨ (SqT K H1 a xs ∧ ∀ p, H1 p = none → Q (.ref p) (upd H1 p (.tup xs.reverse))))
theorem pe_rev {e : Expr} {te : TE} {k : Nat} {p1 p2 p3 pos : Pos} (he : PE X e te) : PE X (.Subscript e (.Slice none none (some (.UnaryOp .USub (.Constant (.int 1) k p1) p2)) p3) pos) (tRev X.K te) := by
  refine ⟨fun pins s σ H Q I h => ?_⟩
  refine Subscript_ (thn (he.run pins s σ H _ I h) fun v s1 ⟨x, H1, I1, r1, q1⟩ => ?_)
  obtain ⟨a, xs, ex, hq⟩ := q1
  subst ex
  cases r1
  have hst : PO X (some (.UnaryOp .USub (.Constant (.int 1) k p1) p2)) (tPart (tUn (rU fun i => .int (-i)) (tC (.int 1)))) := po_some (pe_un un_neg pe_int)
  refine wpAny_Slice (thn (po_none.run pins s1 σ H1 (fun o H2 => o = none ∧ H2 = H1) I1 ⟨rfl, rfl⟩) fun vl s2 ⟨l, H2, I2, pl, el, e2⟩ => ?_)
  subst el e2
  refine thn (po_none.run pins s2 σ H2 (fun o H3 => o = none ∧ H3 = H2) I2 ⟨rfl, rfl⟩) fun vu s3 ⟨u, H3, I3, pu, eu, e3⟩ => ?_
  subst eu e3
  refine thn (hst.run pins s3 σ H3 (fun o H4 => o = some (-1) ∧ H4 = H3) I3 ⟨1, rfl, -1, rfl, rfl, rfl⟩) fun vs s4 ⟨o, H4, I4, ps, eo, e4⟩ => ?_
  subst eo e4
  have I5 : Inv X pins σ H4 { s4 with heap := s4.heap.push { cls := .type "slice", data := .fields #[vl, vu, vs] } } := I4.kept (t' := s4.toks) fun b ob q => Heap.get?_push_of_some _ q
  show wpAny (model X.prog X.w) X.A (subscriptTail e (.Slice none none (some (.UnaryOp .USub (.Constant (.int 1) k p1) p2)) p3) (.ref a) (.ref s4.heap.objs.size)) (EP X pins σ Q) X.xe { s4 with heap := s4.heap.push { cls := .type "slice", data := .fields #[vl, vu, vs] } }
  rcases hq with ⟨hx, q⟩ | ⟨hx, q⟩
  · obtain ⟨its, r, ht, hz⟩ := I5.list hx
    have hlen := r.length
    refine tail_any (ops := [.ref a, .ref s4.heap.objs.size]) ht.isList.typeIs (PySem.slot_list_getitem.lookup) ?_ (by with_unfolding_all rfl)
    refine wpAny_getItem_list_slice ht.isList (Heap.IsSliceOf.new _ vl vu vs) pl pu ps (by decide) ?_ (by rw [List.size_toArray]; omega)
    rw [PySem.W.krv_pick]
    refine ⟨.ref _, _, I5.laid (t' := s4.toks) (o := .lst xs.reverse) (fun b ob q => Heap.get?_push_of_some _ q) (Nat.le_refl _) ?_, rfl, q _ (I5.hok.fresh (Nat.le_refl _))⟩
    exact ⟨by rw [List.length_reverse]; exact hz, _, 0, r.reverse, Heap.get?_push_size _ rfl⟩
  · obtain ⟨its, r, ht, hz⟩ := I5.tuple hx
    have hlen := r.length
    refine tail_any (ops := [.ref a, .ref s4.heap.objs.size]) ht.typeIs PyProof.Rows.slot_tuple_getitem.lookup ?_ (by with_unfolding_all rfl)
    refine getItem_tuple_rev ht (Heap.IsSliceOf.new _ vl vu vs) pl pu ps ?_ (by omega)
    refine ⟨.ref _, _, I5.laid (t' := s4.toks) (o := .tup xs.reverse) (fun b ob q => Heap.get?_push_of_some _ q) (Nat.le_refl _) ?_, rfl, q _ (I5.hok.fresh (Nat.le_refl _))⟩
    exact ⟨by rw [List.length_reverse]; exact hz, _, r.reverse, IsTup.new _ _⟩
def revD (h : AH) : D → Option D
  | .tup xs => some (.tup xs.reverse)
  | x => (lstOfR h x).map fun xs => .tl xs.reverse
def evRev (f : Ev) : Ev := fun e h => (f e h).bind fun x h1 => ofO (revD h1 x) h1
theorem den_rev [Tb] {ex : Expr} {k : Nat} {p1 p2 p3 pos : Pos} {f : Ev} (hf : DenE X W ex f) : DenE X W (.Subscript ex (.Slice none none (some (.UnaryOp .USub (.Constant (.int 1) k p1) p2)) p3) pos) (evRev f) :=
  PE.imp (pe_rev hf) fun σ H Q ⟨r, e, h, er, hr, ok⟩ => by
    unfold evRev at ok
    refine rdE_bind er hr ok fun x h1 v r1 H1 s1 hr1 t1 er1 ok1 => ?_
    cases hg : revD h1 x with
    | none => rw [hg] at ok1; exact ok1.elim
    | some d =>
      rw [hg] at ok1
      have z : (∃ xs, x = .tup xs ∧ d = .tup xs.reverse) ∨ (∃ xs, lstOfR h1 x = some xs ∧ d = .tl xs.reverse) := by
        cases x <;> simp only [revD, Option.map_eq_some_iff] at hg
        case tup xs => cases hg; exact .inl ⟨xs, rfl, rfl⟩
        all_goals
          obtain ⟨xs, e1, e2⟩ := hg
          exact .inr ⟨xs, e1, e2.symm⟩
      rcases z with ⟨xs, rfl, rfl⟩ | ⟨xs, hl, rfl⟩
      · cases t1 with
        | val q => cases q with
          | @tup a vs _ h3 h4 =>
            exact ⟨a, vs, rfl, .inr ⟨h3.sq, fun p hp => newT hr1 hp h4.reverse fun v H' s q t => ok1 v r1 H' s q t⟩⟩
      · obtain ⟨a, vs, rfl, h3, h4⟩ := lstOfR_inv hr1 t1.u hl
        exact ⟨a, vs, rfl, .inl ⟨h3, fun p hp => newL hr1 hp h4.reverse fun v H' s q t => ok1 v r1 H' s q t⟩⟩
end
end BW

set_option Elab.async false
set_option linter.all false
set_option maxRecDepth 100000
set_option maxHeartbeats 4000000
namespace BW
open PySem PySem.Spec PyProof.Rows L2

def d_is_whole : Fd := fnD 1
  (svRet (evAnd (evIsi ["int"] (evVar 0)) (evNot (evIsi ["bool"] (evVar 0)))))

def d_is_among : Fd := fnD 3
  (svRet (evAnd (evCall d_is_whole [(evVar 0)]) (evChain opLe opLe (evVar 1) (evVar 0) (evVar 2))))

def d_is_list : Fd := fnD 1
  (svRet (evIsi ["list", "tuple"] (evVar 0)))

def d_is_bond : Fd := fnD 4
  (svSeq (svAsg (evOp opIx (evOp opIx (evVar 0) (evVar 1)) (evVar 2)) (gvName 3)) (svSeq (svIf (tvOf (evOp opEq (evVar 1) (evVar 2))) (svRet (evCall d_is_among [(evVar 3), (evC (.int 1)), (evC (.int 1))])) svNil) (svRet (evAnd (evCall d_is_whole [(evVar 3)]) (evAnd (evInG false [.int 2, .int 3, .int 4, .int 6, .int 0] (evVar 3)) (evOr (evOp opLt (evVar 1) (evVar 2)) (evOp opEq (evVar 3) (evOp opIx (evOp opIx (evVar 0) (evVar 2)) (evVar 1)))))))))

def d_need_rows : Fd := fnD 4
  (svSeq (svIf (tvOr (tvNot (tvOf (evCall d_is_list [(evVar 0)]))) (tvOf (evOp opEq (evB bLen [(evVar 0)]) (evC (.int 0))))) (svRaise1 "BadBonds" (evC .non)) svNil) (svSeq (svIf (tvOf (evOp opGt (evB bLen [(evVar 0)]) (evC (.int 6)))) (svRaise1 "TooGreat" (evC (.int 6))) svNil) (svSeq (svFor (ivSeq (evVar 0)) (gvName 1) (svIf (tvOr (tvNot (tvOf (evCall d_is_list [(evVar 1)]))) (tvOf (evOp opNe (evB bLen [(evVar 1)]) (evB bLen [(evVar 0)])))) (svRaise1 "BadBonds" (evC .non)) svNil)) (svFor (ivBy [(evB bLen [(evVar 0)])] kR1) (gvName 2) (svFor (ivBy [(evB bLen [(evVar 0)])] kR1) (gvName 3) (svIf (tvNot (tvOf (evCall d_is_bond [(evVar 0), (evVar 2), (evVar 3)]))) (svRaise1 "BadBonds" (evTup [(evOp opAdd (evVar 2) (evC (.int 1))), (evOp opAdd (evVar 3) (evC (.int 1)))])) svNil))))))

def d_Bonds___init__ : Fd := fnD 3
  (svSeq (svExpr (evCall d_need_rows [(evVar 1)])) (svSlot "Bonds" (evVar 0) (evB bTuple [(evLc (ivSeq (evVar 1)) (Tgt.own (.one 2)) (Tgt.gv (.one 2)) tvYes (evB bTuple [(evVar 2)]))])))

def d_Bonds___len__ : Fd := fnD 1
  (svRet (evB bLen [(evSlot "Bonds" (evVar 0))]))

def d_Bonds_need_letter : Fd := fnD 2
  (svIf (tvNot (tvOf (evCall d_is_among [(evVar 1), (evC (.int 1)), (evB bLen [(evSlot "Bonds" (evVar 0))])]))) (svRaise1 "BadNumber" (evVar 1)) svNil)

def d_Bonds_bond : Fd := fnD 3
  (svSeq (svExpr (evMeth "Bonds" d_Bonds_need_letter (evVar 0) [(evVar 1)])) (svSeq (svExpr (evMeth "Bonds" d_Bonds_need_letter (evVar 0) [(evVar 2)])) (svRet (evOp opIx (evOp opIx (evSlot "Bonds" (evVar 0)) (evOp opSub (evVar 1) (evC (.int 1)))) (evOp opSub (evVar 2) (evC (.int 1)))))))

def d_Bonds_weight : Fd := fnD 4
  (svSeq (svExpr (evMeth "Bonds" d_Bonds_need_letter (evVar 0) [(evVar 1)])) (svSeq (svExpr (evMeth "Bonds" d_Bonds_need_letter (evVar 0) [(evVar 2)])) (svSeq (svIf (tvOf (evOp opEq (evVar 1) (evVar 2))) (svRet (evNeg (evC (.int 2)))) svNil) (svSeq (svAsg (evWg [(2, [0, 0]), (3, [1, 1]), (4, [1, 2]), (6, [1, 3]), (0, [2, 2])] (evOp opIx (evOp opIx (evSlot "Bonds" (evVar 0)) (evOp opSub (evVar 1) (evC (.int 1)))) (evOp opSub (evVar 2) (evC (.int 1))))) (gvName 3)) (svRet (evIf (tvOf (evOp opLt (evVar 1) (evVar 2))) (evOp opIxK (evVar 3) (evC (.int 0))) (evOp opIxK (evVar 3) (evC (.int 1)))))))))

def d_need_word : Fd := fnD 4
  (svSeq (svIf (tvNot (tvOf (evCall d_is_list [(evVar 1)]))) (svRaise1 "BadWord" (evC .non)) svNil) (svSeq (svIf (tvOf (evOp opGt (evB bLen [(evVar 1)]) (evC (.int 60)))) (svRaise1 "TooGreat" (evC (.int 60))) svNil) (svFor (ivBy [(evVar 1)] kEnum) (gvTup [(gvName 2), (gvName 3)]) (svIf (tvNot (tvOf (evCall d_is_among [(evVar 3), (evC (.int 1)), (evLenO "Bonds" d_Bonds___len__ (evVar 0))]))) (svRaise1 "BadWord" (evVar 2)) svNil))))

def d_start : Fd := fnD 1
  (svRet (evOp opMul (evTup [(evC (.int 1))]) (evLenO "Bonds" d_Bonds___len__ (evVar 0))))

def d_need_row : Fd := fnD 3
  (svIf (tvOr (tvNot (tvOf (evIsi ["tuple"] (evVar 1)))) (tvOr (tvOf (evOp opNe (evB bLen [(evVar 1)]) (evLenO "Bonds" d_Bonds___len__ (evVar 0)))) (tvNot (tvOf (evB bAll [(evLc (ivSeq (evVar 1)) (Tgt.own (.one 2)) (Tgt.gv (.one 2)) tvYes (evCall d_is_whole [(evVar 2)]))]))))) (svRaise1 "BadRow" (evVar 1)) svNil)

def d_pressed : Fd := fnD 6
  (svSeq (svAsg (evOp opIx (evVar 1) (evOp opSub (evVar 2) (evC (.int 1)))) (gvName 3)) (svRet (evB bTuple [(evLc (ivBy [(evVar 1)] kEnum) (Tgt.own (.two 4 5)) (Tgt.gv (.two 4 5)) tvYes (evOp opAdd (evVar 5) (evOp opMul (evMeth "Bonds" d_Bonds_weight (evVar 0) [(evVar 2), (evOp opAdd (evVar 4) (evC (.int 1)))]) (evVar 3))))])))

def d_press : Fd := fnD 3
  (svSeq (svExpr (evCall d_need_row [(evVar 0), (evVar 1)])) (svSeq (svExpr (evMeth "Bonds" d_Bonds_need_letter (evVar 0) [(evVar 2)])) (svRet (evCall d_pressed [(evVar 0), (evVar 1), (evVar 2)]))))

def d_row_by : Fd := fnD 4
  (svSeq (svAsg (evCall d_start [(evVar 0)]) (gvName 2)) (svSeq (svFor (ivSeq (evVar 1)) (gvName 3) (svAsg (evCall d_pressed [(evVar 0), (evVar 2), (evVar 3)]) (gvName 2))) (svRet (evVar 2))))

def d_row_of : Fd := fnD 2
  (svSeq (svExpr (evCall d_need_word [(evVar 0), (evVar 1)])) (svRet (evCall d_row_by [(evVar 0), (evVar 1)])))

def d_below : Fd := fnD 3
  (svRet (evB bTuple [(evLc (ivBy [(evVar 0)] kEnum) (Tgt.own (.two 1 2)) (Tgt.gv (.two 1 2)) (tvOf (evOp opLt (evVar 2) (evC (.int 0)))) (evOp opAdd (evVar 1) (evC (.int 1))))]))

def d_undone : Fd := fnD 4
  (svSeq (svPar [(evLst []), (evVar 1)] [2, 3]) (svSeq (svWhile (tvAnd (tvOf (evOp opNe (evCall d_below [(evVar 3)]) (evTup []))) (tvOf (evOp opLt (evB bLen [(evVar 2)]) (evC (.int 60))))) (svSeq (svExpr (evAppend (evVar 2) (evOp opIx (evCall d_below [(evVar 3)]) (evC (.int 0))))) (svAsg (evCall d_pressed [(evVar 0), (evVar 3), (evOp opIx (evVar 2) (evNeg (evC (.int 1))))]) (gvName 3))) 100000) (svRet (evIf (tvOf (evOp opEq (evVar 3) (evCall d_start [(evVar 0)]))) (evB bTuple [(evVar 2)]) (evC .non)))))

def d_shortest_by : Fd := fnD 2
  (svRet (evCall d_undone [(evVar 0), (evCall d_row_by [(evVar 0), (evRev (evB bTuple [(evVar 1)]))])]))

def d_word_of : Fd := fnD 3
  (svSeq (svExpr (evCall d_need_row [(evVar 0), (evVar 1)])) (svSeq (svAsg (evCall d_undone [(evVar 0), (evVar 1)]) (gvName 2)) (svSeq (svIf (tvOf (evOp opIsN (evVar 2) (evC .non))) (svRaise1 "BadRow" (evVar 1)) svNil) (svRet (evCall d_shortest_by [(evVar 0), (evRev (evVar 2))])))))

def d_length : Fd := fnD 2
  (svSeq (svExpr (evCall d_need_word [(evVar 0), (evVar 1)])) (svRet (evB bLen [(evCall d_undone [(evVar 0), (evCall d_row_by [(evVar 0), (evVar 1)])])])))

def d_lasts : Fd := fnD 2
  (svRet (evCall d_below [(evCall d_row_of [(evVar 0), (evVar 1)])]))

def d_firsts : Fd := fnD 2
  (svSeq (svExpr (evCall d_need_word [(evVar 0), (evVar 1)])) (svRet (evCall d_below [(evCall d_row_by [(evVar 0), (evRev (evB bTuple [(evVar 1)]))])])))

def d_alike : Fd := fnD 3
  (svSeq (svExpr (evCall d_need_word [(evVar 0), (evVar 1)])) (svSeq (svExpr (evCall d_need_word [(evVar 0), (evVar 2)])) (svRet (evOp opEq (evCall d_row_by [(evVar 0), (evVar 1)]) (evCall d_row_by [(evVar 0), (evVar 2)])))))

def d_is_formed : Fd := fnD 3
  (svSeq (svIf (tvOr (tvNot (tvOf (evIsi ["tuple"] (evVar 2)))) (tvOr (tvOf (evOp (inD true) (evB bLen [(evVar 2)]) (evTup [(evC (.int 2)), (evC (.int 3))]))) (tvNot (tvOf (evIsi ["str"] (evOp opIx (evVar 2) (evC (.int 0)))))))) (svRet (evC (.bl false))) svNil) (svSeq (svIf (tvNot (tvOf (evCall d_is_among [(evOp opIx (evVar 2) (evC (.int 1))), (evC (.int 0)), (evB bLen [(evVar 1)])]))) (svRet (evC (.bl false))) svNil) (svSeq (svIf (tvOf (evOp opEq (evB bLen [(evVar 2)]) (evC (.int 3)))) (svRet (evAnd (evOp opEq (evOp opIx (evVar 2) (evC (.int 0))) (evC (.str "in"))) (evCall d_is_among [(evOp opIx (evVar 2) (evC (.int 2))), (evC (.int 1)), (evLenO "Bonds" d_Bonds___len__ (evVar 0))]))) svNil) (svRet (evOp (inD false) (evOp opIx (evVar 2) (evC (.int 0))) (evTup [(evC (.str "out")), (evC (.str "turn"))]))))))

def d_stretch : Fd := fnD 4
  (svRet (evB bTuple [(evLc (ivBy [(evVar 2)] kR1) (Tgt.own (.one 3)) (Tgt.gv (.one 3)) tvYes (evIf (tvOf (evOp opEq (evOp opMod (evVar 3) (evC (.int 2))) (evC (.int 1)))) (evVar 1) (evVar 0)))]))

def d_turned : Fd := fnD 6
  (svSeq (svIf (tvOr (tvOf (evOp opGt (evOp opAdd (evVar 2) (evC (.int 2))) (evB bLen [(evVar 1)]))) (tvOf (evOp opEq (evOp opIx (evVar 1) (evVar 2)) (evOp opIx (evVar 1) (evOp opAdd (evVar 2) (evC (.int 1))))))) (svRet (evC .non)) svNil) (svSeq (svPar [(evOp opIx (evVar 1) (evVar 2)), (evOp opIx (evVar 1) (evOp opAdd (evVar 2) (evC (.int 1))))] [3, 4]) (svSeq (svAsg (evMeth "Bonds" d_Bonds_bond (evVar 0) [(evVar 3), (evVar 4)]) (gvName 5)) (svSeq (svIf (tvOr (tvOf (evOp opEq (evVar 5) (evC (.int 0)))) (tvOf (evOp opNe (evSl (evVar 1) (pvSome (evVar 2)) (pvSome (evOp opAdd (evVar 2) (evVar 5)))) (evCall d_stretch [(evVar 3), (evVar 4), (evVar 5)])))) (svRet (evC .non)) svNil) (svRet (evOp opAdd (evOp opAdd (evSl (evVar 1) pvNone (pvSome (evVar 2))) (evCall d_stretch [(evVar 4), (evVar 3), (evVar 5)])) (evSl (evVar 1) (pvSome (evOp opAdd (evVar 2) (evVar 5))) pvNone)))))))

def d_made : Fd := fnD 4
  (svSeq (svAsg (evOp opIx (evVar 2) (evC (.int 1))) (gvName 3)) (svSeq (svIf (tvOf (evOp opEq (evOp opIx (evVar 2) (evC (.int 0))) (evC (.str "in")))) (svRet (evOp opAdd (evOp opAdd (evSl (evVar 1) pvNone (pvSome (evVar 3))) (evTup [(evOp opIx (evVar 2) (evC (.int 2))), (evOp opIx (evVar 2) (evC (.int 2)))])) (evSl (evVar 1) (pvSome (evVar 3)) pvNone))) svNil) (svSeq (svIf (tvOf (evOp opEq (evOp opIx (evVar 2) (evC (.int 0))) (evC (.str "turn")))) (svRet (evCall d_turned [(evVar 0), (evVar 1), (evVar 3)])) svNil) (svSeq (svIf (tvOr (tvOf (evOp opGt (evOp opAdd (evVar 3) (evC (.int 2))) (evB bLen [(evVar 1)]))) (tvOf (evOp opNe (evOp opIx (evVar 1) (evVar 3)) (evOp opIx (evVar 1) (evOp opAdd (evVar 3) (evC (.int 1))))))) (svRet (evC .non)) svNil) (svRet (evOp opAdd (evSl (evVar 1) pvNone (pvSome (evVar 3))) (evSl (evVar 1) (pvSome (evOp opAdd (evVar 3) (evC (.int 2)))) pvNone)))))))

def d_can : Fd := fnD 4
  (svSeq (svExpr (evCall d_need_word [(evVar 0), (evVar 1)])) (svSeq (svIf (tvNot (tvOf (evCall d_is_formed [(evVar 0), (evVar 1), (evVar 2)]))) (svRet (evC (.bl false))) svNil) (svSeq (svAsg (evCall d_made [(evVar 0), (evB bTuple [(evVar 1)]), (evVar 2)]) (gvName 3)) (svRet (evAnd (evOp opNotN (evVar 3) (evC .non)) (evOp opLe (evB bLen [(evVar 3)]) (evC (.int 60))))))))

def d_done_at : Fd := fnD 5
  (svSeq (svAsg (evIf (tvOf (evCall d_is_formed [(evVar 0), (evVar 1), (evVar 2)])) (evCall d_made [(evVar 0), (evVar 1), (evVar 2)]) (evC .non)) (gvName 4)) (svSeq (svIf (tvOf (evOp opIsN (evVar 4) (evC .non))) (svRaise1 "BadDeed" (evVar 3)) svNil) (svSeq (svIf (tvOf (evOp opGt (evB bLen [(evVar 4)]) (evC (.int 60)))) (svRaise1 "TooGreat" (evC (.int 60))) svNil) (svRet (evVar 4)))))

def d_done : Fd := fnD 3
  (svSeq (svExpr (evCall d_need_word [(evVar 0), (evVar 1)])) (svRet (evCall d_done_at [(evVar 0), (evB bTuple [(evVar 1)]), (evVar 2), (evC (.int 0))])))

def d_deeds_of : Fd := fnD 7
  (svSeq (svExpr (evCall d_need_word [(evVar 0), (evVar 1)])) (svSeq (svAsg (evRg false [(evOp opAdd (evB bLen [(evVar 1)]) (evC (.int 1)))]) (gvName 2)) (svSeq (svAsg (evLst []) (gvName 3)) (svSeq (svFor (ivSeq (evVar 2)) (gvName 4) (svExpr (evExtend (evVar 3) (evLc (ivBy [(evC (.int 1)), (evOp opAdd (evLenO "Bonds" d_Bonds___len__ (evVar 0)) (evC (.int 1)))] kR2) (Tgt.own (.one 5)) (Tgt.gv (.one 5)) tvYes (evTup [(evC (.str "in")), (evVar 4), (evVar 5)]))))) (svSeq (svExpr (evExtend (evVar 3) (evLc (ivSeq (evVar 2)) (Tgt.own (.one 4)) (Tgt.gv (.one 4)) tvYes (evTup [(evC (.str "out")), (evVar 4)])))) (svSeq (svExpr (evExtend (evVar 3) (evLc (ivSeq (evVar 2)) (Tgt.own (.one 4)) (Tgt.gv (.one 4)) tvYes (evTup [(evC (.str "turn")), (evVar 4)])))) (svRet (evB bTuple [(evLc (ivSeq (evVar 3)) (Tgt.own (.one 6)) (Tgt.gv (.one 6)) (tvOf (evCall d_can [(evVar 0), (evVar 1), (evVar 6)])) (evVar 6))]))))))))

def d_walked : Fd := fnD 6
  (svSeq (svExpr (evCall d_need_word [(evVar 0), (evVar 1)])) (svSeq (svIf (tvNot (tvOf (evCall d_is_list [(evVar 2)]))) (svRaise1 "BadDeed" (evC .non)) svNil) (svSeq (svAsg (evB bTuple [(evVar 1)]) (gvName 3)) (svSeq (svFor (ivBy [(evVar 2)] kEnum) (gvTup [(gvName 4), (gvName 5)]) (svAsg (evCall d_done_at [(evVar 0), (evVar 3), (evVar 5), (evVar 4)]) (gvName 3))) (svRet (evVar 3))))))

def d_back_by : Fd := fnD 2
  (svSeq (svIf (tvOf (evOp opEq (evOp opIx (evVar 1) (evC (.int 0))) (evC (.str "in")))) (svRet (evTup [(evC (.str "out")), (evOp opIx (evVar 1) (evC (.int 1)))])) svNil) (svRet (evIf (tvOf (evOp opEq (evOp opIx (evVar 1) (evC (.int 0))) (evC (.str "out")))) (evTup [(evC (.str "in")), (evOp opIx (evVar 1) (evC (.int 1))), (evOp opIx (evVar 0) (evOp opIx (evVar 1) (evC (.int 1))))]) (evVar 1))))

def d_back : Fd := fnD 3
  (svSeq (svExpr (evCall d_done [(evVar 0), (evVar 1), (evVar 2)])) (svRet (evCall d_back_by [(evB bTuple [(evVar 1)]), (evVar 2)])))

def d_returned : Fd := fnD 6
  (svSeq (svExpr (evCall d_walked [(evVar 0), (evVar 1), (evVar 2)])) (svSeq (svPar [(evB bTuple [(evVar 1)]), (evLst [])] [3, 4]) (svSeq (svFor (ivSeq (evVar 2)) (gvName 5) (svSeq (svExpr (evAppend (evVar 4) (evCall d_back_by [(evVar 3), (evVar 5)]))) (svAsg (evCall d_done_at [(evVar 0), (evVar 3), (evVar 5), (evC (.int 0))]) (gvName 3)))) (svRet (evB bTuple [(evRev (evVar 4))])))))

def d_least_word : Fd := fnD 2
  (svSeq (svExpr (evCall d_need_word [(evVar 0), (evVar 1)])) (svRet (evCall d_shortest_by [(evVar 0), (evVar 1)])))

def d_need_led : Fd := fnD 2
  (svSeq (svExpr (evCall d_need_word [(evVar 0), (evVar 1)])) (svIf (tvOf (evOp opGt (evB bLen [(evVar 1)]) (evC (.int 16)))) (svRaise1 "TooGreat" (evC (.int 16))) svNil))

def d_is_shortest_by : Fd := fnD 2
  (svRet (evOp opEq (evB bLen [(evCall d_undone [(evVar 0), (evCall d_row_by [(evVar 0), (evVar 1)])])]) (evB bLen [(evVar 1)])))

def d_is_shortest : Fd := fnD 2
  (svSeq (svExpr (evCall d_need_word [(evVar 0), (evVar 1)])) (svRet (evCall d_is_shortest_by [(evVar 0), (evVar 1)])))

def d_unlike_letter : Fd := fnD 4
  (svSeq (svFor (ivBy [(evVar 0)] kEnum) (gvTup [(gvName 2), (gvName 3)]) (svIf (tvOf (evOp opNe (evVar 3) (evOp opIx (evVar 1) (evVar 2)))) (svRet (evTup [(evOp opAdd (evVar 2) (evC (.int 1))), (evVar 3), (evOp opIx (evVar 1) (evVar 2))])) svNil)) (svRet (evC .non)))

def d_leads : Fd := fnD 6
  (svSeq (svAsg (evB bTuple [(evVar 1)]) (gvName 4)) (svSeq (svFor (ivSeq (evVar 2)) (gvName 5) (svSeq (svIf (tvNot (tvOf (evCall d_can [(evVar 0), (evVar 4), (evVar 5)]))) (svRet (evC (.bl false))) svNil) (svAsg (evCall d_done [(evVar 0), (evVar 4), (evVar 5)]) (gvName 4)))) (svRet (evOp opEq (evVar 4) (evB bTuple [(evVar 3)])))))

def d_is_paper : Fd := fnD 7
  (svSeq (svExpr (evCall d_need_word [(evVar 0), (evVar 1)])) (svSeq (svExpr (evCall d_need_word [(evVar 0), (evVar 2)])) (svSeq (svIf (tvOr (tvNot (tvOf (evIsi ["tuple"] (evVar 3)))) (tvOr (tvOf (evOp opEq (evVar 3) (evTup []))) (tvNot (tvOf (evIsi ["str"] (evOp opIx (evVar 3) (evC (.int 0)))))))) (svRet (evC (.bl false))) svNil) (svSeq (svIf (tvOf (evOp opEq (evOp opIx (evVar 3) (evC (.int 0))) (evC (.str "deeds")))) (svRet (evAnd (evOp opEq (evB bLen [(evVar 3)]) (evC (.int 2))) (evAnd (evIsi ["tuple"] (evOp opIx (evVar 3) (evC (.int 1)))) (evCall d_leads [(evVar 0), (evVar 1), (evOp opIx (evVar 3) (evC (.int 1))), (evVar 2)])))) svNil) (svSeq (svIf (tvOr (tvOf (evOp opNe (evOp opIx (evVar 3) (evC (.int 0))) (evC (.str "letter")))) (tvOr (tvOf (evOp opNe (evB bLen [(evVar 3)]) (evC (.int 4)))) (tvNot (tvOf (evB bAll [(evLc (ivSeq (evSl (evVar 3) (pvSome (evC (.int 1))) pvNone)) (Tgt.own (.one 6)) (Tgt.gv (.one 6)) tvYes (evCall d_is_whole [(evVar 6)]))]))))) (svRet (evC (.bl false))) svNil) (svSeq (svIf (tvOr (tvNot (tvOf (evChain opLe opLe (evC (.int 1)) (evOp opIx (evVar 3) (evC (.int 1))) (evLenO "Bonds" d_Bonds___len__ (evVar 0))))) (tvOf (evOp opEq (evOp opIx (evVar 3) (evC (.int 2))) (evOp opIx (evVar 3) (evC (.int 3)))))) (svRet (evC (.bl false))) svNil) (svSeq (svPar [(evCall d_row_by [(evVar 0), (evVar 1)]), (evCall d_row_by [(evVar 0), (evVar 2)])] [4, 5]) (svRet (evOp opEq (evTup [(evOp opIx (evVar 4) (evOp opSub (evOp opIx (evVar 3) (evC (.int 1))) (evC (.int 1)))), (evOp opIx (evVar 5) (evOp opSub (evOp opIx (evVar 3) (evC (.int 1))) (evC (.int 1))))]) (evSl (evVar 3) (pvSome (evC (.int 2))) pvNone))))))))))

def d_other_row : Fd := fnD 2
  (svRet (evCall d_row_by [(evVar 0), (evRev (evB bTuple [(evVar 1)]))]))

def d_is_under : Fd := fnD 4
  (svSeq (svWhile (tvOf (evOp opNe (evCall d_below [(evVar 2)]) (evTup []))) (svSeq (svAsg (evOp opIx (evCall d_below [(evVar 2)]) (evC (.int 0))) (gvName 3)) (svSeq (svIf (tvOf (evOp opLt (evOp opIx (evVar 1) (evOp opSub (evVar 3) (evC (.int 1)))) (evC (.int 0)))) (svAsg (evCall d_pressed [(evVar 0), (evVar 1), (evVar 3)]) (gvName 1)) svNil) (svAsg (evCall d_pressed [(evVar 0), (evVar 2), (evVar 3)]) (gvName 2)))) 100000) (svRet (evOp opEq (evVar 1) (evCall d_start [(evVar 0)]))))

def d_is_below : Fd := fnD 3
  (svSeq (svExpr (evCall d_need_word [(evVar 0), (evVar 1)])) (svSeq (svExpr (evCall d_need_word [(evVar 0), (evVar 2)])) (svRet (evCall d_is_under [(evVar 0), (evCall d_row_by [(evVar 0), (evVar 1)]), (evCall d_row_by [(evVar 0), (evVar 2)])]))))

def d_is_just_below : Fd := fnD 4
  (svSeq (svExpr (evCall d_need_word [(evVar 0), (evVar 1)])) (svSeq (svExpr (evCall d_need_word [(evVar 0), (evVar 2)])) (svSeq (svAsg (evTup [(evCall d_row_by [(evVar 0), (evVar 1)]), (evCall d_row_by [(evVar 0), (evVar 2)])]) (gvName 3)) (svRet (evAnd (evOp opEq (evOp opAdd (evB bLen [(evCall d_undone [(evVar 0), (evOp opIx (evVar 3) (evC (.int 0)))])]) (evC (.int 1))) (evB bLen [(evCall d_undone [(evVar 0), (evOp opIx (evVar 3) (evC (.int 1)))])])) (evCall d_is_under [(evVar 0), (evOp opIx (evVar 3) (evC (.int 0))), (evOp opIx (evVar 3) (evC (.int 1)))]))))))

def d_kept : Fd := fnD 7
  (svSeq (svExpr (evCall d_need_word [(evVar 0), (evVar 1)])) (svSeq (svExpr (evCall d_need_word [(evVar 0), (evVar 2)])) (svSeq (svPar [(evCall d_row_by [(evVar 0), (evVar 1)]), (evCall d_shortest_by [(evVar 0), (evVar 2)]), (evLst [])] [3, 4, 5]) (svSeq (svFor (ivBy [(evOp opSub (evB bLen [(evVar 4)]) (evC (.int 1))), (evNeg (evC (.int 1))), (evNeg (evC (.int 1)))] kR3) (gvName 6) (svIf (tvOf (evOp opLt (evOp opIx (evVar 3) (evOp opSub (evOp opIx (evVar 4) (evVar 6)) (evC (.int 1)))) (evC (.int 0)))) (svSeq (svAsg (evCall d_pressed [(evVar 0), (evVar 3), (evOp opIx (evVar 4) (evVar 6))]) (gvName 3)) (svExpr (evAppend (evVar 5) (evVar 6)))) svNil)) (svRet (evIf (tvOf (evOp opEq (evVar 3) (evCall d_start [(evVar 0)]))) (evB bTuple [(evRev (evVar 5))]) (evC .non)))))))

def d_word_by : Fd := fnD 2
  (svRet (evCall d_shortest_by [(evVar 0), (evRev (evCall d_undone [(evVar 0), (evVar 1)]))]))

def d_listed : Fd := fnD 3
  (svSeq (svExpr (evCall d_need_word [(evVar 0), (evVar 1)])) (svSeq (svAsg (evCall d_shortest_by [(evVar 0), (evVar 1)]) (gvName 2)) (svSeq (svIf (tvOf (evOp opGt (evB bLen [(evVar 2)]) (evC (.int 12)))) (svRaise1 "TooGreat" (evC (.int 12))) svNil) (svRet (evVar 2)))))

def d_rows_below : Fd := fnD 5
  (svSeq (svAsg (evDisp [((evCall d_start [(evVar 0)]), (evC (.bl true)))]) (gvName 2)) (svSeq (svFor (ivSeq (evVar 1)) (gvName 3) (svFor (ivSeq (evB bList [(evVar 2)])) (gvName 4) (svAsg (evC (.bl true)) (gvSubL (evVar 2) (evCall d_pressed [(evVar 0), (evVar 4), (evVar 3)]))))) (svRet (evVar 2))))

def d_count_below : Fd := fnD 2
  (svRet (evB bLen [(evCall d_rows_below [(evVar 0), (evCall d_listed [(evVar 0), (evVar 1)])])]))

def d_hangs : Fd := fnD 6
  (svSeq (svAsg (evB bList [(evSl (evVar 1) pvNone (pvSome (evC (.int 1))))]) (gvName 2)) (svSeq (svFor (ivSeq (evVar 1)) (gvName 3) (svFor (ivSeq (evVar 1)) (gvName 4) (svIf (tvAnd (tvOf (evOp (inD true) (evVar 4) (evVar 2))) (tvOf (evB bAny [(evLc (ivSeq (evVar 2)) (Tgt.own (.one 5)) (Tgt.gv (.one 5)) tvYes (evOp opNe (evMeth "Bonds" d_Bonds_bond (evVar 0) [(evVar 4), (evVar 5)]) (evC (.int 2))))]))) (svExpr (evAppend (evVar 2) (evVar 4))) svNil))) (svRet (evAnd (evOp opNe (evVar 2) (evLst [])) (evOp opEq (evB bLen [(evVar 2)]) (evB bLen [(evVar 1)]))))))

def d_strain_rows : Fd := fnD 5
  (svSeq (svAsg (evLst []) (gvName 2)) (svSeq (svFor (ivSeq (evVar 1)) (gvName 3) (svExpr (evAppend (evVar 2) (evLc (ivSeq (evVar 1)) (Tgt.own (.one 4)) (Tgt.gv (.one 4)) tvYes (evIf (tvOf (evOp opEq (evVar 4) (evVar 3))) (evC (.int 2)) (evOp opSub (evC (.int 0)) (evMeth "Bonds" d_Bonds_weight (evVar 0) [(evVar 4), (evVar 3)]))))))) (svRet (evVar 2))))

def d_longest_row : Fd := fnD 6
  (svSeq (svPar [(evCall d_start [(evVar 0)]), (evC (.int 0))] [2, 3]) (svSeq (svAsg (evB bList [(evVar 1)]) (gvName 4)) (svSeq (svWhile (tvOf (evOp opNe (evVar 4) (evLst []))) (svSeq (svPar [(evCall d_pressed [(evVar 0), (evVar 2), (evOp opIx (evVar 4) (evC (.int 0)))]), (evOp opAdd (evVar 3) (evC (.int 1)))] [2, 3]) (svAsg (evLc (ivSeq (evVar 1)) (Tgt.own (.one 5)) (Tgt.gv (.one 5)) (tvOf (evOp opGt (evOp opIx (evVar 2) (evOp opSub (evVar 5) (evC (.int 1)))) (evC (.int 0)))) (evVar 5)) (gvName 4))) 100000) (svRet (evTup [(evVar 2), (evVar 3)])))))

def d_is_choice : Fd := fnD 5
  (svSeq (svIf (tvOr (tvNot (tvOf (evIsi ["tuple"] (evVar 1)))) (tvNot (tvOf (evB bAll [(evLc (ivSeq (evVar 1)) (Tgt.own (.one 2)) (Tgt.gv (.one 2)) tvYes (evCall d_is_among [(evVar 2), (evC (.int 1)), (evLenO "Bonds" d_Bonds___len__ (evVar 0))]))])))) (svRet (evC (.bl false))) svNil) (svRet (evB bAll [(evLc (ivBy [(evVar 1), (evSl (evVar 1) (pvSome (evC (.int 1))) pvNone)] kZip) (Tgt.own (.two 3 4)) (Tgt.gv (.two 3 4)) tvYes (evOp opLt (evVar 3) (evVar 4)))])))

def d_need_choice : Fd := fnD 2
  (svIf (tvNot (tvOf (evCall d_is_choice [(evVar 0), (evVar 1)]))) (svRaise1 "BadChoice" (evVar 1)) svNil)

def d_ends_in : Fd := fnD 3
  (svRet (evLc (ivSeq (evVar 1)) (Tgt.own (.one 2)) (Tgt.gv (.one 2)) (tvOf (evOp opLt (evOp opIx (evVar 0) (evOp opSub (evVar 2) (evC (.int 1)))) (evC (.int 0)))) (evVar 2)))

def d_is_ahead : Fd := fnD 3
  (svSeq (svExpr (evCall d_need_word [(evVar 0), (evVar 1)])) (svSeq (svExpr (evCall d_need_choice [(evVar 0), (evVar 2)])) (svRet (evOp opEq (evCall d_ends_in [(evCall d_row_by [(evVar 0), (evVar 1)]), (evVar 2)]) (evLst [])))))

def d_is_behind : Fd := fnD 3
  (svSeq (svExpr (evCall d_need_word [(evVar 0), (evVar 1)])) (svSeq (svExpr (evCall d_need_choice [(evVar 0), (evVar 2)])) (svRet (evOp opEq (evCall d_ends_in [(evCall d_row_by [(evVar 0), (evRev (evB bTuple [(evVar 1)]))]), (evVar 2)]) (evLst [])))))

def d_is_within : Fd := fnD 4
  (svSeq (svExpr (evCall d_need_word [(evVar 0), (evVar 1)])) (svSeq (svExpr (evCall d_need_choice [(evVar 0), (evVar 2)])) (svRet (evB bAll [(evLc (ivSeq (evCall d_shortest_by [(evVar 0), (evVar 1)])) (Tgt.own (.one 3)) (Tgt.gv (.one 3)) tvYes (evOp (inD false) (evVar 3) (evVar 2)))]))))

def d_parted_by : Fd := fnD 6
  (svSeq (svPar [(evCall d_row_by [(evVar 0), (evVar 1)]), (evLst [])] [3, 4]) (svSeq (svAsg (evCall d_ends_in [(evVar 3), (evVar 2)]) (gvName 5)) (svSeq (svWhile (tvOf (evOp opNe (evVar 5) (evLst []))) (svSeq (svExpr (evAppend (evVar 4) (evOp opIx (evVar 5) (evC (.int 0))))) (svSeq (svAsg (evCall d_pressed [(evVar 0), (evVar 3), (evOp opIx (evVar 5) (evC (.int 0)))]) (gvName 3)) (svAsg (evCall d_ends_in [(evVar 3), (evVar 2)]) (gvName 5)))) 100000) (svRet (evTup [(evCall d_word_by [(evVar 0), (evVar 3)]), (evCall d_shortest_by [(evVar 0), (evB bTuple [(evRev (evVar 4))])])])))))

def d_parted : Fd := fnD 3
  (svSeq (svExpr (evCall d_need_word [(evVar 0), (evVar 1)])) (svSeq (svExpr (evCall d_need_choice [(evVar 0), (evVar 2)])) (svRet (evCall d_parted_by [(evVar 0), (evVar 1), (evVar 2)]))))

def d_parted_ahead : Fd := fnD 5
  (svSeq (svExpr (evCall d_need_word [(evVar 0), (evVar 1)])) (svSeq (svExpr (evCall d_need_choice [(evVar 0), (evVar 2)])) (svSeq (svAsg (evCall d_parted_by [(evVar 0), (evRev (evB bTuple [(evVar 1)])), (evVar 2)]) (gvTup [(gvName 3), (gvName 4)])) (svRet (evTup [(evCall d_shortest_by [(evVar 0), (evRev (evVar 4))]), (evCall d_shortest_by [(evVar 0), (evRev (evVar 3))])])))))

def d_least_between : Fd := fnD 5
  (svSeq (svExpr (evCall d_need_word [(evVar 0), (evVar 2)])) (svSeq (svExpr (evCall d_need_choice [(evVar 0), (evVar 1)])) (svSeq (svExpr (evCall d_need_choice [(evVar 0), (evVar 3)])) (svSeq (svAsg (evOp opIx (evCall d_parted_by [(evVar 0), (evVar 2), (evVar 3)]) (evC (.int 0))) (gvName 4)) (svRet (evCall d_shortest_by [(evVar 0), (evRev (evOp opIx (evCall d_parted_by [(evVar 0), (evRev (evVar 4)), (evVar 1)]) (evC (.int 0))))]))))))

def d_hangs_together : Fd := fnD 2
  (svSeq (svExpr (evCall d_need_choice [(evVar 0), (evVar 1)])) (svRet (evCall d_hangs [(evVar 0), (evVar 1)])))

def d_strains : Fd := fnD 7
  (svSeq (svAsg (evLst []) (gvName 3)) (svSeq (svFor (ivSeq (evCall d_strain_rows [(evVar 0), (evVar 1)])) (gvName 4) (svExpr (evAppend (evVar 3) (evB bSum [(evLc (ivBy [(evVar 4), (evVar 2)] kZip) (Tgt.own (.two 5 6)) (Tgt.gv (.two 5 6)) tvYes (evOp opMul (evVar 5) (evVar 6)))])))) (svRet (evVar 3))))

def d_is_measure : Fd := fnD 3
  (svSeq (svIf (tvOr (tvNot (tvOf (evIsi ["tuple"] (evVar 1)))) (tvOf (evOp opNe (evB bLen [(evVar 1)]) (evB bLen [(evVar 0)])))) (svRet (evC (.bl false))) svNil) (svRet (evB bAll [(evLc (ivSeq (evVar 1)) (Tgt.own (.one 2)) (Tgt.gv (.one 2)) tvYes (evAnd (evCall d_is_whole [(evVar 2)]) (evOp opGt (evVar 2) (evC (.int 0)))))])))

def d_is_part : Fd := fnD 3
  (svRet (evB bAll [(evLc (ivSeq (evVar 0)) (Tgt.own (.one 2)) (Tgt.gv (.one 2)) tvYes (evOp (inD false) (evVar 2) (evVar 1)))]))

def d_inverse_of : Fd := fnD 5
  (svSeq (svAsg (evLst [(evOp opIx (evVar 0) (evC (.int 0)))]) (gvName 1)) (svSeq (svFor (ivBy [(evC (.int 1)), (evB bLen [(evVar 0)])] kR2) (gvName 2) (svSeq (svAsg (evB bSum [(evLc (ivBy [(evC (.int 1)), (evOp opAdd (evVar 2) (evC (.int 1)))] kR2) (Tgt.own (.one 4)) (Tgt.gv (.one 4)) tvYes (evOp opMul (evOp opIx (evVar 0) (evVar 4)) (evOp opIx (evVar 1) (evOp opSub (evVar 2) (evVar 4)))))]) (gvName 3)) (svExpr (evAppend (evVar 1) (evOp opSub (evC (.int 0)) (evOp opMul (evOp opIx (evVar 0) (evC (.int 0))) (evVar 3))))))) (svRet (evVar 1))))

def d_product_of : Fd := fnD 4
  (svRet (evLc (ivBy [(evB bLen [(evVar 0)])] kR1) (Tgt.own (.one 2)) (Tgt.gv (.one 2)) tvYes (evB bSum [(evLc (ivBy [(evOp opAdd (evVar 2) (evC (.int 1)))] kR1) (Tgt.own (.one 3)) (Tgt.gv (.one 3)) tvYes (evOp opMul (evOp opIx (evVar 0) (evVar 3)) (evOp opIx (evVar 1) (evOp opSub (evVar 2) (evVar 3)))))])))

def d_need_many : Fd := fnD 2
  (svIf (tvNot (tvOf (evCall d_is_among [(evVar 0), (evC (.int 0)), (evVar 1)]))) (svRaise1 "BadNumber" (evVar 0)) svNil)

end BW

set_option Elab.async false
set_option linter.all false
set_option maxRecDepth 100000
set_option maxHeartbeats 4000000
namespace BW
open PySem PySem.Spec PyProof.Rows L2

def d__law_mixed : Fd := fnD 3
  (svSeq (svAsg (evOp opAdd (evOp opAdd (evOp opMod (evB bInt [(evOp opMul (evOp opMul (evVar 0) (evOp opAdd (evC (.int 1)) (evOp opMul (evC (.int 2)) (evVar 1)))) (evC (.int 48271)))]) (evC (.int 2147483647))) (evOp opMul (evOp opMul (evC (.int 7919)) (evVar 1)) (evVar 1))) (evOp opMul (evC (.int 104729)) (evVar 1))) (gvName 2)) (svRet (evOp opFdiv (evOp opMod (evB bInt [(evOp opMul (evVar 2) (evC (.int 69621)))]) (evC (.int 2147483629))) (evC (.int 7)))))

def d__law_folded : Fd := fnD 4
  (svSeq (svAsg (evLc (ivBy [(evC (.int 64))] kR1) (Tgt.own (.one 2)) (Tgt.gv (.one 2)) tvYes (evOp opAdd (evC (.int 17)) (evVar 2))) (gvName 1)) (svSeq (svFor (ivBy [(evVar 0)] kEnum) (gvTup [(gvName 2), (gvName 3)]) (svAsg (evOp opMod (evB bInt [(evOp opAdd (evOp opMul (evOp opIx (evVar 1) (evOp opMod (evB bInt [(evVar 2)]) (evC (.int 64)))) (evC (.int 48271))) (evVar 3))]) (evC (.int 2147483647))) (gvSubL (evVar 1) (evOp opMod (evB bInt [(evVar 2)]) (evC (.int 64)))))) (svSeq (svFor (ivBy [(evC (.int 1)), (evC (.int 64))] kR2) (gvName 2) (svAsg (evOp opMod (evB bInt [(evOp opAdd (evOp opIx (evVar 1) (evVar 2)) (evOp opMul (evOp opIx (evVar 1) (evOp opSub (evVar 2) (evC (.int 1)))) (evC (.int 16807))))]) (evC (.int 2147483647))) (gvSubL (evVar 1) (evVar 2)))) (svRet (evVar 1)))))

def d__law_draw : Fd := fnD 6
  (svSeq (svAsg (evDg (evVar 0) (evC (.str "spot"))) (gvName 2)) (svSeq (svDput (evVar 0) (evC (.str "spot")) (evOp opAdd (evVar 2) (evC (.int 1)))) (svSeq (svIf (tvOf (evOp opNe (evDg (evVar 0) (evC (.str "great"))) (evLst []))) (svSeq (svAsg (evDg (evVar 0) (evC (.str "great"))) (gvName 3)) (svSeq (svAsg (evOp opMod (evB bInt [(evVar 2)]) (evB bLen [(evVar 3)])) (gvName 4)) (svSeq (svAsg (evOp opIx (evVar 3) (evVar 4)) (gvName 5)) (svIf (tvOf (evOp opGt (evVar 5) (evC (.int 0)))) (svSeq (svAsg (evOp opFdiv (evVar 5) (evVar 1)) (gvSubL (evVar 3) (evVar 4))) (svRet (evOp opMod (evB bInt [(evVar 5)]) (evVar 1)))) svNil)))) svNil) (svSeq (svAsg (evDg (evVar 0) (evC (.str "cells"))) (gvName 3)) (svRet (evOp opMod (evB bInt [(evCall d__law_mixed [(evCall d__law_mixed [(evOp opAdd (evOp opIx (evVar 3) (evOp opMod (evB bInt [(evVar 2)]) (evC (.int 64)))) (evOp opMul (evC (.int 31)) (evOp opFdiv (evVar 2) (evC (.int 64))))), (evVar 2)]), (evOp opAdd (evVar 2) (evC (.int 7)))])]) (evVar 1)))))))

def d__law_begun : Fd := fnD 3
  (svSeq (svAsg (evDisp [((evC (.str "cells")), (evCall d__law_folded [(evVar 0)])), ((evC (.str "great")), (evLst [])), ((evC (.str "spot")), (evC (.int 0)))]) (gvName 1)) (svSeq (svDput (evVar 1) (evC (.str "great")) (evLc (ivSeq (evVar 0)) (Tgt.own (.one 2)) (Tgt.gv (.one 2)) tvYes (evIf (tvOf (evOp opGe (evVar 2) (evOp opPow (evC (.int 10)) (evC (.int 18))))) (evVar 2) (evC (.int 0))))) (svRet (evVar 1))))

def d__law_table : Fd := fnD 8
  (svSeq (svAsg (evOp opAdd (evC (.int 1)) (evCall d__law_draw [(evVar 0), (evVar 1)])) (gvName 2)) (svSeq (svAsg (evCall d__law_draw [(evVar 0), (evC (.int 4))]) (gvName 3)) (svSeq (svAsg (evLc (ivBy [(evVar 2)] kR1) (Tgt.own (.one 5)) (Tgt.gv (.one 5)) tvYes (evLc (ivBy [(evVar 2)] kR1) (Tgt.own (.one 6)) (Tgt.gv (.one 6)) tvYes (evIf (tvOf (evOp opEq (evVar 5) (evVar 6))) (evC (.int 1)) (evC (.int 2))))) (gvName 4)) (svSeq (svFor (ivBy [(evVar 2)] kR1) (gvName 5) (svFor (ivBy [(evOp opAdd (evVar 5) (evC (.int 1))), (evVar 2)] kR2) (gvName 6) (svSeq (svAsg (evC (.int 2)) (gvName 7)) (svSeq (svIf (tvOf (evOp opLt (evVar 3) (evC (.int 2)))) (svAsg (evOp opIx (evLst [(evC (.int 2)), (evC (.int 3)), (evC (.int 3)), (evC (.int 4)), (evC (.int 6)), (evC (.int 0)), (evC (.int 2)), (evC (.int 2))]) (evCall d__law_draw [(evVar 0), (evC (.int 8))])) (gvName 7)) (svIf (tvOf (evOp opEq (evVar 6) (evOp opAdd (evVar 5) (evC (.int 1))))) (svAsg (evIf (tvOr (tvOf (evOp opLt (evVar 6) (evOp opSub (evVar 2) (evC (.int 1))))) (tvOf (evOp opEq (evVar 3) (evC (.int 2))))) (evC (.int 3)) (evOp opIx (evLst [(evC (.int 3)), (evC (.int 4)), (evC (.int 6)), (evC (.int 0))]) (evCall d__law_draw [(evVar 0), (evC (.int 4))]))) (gvName 7)) svNil)) (svAsg (evTup [(evVar 7), (evVar 7)]) (gvTup [(gvSubL (evOp opIx (evVar 4) (evVar 5)) (evVar 6)), (gvSubL (evOp opIx (evVar 4) (evVar 6)) (evVar 5))])))))) (svRet (evVar 4))))))

def d__law_class : Fd := fnD 5
  (svSeq (svAsg (evLst [(evTup [(evC (.str "BadBonds")), (evIsX (fun c => decide (c = "BadBonds")) (evVar 0))]), (evTup [(evC (.str "BadWord")), (evIsX (fun c => decide (c = "BadWord")) (evVar 0))])]) (gvName 1)) (svSeq (svAsg (evOp opAdd (evVar 1) (evLst [(evTup [(evC (.str "BadRow")), (evIsX (fun c => decide (c = "BadRow")) (evVar 0))]), (evTup [(evC (.str "BadDeed")), (evIsX (fun c => decide (c = "BadDeed")) (evVar 0))])])) (gvName 1)) (svSeq (svAsg (evOp opAdd (evVar 1) (evLst [(evTup [(evC (.str "BadNumber")), (evIsX (fun c => decide (c = "BadNumber")) (evVar 0))]), (evTup [(evC (.str "Unlike")), (evIsX (fun c => decide (c = "Unlike")) (evVar 0))])])) (gvName 1)) (svSeq (svExpr (evAppend (evVar 1) (evTup [(evC (.str "TooGreat")), (evIsX (fun c => decide (c = "TooGreat")) (evVar 0))]))) (svSeq (svAsg (evLc (ivSeq (evVar 1)) (Tgt.own (.two 3 4)) (Tgt.gv (.two 3 4)) (tvOf (evVar 4)) (evVar 3)) (gvName 2)) (svSeq (svIf (tvOf (evOp opNe (evB bLen [(evVar 2)]) (evC (.int 1)))) (svRet (evTup [(evC (.str "other"))])) svNil) (svSeq (svIf (tvOf (evOp (inD false) (evOp opIx (evVar 2) (evC (.int 0))) (evTup [(evC (.str "BadBonds")), (evC (.str "BadWord")), (evC (.str "BadDeed"))]))) (svRet (evTup [(evOp opIx (evVar 2) (evC (.int 0))), (evFld "place" (evVar 0))])) svNil) (svSeq (svIf (tvOf (evOp (inD false) (evOp opIx (evVar 2) (evC (.int 0))) (evTup [(evC (.str "BadRow")), (evC (.str "BadNumber"))]))) (svRet (evTup [(evOp opIx (evVar 2) (evC (.int 0))), (evFld "value" (evVar 0))])) svNil) (svRet (evIf (tvOf (evOp opEq (evOp opIx (evVar 2) (evC (.int 0))) (evC (.str "TooGreat")))) (evTup [(evOp opIx (evVar 2) (evC (.int 0))), (evFld "most" (evVar 0))]) (evTup [(evC (.str "Unlike"))])))))))))))

def d__law_told : Fh := fnTold 4
  (svRet (evIf (tvOf (evOp opIsN (evVar 2) (evC .non))) (evLst [(evVar 1)]) (evCall d__law_class [(evVar 2)])))

def d__law_weight : Fd := fnD 5
  (svSeq (svIf (tvOf (evOp opEq (evVar 1) (evVar 2))) (svRet (evOp opSub (evC (.int 0)) (evC (.int 2)))) svNil) (svSeq (svAsg (evDg (evDisp [((evC (.int 2)), (evTup [(evC (.int 0)), (evC (.int 0))])), ((evC (.int 3)), (evTup [(evC (.int 1)), (evC (.int 1))])), ((evC (.int 4)), (evTup [(evC (.int 1)), (evC (.int 2))])), ((evC (.int 6)), (evTup [(evC (.int 1)), (evC (.int 3))])), ((evC (.int 0)), (evTup [(evC (.int 2)), (evC (.int 2))]))]) (evOp opIx (evOp opIx (evVar 0) (evOp opSub (evVar 1) (evC (.int 1)))) (evOp opSub (evVar 2) (evC (.int 1))))) (gvTup [(gvName 3), (gvName 4)])) (svRet (evIf (tvOf (evOp opLt (evVar 1) (evVar 2))) (evVar 3) (evVar 4)))))

def d__law_press : Fd := fnD 4
  (svRet (evB bTuple [(evLc (ivBy [(evB bLen [(evVar 0)])] kR1) (Tgt.own (.one 3)) (Tgt.gv (.one 3)) tvYes (evOp opAdd (evOp opIx (evVar 1) (evVar 3)) (evOp opMul (evCall d__law_weight [(evVar 0), (evVar 2), (evOp opAdd (evVar 3) (evC (.int 1)))]) (evOp opIx (evVar 1) (evOp opSub (evVar 2) (evC (.int 1)))))))]))

def d__law_row : Fd := fnD 4
  (svSeq (svAsg (evOp opMul (evTup [(evC (.int 1))]) (evB bLen [(evVar 0)])) (gvName 2)) (svSeq (svFor (ivSeq (evVar 1)) (gvName 3) (svAsg (evCall d__law_press [(evVar 0), (evVar 2), (evVar 3)]) (gvName 2))) (svRet (evVar 2))))

def d__law_word : Fd := fnD 10
  (svSeq (svPar [(evLst []), (evCall d__law_draw [(evVar 0), (evC (.int 3))]), (evOp opMul (evTup [(evC (.int 1))]) (evB bLen [(evVar 1)]))] [3, 4, 5]) (svSeq (svFor (ivBy [(evCall d__law_draw [(evVar 0), (evOp opAdd (evVar 2) (evC (.int 1)))])] kR1) (gvName 6) (svSeq (svAsg (evOp opAdd (evC (.int 1)) (evCall d__law_draw [(evVar 0), (evB bLen [(evVar 1)])])) (gvName 7)) (svSeq (svIf (tvAnd (tvOf (evOp opGt (evVar 4) (evC (.int 0)))) (tvAnd (tvOf (evOp opLt (evOp opIx (evVar 5) (evOp opSub (evVar 7) (evC (.int 1)))) (evC (.int 0)))) (tvOf (evOp opGt (evCall d__law_draw [(evVar 0), (evC (.int 8))]) (evC (.int 0)))))) (svSeq (svAsg (evLc (ivBy [(evB bLen [(evVar 1)])] kR1) (Tgt.own (.one 9)) (Tgt.gv (.one 9)) (tvOf (evOp opGt (evOp opIx (evVar 5) (evVar 9)) (evC (.int 0)))) (evOp opAdd (evVar 9) (evC (.int 1)))) (gvName 8)) (svAsg (evIf (tvOf (evOp opNe (evVar 8) (evLst []))) (evOp opIx (evVar 8) (evCall d__law_draw [(evVar 0), (evB bLen [(evVar 8)])])) (evVar 7)) (gvName 7))) svNil) (svSeq (svExpr (evAppend (evVar 3) (evVar 7))) (svAsg (evCall d__law_press [(evVar 1), (evVar 5), (evVar 7)]) (gvName 5)))))) (svRet (evB bTuple [(evVar 3)]))))

def d__law_stretch : Fd := fnD 4
  (svRet (evB bTuple [(evLc (ivBy [(evVar 2)] kR1) (Tgt.own (.one 3)) (Tgt.gv (.one 3)) tvYes (evOp opIx (evLst [(evVar 0), (evVar 1)]) (evOp opMod (evB bInt [(evVar 3)]) (evC (.int 2)))))]))

def d__law_below : Fd := fnD 2
  (svRet (evLc (ivBy [(evB bLen [(evVar 0)])] kR1) (Tgt.own (.one 1)) (Tgt.gv (.one 1)) (tvOf (evOp opLt (evOp opIx (evVar 0) (evVar 1)) (evC (.int 0)))) (evOp opAdd (evVar 1) (evC (.int 1)))))

def d__law_undone : Fd := fnD 4
  (svSeq (svPar [(evLst []), (evVar 1)] [2, 3]) (svSeq (svWhile (tvAnd (tvOf (evOp opNe (evCall d__law_below [(evVar 3)]) (evLst []))) (tvOf (evOp opLt (evB bLen [(evVar 2)]) (evC (.int 61))))) (svSeq (svExpr (evAppend (evVar 2) (evOp opIx (evCall d__law_below [(evVar 3)]) (evNeg (evC (.int 1)))))) (svAsg (evCall d__law_press [(evVar 0), (evVar 3), (evOp opIx (evVar 2) (evNeg (evC (.int 1))))]) (gvName 3))) 100000) (svRet (evVar 2))))

def d__law_length : Fd := fnD 2
  (svRet (evB bLen [(evCall d__law_undone [(evVar 0), (evCall d__law_row [(evVar 0), (evVar 1)])])]))

def d__law_least : Fd := fnD 4
  (svSeq (svPar [(evLst []), (evCall d__law_row [(evVar 0), (evRev (evVar 1))])] [2, 3]) (svSeq (svWhile (tvOf (evOp opNe (evCall d__law_below [(evVar 3)]) (evLst []))) (svSeq (svExpr (evAppend (evVar 2) (evOp opIx (evCall d__law_below [(evVar 3)]) (evC (.int 0))))) (svAsg (evCall d__law_press [(evVar 0), (evVar 3), (evOp opIx (evVar 2) (evNeg (evC (.int 1))))]) (gvName 3))) 100000) (svRet (evB bTuple [(evVar 2)]))))

def d__law_moved : Fd := fnD 7
  (svSeq (svAsg (evOp opIx (evVar 2) (evC (.int 1))) (gvName 3)) (svSeq (svIf (tvOf (evOp opEq (evOp opIx (evVar 2) (evC (.int 0))) (evC (.str "in")))) (svRet (evOp opAdd (evOp opAdd (evSl (evVar 1) pvNone (pvSome (evVar 3))) (evTup [(evOp opIx (evVar 2) (evC (.int 2))), (evOp opIx (evVar 2) (evC (.int 2)))])) (evSl (evVar 1) (pvSome (evVar 3)) pvNone))) svNil) (svSeq (svIf (tvOr (tvOf (evOp opGe (evOp opAdd (evVar 3) (evC (.int 1))) (evB bLen [(evVar 1)]))) (tvOf (evOp opNe (evOp opEq (evOp opIx (evVar 1) (evVar 3)) (evOp opIx (evVar 1) (evOp opAdd (evVar 3) (evC (.int 1))))) (evOp opEq (evOp opIx (evVar 2) (evC (.int 0))) (evC (.str "out")))))) (svRet (evC .non)) svNil) (svSeq (svIf (tvOf (evOp opEq (evOp opIx (evVar 2) (evC (.int 0))) (evC (.str "out")))) (svRet (evOp opAdd (evSl (evVar 1) pvNone (pvSome (evVar 3))) (evSl (evVar 1) (pvSome (evOp opAdd (evVar 3) (evC (.int 2)))) pvNone))) svNil) (svSeq (svPar [(evOp opIx (evVar 1) (evVar 3)), (evOp opIx (evVar 1) (evOp opAdd (evVar 3) (evC (.int 1))))] [4, 5]) (svSeq (svAsg (evOp opIx (evOp opIx (evVar 0) (evOp opSub (evVar 4) (evC (.int 1)))) (evOp opSub (evVar 5) (evC (.int 1)))) (gvName 6)) (svSeq (svIf (tvOr (tvOf (evOp opEq (evVar 6) (evC (.int 0)))) (tvOf (evOp opNe (evSl (evVar 1) (pvSome (evVar 3)) (pvSome (evOp opAdd (evVar 3) (evVar 6)))) (evCall d__law_stretch [(evVar 4), (evVar 5), (evVar 6)])))) (svRet (evC .non)) svNil) (svRet (evOp opAdd (evOp opAdd (evSl (evVar 1) pvNone (pvSome (evVar 3))) (evCall d__law_stretch [(evVar 5), (evVar 4), (evVar 6)])) (evSl (evVar 1) (pvSome (evOp opAdd (evVar 3) (evVar 6))) pvNone))))))))))

def d__law_deeds : Fd := fnD 8
  (svSeq (svAsg (evLst []) (gvName 2)) (svSeq (svFor (ivBy [(evOp opAdd (evB bLen [(evVar 1)]) (evC (.int 1)))] kR1) (gvName 3) (svAsg (evOp opAdd (evVar 2) (evLc (ivBy [(evB bLen [(evVar 0)])] kR1) (Tgt.own (.one 5)) (Tgt.gv (.one 5)) tvYes (evTup [(evC (.str "in")), (evVar 3), (evOp opAdd (evVar 5) (evC (.int 1)))]))) (gvName 2))) (svSeq (svAsg (evOp opAdd (evOp opAdd (evVar 2) (evLc (ivBy [(evOp opAdd (evB bLen [(evVar 1)]) (evC (.int 1)))] kR1) (Tgt.own (.one 3)) (Tgt.gv (.one 3)) tvYes (evTup [(evC (.str "out")), (evVar 3)]))) (evLc (ivBy [(evOp opAdd (evB bLen [(evVar 1)]) (evC (.int 1)))] kR1) (Tgt.own (.one 3)) (Tgt.gv (.one 3)) tvYes (evTup [(evC (.str "turn")), (evVar 3)]))) (gvName 2)) (svSeq (svAsg (evLc (ivSeq (evVar 2)) (Tgt.own (.one 6)) (Tgt.gv (.one 6)) tvYes (evTup [(evVar 6), (evCall d__law_moved [(evVar 0), (evVar 1), (evVar 6)])])) (gvName 4)) (svRet (evLc (ivSeq (evVar 4)) (Tgt.own (.two 6 7)) (Tgt.gv (.two 6 7)) (tvAnd (tvOf (evOp opNotN (evVar 7) (evC .non))) (tvOf (evOp opLt (evB bLen [(evVar 7)]) (evC (.int 61))))) (evVar 6)))))))

def d__law_step : Fd := fnD 6
  (svSeq (svAsg (evLc (ivSeq (evCall d__law_deeds [(evVar 1), (evVar 2)])) (Tgt.own (.one 5)) (Tgt.gv (.one 5)) (tvOf (evOp opNe (evOp opIx (evVar 5) (evC (.int 0))) (evC (.str "in")))) (evVar 5)) (gvName 4)) (svSeq (svIf (tvOr (tvOf (evOp opEq (evVar 4) (evLst []))) (tvOf (evOp opEq (evCall d__law_draw [(evVar 0), (evC (.int 3))]) (evC (.int 0))))) (svIf (tvOf (evOp opLe (evOp opAdd (evB bLen [(evVar 2)]) (evC (.int 2))) (evVar 3))) (svRet (evTup [(evC (.str "in")), (evCall d__law_draw [(evVar 0), (evOp opAdd (evB bLen [(evVar 2)]) (evC (.int 1)))]), (evOp opAdd (evC (.int 1)) (evCall d__law_draw [(evVar 0), (evB bLen [(evVar 1)])]))])) svNil) svNil) (svRet (evIf (tvOf (evOp opNe (evVar 4) (evLst []))) (evOp opIx (evVar 4) (evCall d__law_draw [(evVar 0), (evB bLen [(evVar 4)])])) (evC .non)))))

def d__law_led : Fd := fnD 6
  (svSeq (svAsg (evVar 1) (gvName 4)) (svSeq (svFor (ivSeq (evVar 2)) (gvName 5) (svSeq (svIf (tvOr (tvNot (tvOf (evIsi ["tuple"] (evVar 5)))) (tvOr (tvOf (evOp (inD true) (evB bLen [(evVar 5)]) (evTup [(evC (.int 2)), (evC (.int 3))]))) (tvOf (evOp (inD true) (evOp opIx (evVar 5) (evC (.int 0))) (evVar 3))))) (svRet (evC .non)) svNil) (svSeq (svIf (tvOr (tvNot (tvOf (evChain opLe opLe (evC (.int 0)) (evOp opIx (evVar 5) (evC (.int 1))) (evB bLen [(evVar 4)])))) (tvOf (evOp opNe (evOp opEq (evOp opIx (evVar 5) (evC (.int 0))) (evC (.str "in"))) (evOp opEq (evB bLen [(evVar 5)]) (evC (.int 3)))))) (svRet (evC .non)) svNil) (svSeq (svAsg (evCall d__law_moved [(evVar 0), (evVar 4), (evVar 5)]) (gvName 4)) (svIf (tvOr (tvOf (evOp opIsN (evVar 4) (evC .non))) (tvOf (evOp opGt (evB bLen [(evVar 4)]) (evC (.int 60))))) (svRet (evC .non)) svNil))))) (svRet (evVar 4))))

end BW

set_option Elab.async false
set_option linter.all false
set_option maxRecDepth 100000
set_option maxHeartbeats 4000000
namespace BW
open PySem PySem.Spec PyProof.Rows L2
def d__law_pressed : Fd := fnD 4
  (svSeq (svFor (ivSeq (evVar 2)) (gvName 3) (svAsg (evCall d_press [(evVar 0), (evVar 1), (evVar 3)]) (gvName 1))) (svRet (evVar 1)))

def d__law_pair_right : Fd := fnD 10
  (svSeq (svPar [(evOp opIx (evOp opIx (evVar 1) (evOp opSub (evVar 3) (evC (.int 1)))) (evOp opSub (evVar 4) (evC (.int 1)))), (evOp opMul (evTup [(evC (.int 1))]) (evB bLen [(evVar 1)]))] [5, 6]) (svSeq (svIf (tvOf (evOp opGt (evVar 5) (evC (.int 0)))) (svIf (tvOf (evOp opNe (evCall d__law_pressed [(evVar 0), (evVar 2), (evCall d__law_stretch [(evVar 3), (evVar 4), (evVar 5)])]) (evCall d__law_pressed [(evVar 0), (evVar 2), (evCall d__law_stretch [(evVar 4), (evVar 3), (evVar 5)])]))) (svRet (evC (.bl false))) svNil) svNil) (svSeq (svFor (ivBy [(evC (.int 1)), (evIf (tvOf (evOp opGt (evVar 5) (evC (.int 0)))) (evVar 5) (evC (.int 9)))] kR2) (gvName 7) (svSeq (svPar [(evCall d__law_stretch [(evVar 3), (evVar 4), (evVar 7)]), (evCall d__law_stretch [(evVar 4), (evVar 3), (evVar 7)])] [8, 9]) (svIf (tvOf (evOp opEq (evCall d__law_pressed [(evVar 0), (evVar 6), (evVar 8)]) (evCall d__law_pressed [(evVar 0), (evVar 6), (evVar 9)]))) (svRet (evC (.bl false))) svNil))) (svRet (evC (.bl true))))))

def d_law : Fd := fnD 10
  (svSeq (svAsg (evCall d__law_begun [(evVar 0)]) (gvName 1)) (svSeq (svFor (ivSeq (evTup [(evC (.int 6)), (evC (.int 20)), (evC (.int 40))])) (gvName 2) (svSeq (svAsg (evCall d__law_table [(evVar 1), (evC (.int 6))]) (gvName 3)) (svSeq (svPar [(evMake "Bonds" d_Bonds___init__ [(evVar 3)]), (evCall d__law_word [(evVar 1), (evVar 3), (evVar 2)])] [4, 5]) (svSeq (svAsg (evB bTuple [(evLc (ivSeq (evVar 3)) (Tgt.own (.one 8)) (Tgt.gv (.one 8)) tvYes (evOp opSub (evCall d__law_draw [(evVar 1), (evOp opPow (evC (.int 10)) (evC (.int 20)))]) (evOp opPow (evC (.int 10)) (evC (.int 19)))))]) (gvName 6)) (svSeq (svFor (ivBy [(evC (.int 1)), (evOp opAdd (evB bLen [(evVar 3)]) (evC (.int 1)))] kR2) (gvName 7) (svFor (ivBy [(evC (.int 1)), (evOp opAdd (evB bLen [(evVar 3)]) (evC (.int 1)))] kR2) (gvName 8) (svIf (tvAnd (tvOf (evOp opNe (evVar 7) (evVar 8))) (tvNot (tvOf (evCall d__law_pair_right [(evVar 4), (evVar 3), (evVar 6), (evVar 7), (evVar 8)])))) (svRet (evC (.bl false))) svNil))) (svFor (ivBy [(evOp opAdd (evB bLen [(evVar 5)]) (evC (.int 1)))] kR1) (gvName 9) (svIf (tvOf (evOp (inD false) (evC (.int 0)) (evCall d_row_of [(evVar 4), (evSl (evVar 5) pvNone (pvSome (evVar 9)))]))) (svRet (evC (.bl false))) svNil))))))) (svRet (evC (.bl true)))))

end BW

set_option Elab.async false
set_option linter.all false
set_option maxRecDepth 100000
set_option maxHeartbeats 4000000
namespace BW
open PySem
/-! ### the plain side: how a denotation is worked out -/
def Fl.seq (o : Fl) (k : Env → AH → Fl) : Fl := match o with
  | .nx e h => k e h
  | o => o
def Fl.fin (o : Fl) (h : AH) : Out D := match o with
  | .ret d h' => BW.fin h d h'
  | .nx _ h' => BW.fin h .non h'
  | .exc x _ h' => finX h x h'
  | _ => .stuck
section
variable {α β : Type}
@[simp] theorem bind_ok (a : α) (h : AH) (f : α → AH → Out β) : (Out.ok a h).bind f = f a h := nrfl rfl
@[simp] theorem bind_stuck (f : α → AH → Out β) : (Out.stuck : Out α).bind f = .stuck := nrfl rfl
@[simp] theorem bind_exc (x : D) (h : AH) (f : α → AH → Out β) : (Out.exc x h : Out α).bind f = .exc x h := nrfl rfl
@[simp] theorem bind_ite (c : Prop) [Decidable c] (a b : Out α) (f : α → AH → Out β) : (if c then a else b).bind f = if c then a.bind f else b.bind f := by split <;> rfl
@[simp] theorem toFl_ok (a : α) (h : AH) (e : Env) (f : α → AH → Fl) : (Out.ok a h).toFl e f = f a h := nrfl rfl
@[simp] theorem toFl_stuck (e : Env) (f : α → AH → Fl) : (Out.stuck : Out α).toFl e f = .stuck := nrfl rfl
@[simp] theorem toFl_exc (x : D) (h : AH) (e : Env) (f : α → AH → Fl) : (Out.exc x h : Out α).toFl e f = .exc x e h := nrfl rfl
@[simp] theorem toFl_ite (c : Prop) [Decidable c] (a b : Out α) (e : Env) (f : α → AH → Fl) : (if c then a else b).toFl e f = if c then a.toFl e f else b.toFl e f := by split <;> rfl
end
@[simp] theorem seq_nx (e : Env) (h : AH) (k : Env → AH → Fl) : (Fl.nx e h).seq k = k e h := nrfl rfl
@[simp] theorem seq_ret (d : D) (h : AH) (k : Env → AH → Fl) : (Fl.ret d h).seq k = .ret d h := nrfl rfl
@[simp] theorem seq_exc (x : D) (e : Env) (h : AH) (k : Env → AH → Fl) : (Fl.exc x e h).seq k = .exc x e h := nrfl rfl
@[simp] theorem seq_brk (e : Env) (h : AH) (k : Env → AH → Fl) : (Fl.brk e h).seq k = .brk e h := nrfl rfl
@[simp] theorem seq_stuck (k : Env → AH → Fl) : Fl.stuck.seq k = .stuck := nrfl rfl
@[simp] theorem seq_ite (c : Prop) [Decidable c] (a b : Fl) (k : Env → AH → Fl) : (if c then a else b).seq k = if c then a.seq k else b.seq k := by split <;> rfl
@[simp] theorem fin_ret (d : D) (h h' : AH) : (Fl.ret d h').fin h = BW.fin h d h' := nrfl rfl
@[simp] theorem fin_nx (e : Env) (h h' : AH) : (Fl.nx e h').fin h = BW.fin h .non h' := nrfl rfl
@[simp] theorem fin_exc (x : D) (e : Env) (h h' : AH) : (Fl.exc x e h').fin h = finX h x h' := nrfl rfl
@[simp] theorem fin_ite (c : Prop) [Decidable c] (a b : Fl) (h : AH) : (if c then a else b).fin h = if c then a.fin h else b.fin h := by split <;> rfl
@[simp] theorem fin_stuck (h : AH) : Fl.stuck.fin h = .stuck := nrfl rfl
theorem fnD_eq (n : Nat) (body : Sv) (ds : List D) (h : AH) : fnD n body ds h = (body (startE n ds) h).fin h := by
  unfold fnD Fl.fin
  cases body (startE n ds) h <;> rfl
@[simp] theorem svSeq_eq (a b : Sv) (e : Env) (h : AH) : svSeq a b e h = (a e h).seq b := by
  unfold svSeq Fl.seq
  cases a e h <;> rfl
@[simp] theorem svNil_eq (e : Env) (h : AH) : svNil e h = .nx e h := nrfl rfl
@[simp] theorem svStuck_eq (e : Env) (h : AH) : svStuck e h = .stuck := nrfl rfl
@[simp] theorem svRet_eq (f : Ev) (e : Env) (h : AH) : svRet f e h = (f e h).toFl e fun d h1 => .ret d h1 := nrfl rfl
@[simp] theorem svExpr_eq (f : Ev) (e : Env) (h : AH) : svExpr f e h = (f e h).toFl e fun _ h1 => .nx e h1 := nrfl rfl
@[simp] theorem svIf_eq (t : Tv) (a b : Sv) (e : Env) (h : AH) : svIf t a b e h = (t e h).toFl e fun c h1 => if c then a e h1 else b e h1 := nrfl rfl
@[simp] theorem svRaise1_eq (c : Str) (f : Ev) (e : Env) (h : AH) : svRaise1 c f e h = (pv f e h).toFl e fun d h1 => .exc (.exc c [d]) e h1 := nrfl rfl
@[simp] theorem svRaise0_eq (c : Str) (e : Env) (h : AH) : svRaise0 c e h = .exc (.exc c []) e h := nrfl rfl
def Out.nxE (o : Out Env) : Fl := match o with
  | .ok e h => .nx e h
  | _ => .stuck
@[simp] theorem nxE_ok (e : Env) (h : AH) : (Out.ok e h).nxE = .nx e h := nrfl rfl
@[simp] theorem svAsg_eq (f : Ev) (g : Gv) (e : Env) (h : AH) : svAsg f g e h = (pv f e h).toFl e fun d h1 => (g d e h1).nxE := nrfl rfl
@[simp] theorem gvName_eq (i : Nat) (d : D) (e : Env) (h : AH) : gvName i d e h = .ok (e.set i (some d)) h := nrfl rfl
@[simp] theorem pv_eq (f : Ev) (e : Env) (h : AH) : pv f e h = (f e h).bind promote := nrfl rfl
@[simp] theorem promote_exc (c : Str) (xs : List D) (h : AH) : promote (.exc c xs) h = .ok (.exc c xs) h := nrfl rfl
@[simp] theorem promote_int (i : Int) (h : AH) : promote (.int i) h = .ok (.int i) h := nrfl rfl
@[simp] theorem promote_bl (b : Bool) (h : AH) : promote (.bl b) h = .ok (.bl b) h := nrfl rfl
@[simp] theorem promote_str (b : Str) (h : AH) : promote (.str b) h = .ok (.str b) h := nrfl rfl
@[simp] theorem promote_non (h : AH) : promote .non h = .ok .non h := nrfl rfl
@[simp] theorem promote_tup (xs : List D) (h : AH) : promote (.tup xs) h = .ok (.tup xs) h := nrfl rfl
@[simp] theorem promote_ref (n : Nat) (h : AH) : promote (.ref n) h = .ok (.ref n) h := nrfl rfl
@[simp] theorem promote_tl (xs : List D) (h : AH) : promote (.tl xs) h = .ok (.ref h.length) (h ++ [.lst xs]) := nrfl rfl
def Out.ofV (o : Option (Option D)) (h : AH) : Out D := match o with
  | some (some d) => .ok d h
  | _ => .stuck
@[simp] theorem ofV_some (d : D) (h : AH) : Out.ofV (some (some d)) h = .ok d h := nrfl rfl
@[simp] theorem evVar_eq (i : Nat) (e : Env) (h : AH) : evVar i e h = Out.ofV e[i]? h := nrfl rfl
@[simp] theorem evC_eq (d : D) (e : Env) (h : AH) : evC d e h = .ok d h := nrfl rfl
theorem ofO_some2 (d : D) (h : AH) : ofO (some d) h = .ok d h := nrfl rfl
theorem ofO_none2 (h : AH) : ofO none h = .stuck := nrfl rfl
@[simp] theorem ofO_ite (c : Prop) [Decidable c] (a b : Option D) (h : AH) : ofO (if c then a else b) h = if c then ofO a h else ofO b h := by split <;> rfl
@[simp] theorem evOp_eq (g : AH → D → D → Option D) (fa fb : Ev) (e : Env) (h : AH) : evOp g fa fb e h = (fa e h).bind fun x h1 => (fb e h1).bind fun y h2 => ofO (g h2 x y) h2 := nrfl rfl
@[simp] theorem evB_eq (g : AH → List D → Option D) (fs : List Ev) (e : Env) (h : AH) : evB g fs e h = (evs fs e h).bind fun ds h1 => ofO (g h1 ds) h1 := nrfl rfl
@[simp] theorem evs_nil (e : Env) (h : AH) : evs [] e h = .ok [] h := nrfl rfl
@[simp] theorem evs_cons (f : Ev) (fs : List Ev) (e : Env) (h : AH) : evs (f :: fs) e h = (f e h).bind fun d h1 => (evs fs e h1).bind fun ds h2 => .ok (d :: ds) h2 := nrfl rfl
@[simp] theorem evsV_nil (e : Env) (h : AH) : evsV [] e h = .ok [] h := nrfl rfl
@[simp] theorem evsV_cons (f : Ev) (fs : List Ev) (e : Env) (h : AH) : evsV (f :: fs) e h = (pv f e h).bind fun d h1 => (evsV fs e h1).bind fun ds h2 => .ok (d :: ds) h2 := nrfl rfl
@[simp] theorem evCall_eq (d : Fd) (fs : List Ev) (e : Env) (h : AH) : evCall d fs e h = (evsV fs e h).bind d := nrfl rfl
@[simp] theorem tvYes_eq (e : Env) (h : AH) : tvYes e h = .ok true h := nrfl rfl
def D.tv (d : D) (h : AH) : Out Bool := match d with
  | .bl b => .ok b h
  | _ => .stuck
@[simp] theorem tv_bl (b : Bool) (h : AH) : (D.bl b).tv h = .ok b h := nrfl rfl
@[simp] theorem tvOf_eq (f : Ev) (e : Env) (h : AH) : tvOf f e h = (f e h).bind D.tv := nrfl rfl
@[simp] theorem tvAnd_eq (t u : Tv) (e : Env) (h : AH) : tvAnd t u e h = (t e h).bind fun b h1 => if b then u e h1 else .ok false h1 := nrfl rfl
@[simp] theorem tvOr_eq (t u : Tv) (e : Env) (h : AH) : tvOr t u e h = (t e h).bind fun b h1 => if b then .ok true h1 else u e h1 := nrfl rfl
@[simp] theorem tvNot_eq (t : Tv) (e : Env) (h : AH) : tvNot t e h = (t e h).bind fun b h1 => .ok (!b) h1 := nrfl rfl
@[simp] theorem evAnd_eq (f g : Ev) (e : Env) (h : AH) : evAnd f g e h = (f e h).bind fun d h1 => (d.tv h1).bind fun b h2 => if b then g e h2 else .ok (.bl false) h2 := by
  unfold evAnd
  congr 1; funext d h1
  cases d <;> try rfl
  rename_i b; cases b <;> rfl
@[simp] theorem evOr_eq (f g : Ev) (e : Env) (h : AH) : evOr f g e h = (f e h).bind fun d h1 => (d.tv h1).bind fun b h2 => if b then .ok (.bl true) h2 else g e h2 := by
  unfold evOr
  congr 1; funext d h1
  cases d <;> try rfl
  rename_i b; cases b <;> rfl
@[simp] theorem evNot_eq (f : Ev) (e : Env) (h : AH) : evNot f e h = (f e h).bind fun d h1 => (d.tv h1).bind fun b h2 => .ok (.bl (!b)) h2 := by
  unfold evNot
  congr 1; funext d h1
  cases d <;> rfl
@[simp] theorem evIf_eq (t : Tv) (f g : Ev) (e : Env) (h : AH) : evIf t f g e h = (t e h).bind fun b h1 => if b then f e h1 else g e h1 := nrfl rfl
@[simp] theorem evChain_eq (g g' : AH → D → D → Option D) (fa fb fc : Ev) (e : Env) (h : AH) : evChain g g' fa fb fc e h = (fa e h).bind fun x h1 => (fb e h1).bind fun y h2 => (ofO (g h2 x y) h2).bind fun d h3 => (d.tv h3).bind fun b _ => if b then (fc e h2).bind fun z h3 => ofO (g' h3 y z) h3 else .ok (.bl false) h2 := by
  unfold evChain
  congr 1; funext x h1; congr 1; funext y h2
  cases g h2 x y with
  | none => rfl
  | some d =>
    cases d <;> try rfl
    rename_i b; cases b <;> rfl
@[simp] theorem startE_eq (n : Nat) (ds : List D) : startE n ds = ds.map some ++ List.replicate (n - ds.length) none := nrfl rfl
/-! operations -/
@[simp] theorem opAdd_int (h : AH) (a b : Int) : opAdd h (.int a) (.int b) = some (.int (a + b)) := nrfl rfl
@[simp] theorem opAdd_tup (h : AH) (a b : List D) : opAdd h (.tup a) (.tup b) = if a.length + b.length ≤ sizeLine then some (.tup (a ++ b)) else none := nrfl rfl
@[simp] theorem opSub_int (h : AH) (a b : Int) : opSub h (.int a) (.int b) = some (.int (a - b)) := nrfl rfl
theorem opMul_int (h : AH) (a b : Int) : opMul h (.int a) (.int b) = if smallI a || smallI b then some (.int (a * b)) else none := rfl
@[simp] theorem opMod_int (h : AH) (a b : Int) : opMod h (.int a) (.int b) = if 0 < b then some (.int (a % b)) else none := nrfl rfl
theorem opFdiv_int (h : AH) (a b : Int) : opFdiv h (.int a) (.int b) = if 0 < b ∧ b.natAbs.log2 < 9000 then some (.int (a / b)) else none := rfl
@[simp] theorem opLt_int (h : AH) (a b : Int) : opLt h (.int a) (.int b) = some (.bl (decide (a < b))) := nrfl rfl
@[simp] theorem opLe_int (h : AH) (a b : Int) : opLe h (.int a) (.int b) = some (.bl (decide (a ≤ b))) := nrfl rfl
@[simp] theorem opGt_int (h : AH) (a b : Int) : opGt h (.int a) (.int b) = some (.bl (decide (b < a))) := nrfl rfl
@[simp] theorem opGe_int (h : AH) (a b : Int) : opGe h (.int a) (.int b) = some (.bl (decide (b ≤ a))) := nrfl rfl
theorem eqv_int (a b : Int) : PyData.eqv (.int a) (.int b) = decide (a = b) := by
  simp only [PyData.eqv]
  exact Bool.beq_eq_decide_eq a b
@[simp] theorem eqD_int (h : AH) (a b : Int) : eqD h (.int a) (.int b) = some (decide (a = b)) := by
  simp [eqD, dataK, eqv_int]
@[simp] theorem opEq_int (h : AH) (a b : Int) : opEq h (.int a) (.int b) = some (.bl (decide (a = b))) := by simp [opEq]
@[simp] theorem opNe_int (h : AH) (a b : Int) : opNe h (.int a) (.int b) = some (.bl (!decide (a = b))) := by simp [opNe]
@[simp] theorem bInt_int (h : AH) (i : Int) : bInt h [.int i] = some (.int i) := nrfl rfl
@[simp] theorem evIsi_eq (Ts : List String) (f : Ev) (e : Env) (h : AH) : evIsi Ts f e h = (f e h).bind fun d h1 => ofO ((tyD h1 d).map fun t => .bl (Ts.any fun T => isiD T t)) h1 := by
  unfold evIsi
  congr 1; funext d h1
  cases tyD h1 d <;> rfl
/-! the end of a def -/
theorem oldOk_self (n : Nat) : ∀ (h t : AH), oldOk n h (h ++ t) = true
  | [], _ => rfl
  | o :: h, t => by simp [oldOk, oldOk_self n h t]
theorem fin_pure {h : AH} {d : D} (t : AH) (hp : promote d (h ++ t) = .ok d (h ++ t)) (hd : d.lt h.length = true) : BW.fin h d (h ++ t) = .ok d h := by
  unfold BW.fin
  rw [hp]
  simp [hd, oldOk_self]
theorem fin_pure0 {h : AH} {d : D} (hp : promote d h = .ok d h) (hd : d.lt h.length = true) : BW.fin h d h = .ok d h := by
  have := fin_pure (h := h) (d := d) [] (by rwa [List.append_nil]) hd
  rwa [List.append_nil] at this
@[simp] theorem fin_int (h : AH) (i : Int) : BW.fin h (.int i) h = .ok (.int i) h := fin_pure0 rfl rfl
@[simp] theorem fin_bl (h : AH) (i : Bool) : BW.fin h (.bl i) h = .ok (.bl i) h := fin_pure0 rfl rfl
@[simp] theorem fin_str (h : AH) (i : Str) : BW.fin h (.str i) h = .ok (.str i) h := fin_pure0 rfl rfl
@[simp] theorem fin_non (h : AH) : BW.fin h .non h = .ok .non h := fin_pure0 rfl rfl
@[simp] theorem lts_ints (n : Nat) (w : List Int) : D.lts n (w.map .int) = true := by
  induction w with
  | nil => rfl
  | cons x w ih => simp [D.lts, D.lt, ih]
@[simp] theorem fin_ints (h : AH) (w : List Int) : BW.fin h (.tup (w.map .int)) h = .ok (.tup (w.map .int)) h := fin_pure0 rfl (lts_ints _ w)
end BW

set_option Elab.async false
set_option linter.all false
set_option maxRecDepth 100000
set_option maxHeartbeats 4000000
namespace BW
open PySem
/-! ### loops and comprehensions -/
theorem forGo_inv {g : Option (Nat × AO)} {gv : Gv} {body : Sv} (P : Nat → Env → AH → Prop) (xs : List D) (hg : ∀ i e h, i ≤ xs.length → P i e h → guardOk g h = true)
    (hs : ∀ i d e h, xs[i]? = some d → P i e h → ∃ e1 h1 e2 h2, gv d e h = .ok e1 h1 ∧ body e1 h1 = .nx e2 h2 ∧ P (i + 1) e2 h2) {e : Env} {h : AH} (h0 : P 0 e h) : ∃ e' h', forGo g gv body xs e h = .nx e' h' ∧ P xs.length e' h' := by
  suffices z : ∀ (ys zs : List D) e h, ys ++ zs = xs → P ys.length e h → ∃ e' h', forGo g gv body zs e h = .nx e' h' ∧ P xs.length e' h' by exact z [] xs e h rfl h0
  intro ys zs
  induction zs generalizing ys with
  | nil =>
    intro e h he hp
    rw [List.append_nil] at he
    subst he
    refine ⟨e, h, ?_, hp⟩
    unfold forGo
    rw [if_pos (hg _ _ _ (Nat.le_refl _) hp)]
  | cons d zs ih =>
    intro e h he hp
    have hx : xs[ys.length]? = some d := by rw [← he]; simp
    obtain ⟨e1, h1, e2, h2, a1, a2, a3⟩ := hs _ d e h hx hp
    obtain ⟨e', h', b1, b2⟩ := ih (ys ++ [d]) e2 h2 (by rw [List.append_assoc]; exact he) (by rw [List.length_append]; exact a3)
    refine ⟨e', h', ?_, b2⟩
    have hl : ys.length ≤ xs.length := by rw [← he]; simp
    unfold forGo
    rw [if_pos (hg _ _ _ hl hp)]
    simp only [a1, a2]
    exact b1
/-- a loop that leaves the heap as it is -/
theorem forGo_pure {g : Option (Nat × AO)} {gv : Gv} {body : Sv} {h : AH} (P : Env → Prop) (xs : List D) (hg : guardOk g h = true)
    (hs : ∀ d e, d ∈ xs → P e → ∃ e1 e2, gv d e h = .ok e1 h ∧ body e1 h = .nx e2 h ∧ P e2) {e : Env} (h0 : P e) : ∃ e', forGo g gv body xs e h = .nx e' h ∧ P e' := by
  obtain ⟨e', h', a, b, rfl⟩ := forGo_inv (g := g) (gv := gv) (body := body) (fun _ e h' => P e ∧ h' = h) xs (fun _ _ _ _ z => z.2 ▸ hg) (fun i d e h' hd ⟨z1, z2⟩ => by
    subst z2
    obtain ⟨e1, e2, a1, a2, a3⟩ := hs d e (List.mem_of_getElem? hd) z1
    exact ⟨e1, _, e2, _, a1, a2, a3, rfl⟩) ⟨h0, rfl⟩
  exact ⟨e', a, b⟩
theorem lcGo_inv {g : Option (Nat × AO)} {gv : Gv} {tt : Tv} {elt : Ev} {e : Env} (P : Nat → List D → AH → Prop) (xs : List D) (hg : ∀ i l h, i ≤ xs.length → P i l h → guardOk g h = true)
    (hs : ∀ i d l h, xs[i]? = some d → P i l h → ∃ e1 h1, gv d e h = .ok e1 h1 ∧ ((∃ h2, tt e1 h1 = .ok false h2 ∧ P (i + 1) l h2) ∨ ∃ h2 y h3, tt e1 h1 = .ok true h2 ∧ pv elt e1 h2 = .ok y h3 ∧ P (i + 1) (l ++ [y]) h3))
    {h : AH} (h0 : P 0 [] h) : ∃ ys h', lcGo g gv tt elt e xs h = .ok ys h' ∧ P xs.length ys h' := by
  suffices z : ∀ (ys zs : List D) l h, ys ++ zs = xs → P ys.length l h → ∃ us h', lcGo g gv tt elt e zs h = .ok us h' ∧ P xs.length (l ++ us) h' by
    obtain ⟨us, h', a, b⟩ := z [] xs [] h rfl h0
    exact ⟨us, h', a, b⟩
  intro ys zs
  induction zs generalizing ys with
  | nil =>
    intro l h he hp
    rw [List.append_nil] at he
    subst he
    refine ⟨[], h, ?_, by rwa [List.append_nil]⟩
    unfold lcGo
    rw [if_pos (hg _ _ _ (Nat.le_refl _) hp)]
  | cons d zs ih =>
    intro l h he hp
    have hx : xs[ys.length]? = some d := by rw [← he]; simp
    have hl : ys.length ≤ xs.length := by rw [← he]; simp
    obtain ⟨e1, h1, a1, a2⟩ := hs _ d l h hx hp
    rcases a2 with ⟨h2, b1, b2⟩ | ⟨h2, y, h3, b1, b2, b3⟩
    · obtain ⟨us, h', c1, c2⟩ := ih (ys ++ [d]) l h2 (by rw [List.append_assoc]; exact he) (by rw [List.length_append]; exact b2)
      refine ⟨us, h', ?_, c2⟩
      unfold lcGo
      rw [if_pos (hg _ _ _ hl hp)]
      simp only [a1, b1]
      exact c1
    · obtain ⟨us, h', c1, c2⟩ := ih (ys ++ [d]) (l ++ [y]) h3 (by rw [List.append_assoc]; exact he) (by rw [List.length_append]; exact b3)
      refine ⟨y :: us, h', ?_, by simpa using c2⟩
      unfold lcGo
      rw [if_pos (hg _ _ _ hl hp)]
      simp only [a1, b1, b2, c1, bind_ok]
theorem lcGo_pure {g : Option (Nat × AO)} {gv : Gv} {tt : Tv} {elt : Ev} {e : Env} {h : AH} (p : D → Bool) (f : D → D) (xs : List D) (hg : guardOk g h = true)
    (hs : ∀ d ∈ xs, ∃ e1, gv d e h = .ok e1 h ∧ tt e1 h = .ok (p d) h ∧ (p d = true → pv elt e1 h = .ok (f d) h)) : lcGo g gv tt elt e xs h = .ok ((xs.filter p).map f) h := by
  induction xs with
  | nil => unfold lcGo; rw [if_pos hg]; rfl
  | cons d xs ih =>
    obtain ⟨e1, a1, a2, a3⟩ := hs d (List.mem_cons_self)
    have := ih fun d hd => hs d (List.mem_cons_of_mem _ hd)
    unfold lcGo
    rw [if_pos hg]
    simp only [a1, a2]
    cases hp : p d with
    | true =>
      rw [hp] at a2
      simp only [a3 hp, this, bind_ok, List.filter_cons, hp, if_true, List.map_cons]
    | false => simp only [this, List.filter_cons, hp, Bool.false_eq_true, if_false]
theorem lcGo_map {g : Option (Nat × AO)} {gv : Gv} {elt : Ev} {e : Env} {h : AH} (f : D → D) (xs : List D) (hg : guardOk g h = true)
    (hs : ∀ d ∈ xs, ∃ e1, gv d e h = .ok e1 h ∧ pv elt e1 h = .ok (f d) h) : lcGo g gv tvYes elt e xs h = .ok (xs.map f) h := by
  have := lcGo_pure (g := g) (gv := gv) (tt := tvYes) (elt := elt) (e := e) (h := h) (fun _ => true) f xs hg fun d hd => by
    obtain ⟨e1, a, b⟩ := hs d hd
    exact ⟨e1, a, rfl, fun _ => b⟩
  rw [this]
  congr 2
  simp
@[simp] theorem evLc_eq (iv : Iv) (own : List Nat) (gv : Gv) (tt : Tv) (elt : Ev) (e : Env) (h : AH) : evLc iv own gv tt elt e h = (iv e h).bind fun it h1 => if it.xs.length < 16777216 then (lcGo it.g gv tt elt (wipeE e own) it.xs h1).bind fun ds h2 => .ok (.tl ds) h2 else .stuck := nrfl rfl
@[simp] theorem svFor_eq (iv : Iv) (gv : Gv) (body : Sv) (e : Env) (h : AH) : svFor iv gv body e h = (iv e h).toFl e fun it h1 => forGo it.g gv body it.xs e h1 := nrfl rfl
@[simp] theorem ivBy_eq (fs : List Ev) (k : List D → AH → Out Its) (e : Env) (h : AH) : ivBy fs k e h = (evs fs e h).bind k := nrfl rfl
def Out.its (o : Option Its) (h : AH) : Out Its := match o with
  | some it => .ok it h
  | none => .stuck
@[simp] theorem its_some (it : Its) (h : AH) : Out.its (some it) h = .ok it h := nrfl rfl
@[simp] theorem ivSeq_eq (f : Ev) (e : Env) (h : AH) : ivSeq f e h = (f e h).bind fun d h1 => Out.its (itsOf h1 d) h1 := nrfl rfl
theorem kR1_int (n : Int) (h : AH) : kR1 [.int n] h = if in62 n then .ok { xs := rangeD 0 n.toNat } h else .stuck := rfl
theorem kR2_int (a b : Int) (h : AH) : kR2 [.int a, .int b] h = if in62 a && in62 b then .ok { xs := rangeD a (b - a).toNat } h else .stuck := rfl
theorem in62_of {i : Int} (h0 : -1000000000000 ≤ i) (h1 : i ≤ 1000000000000) : in62 i = true := by
  unfold in62
  simp only [Bool.and_eq_true, decide_eq_true_eq]
  omega
theorem kR1_at {n : Int} (h : AH) (h0 : -1000000000000 ≤ n) (h1 : n ≤ 1000000000000) : kR1 [.int n] h = .ok { xs := rangeD 0 n.toNat } h := by
  rw [kR1_int, if_pos (in62_of h0 h1)]
theorem kR2_at {a b : Int} (h : AH) (h0 : -1000000000000 ≤ a) (h1 : a ≤ 1000000000000) (h2 : -1000000000000 ≤ b) (h3 : b ≤ 1000000000000) : kR2 [.int a, .int b] h = .ok { xs := rangeD a (b - a).toNat } h := by
  have z : (in62 a && in62 b) = true := by rw [in62_of h0 h1, in62_of h2 h3]; rfl
  rw [kR2_int, if_pos z]
theorem evRg_at {f : Ev} {e : Env} {h h1 : AH} {n : Int} (tt : Bool) (hf : f e h = .ok (.int n) h1) (h0 : 0 ≤ n) (h2 : n ≤ 10000) : evRg tt [f] e h = .ok (if tt then .tup (rangeD 0 n.toNat) else .tl (rangeD 0 n.toNat)) h1 := by
  have z : rgOk 0 n = true := by
    have y : (n - 0).toNat ≤ 2 ^ 24 := Nat.le_trans (m := 10000) (by omega) (by decide)
    unfold rgOk
    rw [in62_of (by omega) (by omega), in62_of (by omega) (by omega), decide_eq_true y]; rfl
  simp only [evRg]
  rw [hf]
  show (if rgOk 0 n = true then _ else _) = _
  rw [if_pos z]
theorem opMul_at {a b : Int} (h : AH) (hs : smallI a = true ∨ smallI b = true) : opMul h (.int a) (.int b) = some (.int (a * b)) := by
  have z : (smallI a || smallI b) = true := by rcases hs with z | z <;> simp [z]
  show (if (smallI a || smallI b) = true then _ else _) = _
  rw [if_pos z]
theorem smallI_of {i : Int} (h0 : -1000000000000000000 ≤ i) (h1 : i ≤ 1000000000000000000) : smallI i = true := by
  unfold smallI
  simp only [Bool.and_eq_true, decide_eq_true_eq]
  omega
@[simp] theorem rangeD_length (a : Int) (n : Nat) : (rangeD a n).length = n := by simp [rangeD]
theorem mem_rangeD {a : Int} {n : Nat} {d : D} : d ∈ rangeD a n ↔ ∃ i : Nat, i < n ∧ d = .int (a + i) := by
  simp only [rangeD, List.mem_map, List.mem_range]
  constructor
  · rintro ⟨i, h, rfl⟩; exact ⟨i, h, rfl⟩
  · rintro ⟨i, h, rfl⟩; exact ⟨i, h, rfl⟩
theorem rangeD_get {a : Int} {n i : Nat} {d : D} (h : (rangeD a n)[i]? = some d) : i < n ∧ d = .int (a + i) := by
  simp only [rangeD, List.getElem?_map, Option.map_eq_some_iff] at h
  obtain ⟨j, h1, rfl⟩ := h
  obtain ⟨h2, h3⟩ := List.getElem?_eq_some_iff.mp h1
  simp at h2 h3
  subst h3
  exact ⟨h2, rfl⟩
theorem lcGo_range {g : Option (Nat × AO)} {gv : Gv} {tt : Tv} {elt : Ev} {e : Env} {h : AH} (p : Nat → Bool) (f : Nat → D) (a : Int) (n : Nat) (hg : guardOk g h = true)
    (hs : ∀ i, i < n → ∃ e1, gv (.int (a + (i : Nat))) e h = .ok e1 h ∧ tt e1 h = .ok (p i) h ∧ (p i = true → pv elt e1 h = .ok (f i) h)) : lcGo g gv tt elt e (rangeD a n) h = .ok (((List.range n).filter p).map f) h := by
  unfold rangeD
  suffices z : ∀ l : List Nat, (∀ i ∈ l, i < n) → lcGo g gv tt elt e (l.map fun i => D.int (a + (i : Nat))) h = .ok ((l.filter p).map f) h from z _ fun i hi => List.mem_range.mp hi
  intro l hl
  induction l with
  | nil => unfold lcGo; rw [List.map_nil]; simp only [if_pos hg]; rfl
  | cons d xs ih =>
    obtain ⟨e1, a1, a2, a3⟩ := hs d (hl d (List.mem_cons_self))
    have := ih fun d hd => hl d (List.mem_cons_of_mem _ hd)
    rw [List.map_cons]
    unfold lcGo
    rw [if_pos hg]
    simp only [a1, a2]
    cases hp : p d with
    | true => simp only [a3 hp, this, bind_ok, List.filter_cons, hp, if_true, List.map_cons]
    | false => simp only [this, List.filter_cons, hp, Bool.false_eq_true, if_false]
theorem lcGo_rangeM {g : Option (Nat × AO)} {gv : Gv} {elt : Ev} {e : Env} {h : AH} (f : Nat → D) (a : Int) (n : Nat) (hg : guardOk g h = true)
    (hs : ∀ i, i < n → ∃ e1, gv (.int (a + (i : Nat))) e h = .ok e1 h ∧ pv elt e1 h = .ok (f i) h) : lcGo g gv tvYes elt e (rangeD a n) h = .ok ((List.range n).map f) h := by
  rw [lcGo_range (tt := tvYes) (fun _ => true) f a n hg fun i hi => let ⟨e1, z1, z2⟩ := hs i hi; ⟨e1, z1, rfl, fun _ => z2⟩]
  congr 2
  simp
@[simp] theorem lstOfR_tl (h : AH) (xs : List D) : lstOfR h (.tl xs) = some xs := nrfl rfl
@[simp] theorem lstOfR_rl (h : AH) (xs : List D) : lstOfR h (.rl xs) = some xs := nrfl rfl
@[simp] theorem seqOf_tup (h : AH) (xs : List D) : seqOf h (.tup xs) = some xs := nrfl rfl
@[simp] theorem seqOf_tl (h : AH) (xs : List D) : seqOf h (.tl xs) = some xs := nrfl rfl
@[simp] theorem bTuple_tl (h : AH) (xs : List D) : bTuple h [.tl xs] = some (.tup xs) := nrfl rfl
@[simp] theorem bTuple_tup (h : AH) (xs : List D) : bTuple h [.tup xs] = some (.tup xs) := nrfl rfl
@[simp] theorem bLen_tup (h : AH) (xs : List D) : bLen h [.tup xs] = some (.int xs.length) := nrfl rfl
@[simp] theorem bLen_tl (h : AH) (xs : List D) : bLen h [.tl xs] = some (.int xs.length) := nrfl rfl
theorem lstOfR_ref {h : AH} {n : Nat} {xs : List D} (e : h[n]? = some (.lst xs)) : lstOfR h (.ref n) = some xs := by simp [lstOfR, e]
theorem lstOf_ref {h : AH} {n : Nat} {xs : List D} (e : h[n]? = some (.lst xs)) : lstOf h (.ref n) = some xs := by simp [lstOf, e]
theorem seqOf_ref {h : AH} {n : Nat} {xs : List D} (e : h[n]? = some (.lst xs)) : seqOf h (.ref n) = some xs := by simp [seqOf, lstOfR, e]
theorem bLen_ref {h : AH} {n : Nat} {xs : List D} (e : h[n]? = some (.lst xs)) : bLen h [.ref n] = some (.int xs.length) := by simp [bLen, seqOf_ref e]
theorem bTuple_ref {h : AH} {n : Nat} {xs : List D} (e : h[n]? = some (.lst xs)) : bTuple h [.ref n] = some (.tup xs) := by simp [bTuple, lstOfR_ref e]
theorem itsOf_ref {h : AH} {n : Nat} {xs : List D} (e : h[n]? = some (.lst xs)) : itsOf h (.ref n) = some { xs := xs, g := some (n, .lst xs) } := by simp [itsOf, e]
@[simp] theorem itsOf_tup (h : AH) (xs : List D) : itsOf h (.tup xs) = some { xs := xs } := nrfl rfl
@[simp] theorem itsOf_tl (h : AH) (xs : List D) : itsOf h (.tl xs) = some { xs := xs } := nrfl rfl
@[simp] theorem itsOf_rl (h : AH) (xs : List D) : itsOf h (.rl xs) = some { xs := xs } := nrfl rfl
@[simp] theorem guardOk_none (h : AH) : guardOk none h = true := nrfl rfl
theorem guardOk_some {h : AH} {n : Nat} {o : AO} (e : h[n]? = some o) : guardOk (some (n, o)) h = true := by simp [guardOk, e]
@[simp] theorem opIx_tup (h : AH) (xs : List D) (i : Int) : opIx h (.tup xs) (.int i) = L2.atI xs i := nrfl rfl
@[simp] theorem opIx_tl (h : AH) (xs : List D) (i : Int) : opIx h (.tl xs) (.int i) = L2.atI xs i := nrfl rfl
theorem opIx_ref {h : AH} {n : Nat} {xs : List D} (e : h[n]? = some (.lst xs)) (i : Int) : opIx h (.ref n) (.int i) = L2.atI xs i := by simp [opIx, seqOf_ref e]
theorem atI_get {xs : List D} {i : Int} {d : D} (h0 : 0 ≤ i) (h : xs[i.toNat]? = some d) : L2.atI xs i = some d := by
  obtain ⟨n, rfl⟩ := Int.eq_ofNat_of_zero_le h0
  exact L2.atI_nat h
end BW

set_option Elab.async false
set_option linter.all false
set_option maxRecDepth 100000
set_option maxHeartbeats 4000000
namespace BW
open PySem
/-! ### the program's small defs -/
@[simp] theorem isWhole_int (i : Int) (h : AH) : d_is_whole [.int i] h = .ok (.bl true) h := by
  simp [d_is_whole, fnD_eq, tyD, isiD]
@[simp] theorem isAmong_int (i a b : Int) (h : AH) : d_is_among [.int i, .int a, .int b] h = .ok (.bl (decide (a ≤ i) && decide (i ≤ b))) h := by
  simp [d_is_among, fnD_eq]
  by_cases h1 : a ≤ i <;> simp [h1]
@[simp] theorem isList_tup (xs : List D) (h : AH) : d_is_list [.tup xs] h = .ok (.bl true) h := by
  simp [d_is_list, fnD_eq, tyD, isiD]
theorem isList_ref {n : Nat} {xs : List D} {h : AH} (e : h[n]? = some (.lst xs)) : d_is_list [.ref n] h = .ok (.bl true) h := by
  simp [d_is_list, fnD_eq, tyD, isiD, e]
def stretchL (a b : Int) (n : Nat) : List Int := (List.range n).map fun i => if i % 2 = 1 then b else a
@[simp] theorem stretchL_length (a b : Int) (n : Nat) : (stretchL a b n).length = n := by simp [stretchL]
theorem map_stretch (a b : Int) (n : Nat) : (stretchL a b n).map D.int = (List.range n).map fun i => if i % 2 = 1 then D.int b else D.int a := by
  simp only [stretchL, List.map_map]
  refine List.map_congr_left fun i hi => ?_
  simp only [Function.comp]
  split <;> rfl
theorem stretch_is {a b m : Int} (h : AH) (hm : 0 ≤ m) (hm2 : m ≤ 1000) : d_stretch [.int a, .int b, .int m] h = .ok (.tup ((stretchL a b m.toNat).map .int)) h := by
  have e : lcGo none (Tgt.gv (.one 3)) tvYes (evIf (tvOf (evOp opEq (evOp opMod (evVar 3) (evC (.int 2))) (evC (.int 1)))) (evVar 1) (evVar 0)) [some (.int a), some (.int b), some (.int m), none] (rangeD 0 m.toNat) h
      = .ok ((stretchL a b m.toNat).map .int) h := by
    rw [map_stretch]
    refine lcGo_rangeM _ _ _ rfl fun i hi => ⟨_, rfl, ?_⟩
    by_cases hc : i % 2 = 1
    · have h2 : (i : Int) % 2 = 1 := by omega
      simp [Tgt.gv, h2, hc]
    · have h2 : (i : Int) % 2 = 0 := by omega
      simp [Tgt.gv, h2, hc]
  simp [d_stretch, fnD_eq, kR1_at (n := m) h (by omega) (by omega), Tgt.own, wipeE, e]
  omega
theorem lawStretch_is {a b m : Int} (h : AH) (hm : 0 ≤ m) (hm2 : m ≤ 1000) : d__law_stretch [.int a, .int b, .int m] h = .ok (.tup ((stretchL a b m.toNat).map .int)) h := by
  have e : lcGo none (Tgt.gv (.one 3)) tvYes (evOp opIx (evLst [evVar 0, evVar 1]) (evOp opMod (evB bInt [evVar 3]) (evC (.int 2)))) [some (.int a), some (.int b), some (.int m), none] (rangeD 0 m.toNat) h
      = .ok ((stretchL a b m.toNat).map .int) h := by
    rw [map_stretch]
    refine lcGo_rangeM _ _ _ rfl fun i hi => ⟨_, rfl, ?_⟩
    by_cases hc : i % 2 = 1
    · have h2 : (i : Int) % 2 = 1 := by omega
      simp [Tgt.gv, evLst, h2, hc, L2.atI, L2.ixN]
    · have h2 : (i : Int) % 2 = 0 := by omega
      simp [Tgt.gv, evLst, h2, hc, L2.atI, L2.ixN]
  simp [d__law_stretch, fnD_eq, kR1_at (n := m) h (by omega) (by omega), Tgt.own, wipeE, e]
  omega
/-! ### a Bonds -/
def rowD (n : Nat) (f : Nat → Int) : List D := (List.range n).map fun j => .int (f j)
@[simp] theorem rowD_length (n : Nat) (f : Nat → Int) : (rowD n f).length = n := by simp [rowD]
theorem rowD_get {n j : Nat} (f : Nat → Int) (hj : j < n) : (rowD n f)[j]? = some (.int (f j)) := by simp [rowD, hj]
def tabL (n : Nat) (M : Nat → Nat → Int) : List D := (List.range n).map fun i => .tup (rowD n (M i))
@[simp] theorem tabL_length (n : Nat) (M : Nat → Nat → Int) : (tabL n M).length = n := by simp [tabL]
theorem tabL_get {n i : Nat} (M : Nat → Nat → Int) (hi : i < n) : (tabL n M)[i]? = some (.tup (rowD n (M i))) := by simp [tabL, hi]
def BondsAt (h : AH) (b n : Nat) (M : Nat → Nat → Int) : Prop := h[b]? = some (.sins "Bonds" [some (.tup (tabL n M))])
theorem slot_eq {h : AH} {b n : Nat} {M : Nat → Nat → Int} (B : BondsAt h b n M) {f : Ev} {e : Env} {h0 : AH} (hf : f e h0 = .ok (.ref b) h) : evSlot "Bonds" f e h0 = .ok (.tup (tabL n M)) h := by
  unfold BondsAt at B
  simp [evSlot, hf, B]
theorem isC_of {h : AH} {b n : Nat} {M : Nat → Nat → Int} (B : BondsAt h b n M) : isC h "Bonds" (.ref b) = true := by
  unfold BondsAt at B
  simp [isC, B]
theorem bondsLen {h : AH} {b n : Nat} {M : Nat → Nat → Int} (B : BondsAt h b n M) : d_Bonds___len__ [.ref b] h = .ok (.int n) h := by
  have := slot_eq B (f := evVar 0) (e := [some (.ref b)]) (h0 := h) rfl
  simp [d_Bonds___len__, fnD_eq, this]
theorem lt63 {n : Nat} (hn : n ≤ 1000) : (0 : Int) ≤ (n : Int) ∧ (n : Int) < 2 ^ 63 := by omega
theorem evLenO_eq (c : Str) (d : Fd) (f : Ev) (e : Env) (h : AH) : evLenO c d f e h = (f e h).bind fun o h1 => if isC h1 c o then (d [o] h1).bind fun v h2 => (match v with
  | .int n => if 0 ≤ n ∧ n < 2 ^ 63 then .ok (.int n) h2 else .stuck
  | _ => .stuck) else .stuck := rfl
theorem lenO_eq {h : AH} {b n : Nat} {M : Nat → Nat → Int} (B : BondsAt h b n M) (hn : n ≤ 1000) {f : Ev} {e : Env} {h0 : AH} (hf : f e h0 = .ok (.ref b) h) : evLenO "Bonds" d_Bonds___len__ f e h0 = .ok (.int n) h := by
  rw [evLenO_eq, hf, bind_ok, if_pos (isC_of B), bondsLen B, bind_ok]
  dsimp only
  rw [if_pos (lt63 hn)]
theorem needLetter {h : AH} {b n : Nat} {M : Nat → Nat → Int} (B : BondsAt h b n M) {a : Int} (h1 : 1 ≤ a) (h2 : a ≤ n) : d_Bonds_need_letter [.ref b, .int a] h = .ok .non h := by
  have := slot_eq B (f := evVar 0) (e := [some (.ref b), some (.int a)]) (h0 := h) rfl
  simp [d_Bonds_need_letter, fnD_eq, this]
  intro z
  omega
theorem meth_eq {h : AH} {b n : Nat} {M : Nat → Nat → Int} (B : BondsAt h b n M) (d : Fd) {f : Ev} {fs : List Ev} {e : Env} {h0 : AH} (hf : f e h0 = .ok (.ref b) h) : evMeth "Bonds" d f fs e h0 = (evsV fs e h).bind fun ds h2 => d (.ref b :: ds) h2 := by
  unfold evMeth
  rw [hf]
  simp only [bind_ok]
  rw [if_pos (isC_of B)]
theorem bond_is {h : AH} {b n : Nat} {M : Nat → Nat → Int} (B : BondsAt h b n M) {a c : Int} (h1 : 1 ≤ a) (h2 : a ≤ n) (h3 : 1 ≤ c) (h4 : c ≤ n) : d_Bonds_bond [.ref b, .int a, .int c] h = .ok (.int (M (a.toNat - 1) (c.toNat - 1))) h := by
  have s := slot_eq B (f := evVar 0) (e := [some (.ref b), some (.int a), some (.int c)]) (h0 := h) rfl
  have m := fun fs => meth_eq B d_Bonds_need_letter (f := evVar 0) (fs := fs) (e := [some (.ref b), some (.int a), some (.int c)]) (h0 := h) rfl
  have e1 : L2.atI (tabL n M) (a - 1) = some (.tup (rowD n (M (a.toNat - 1)))) := atI_get (by omega) (by rw [show (a - 1).toNat = a.toNat - 1 by omega]; exact tabL_get M (by omega))
  have e2 : L2.atI (rowD n (M (a.toNat - 1))) (c - 1) = some (.int (M (a.toNat - 1) (c.toNat - 1))) := atI_get (by omega) (by rw [show (c - 1).toNat = c.toNat - 1 by omega]; exact rowD_get _ (by omega))
  simp [d_Bonds_bond, fnD_eq, s, m, needLetter B h1 h2, needLetter B h3 h4, e1, e2]
end BW

set_option Elab.async false
set_option linter.all false
set_option maxRecDepth 100000
set_option maxHeartbeats 4000000
namespace BW
open PySem
/-! ### comparing -/
theorem dataK_ints (h : AH) (n : Nat) : ∀ w : List Int, allK (dataK h n) (w.map .int) = some (w.map .int)
  | [] => rfl
  | x :: w => by
    have e : dataK h n (.int x) = some (.int x) := by cases n <;> rfl
    rw [List.map_cons, List.map_cons, allK, e, dataK_ints h n w]
theorem eqvAll_ints : ∀ u v : List Int, PyData.eqvAll (u.map .int) (v.map .int) = decide (u = v)
  | [], [] => by simp [PyData.eqvAll]
  | [], _ :: _ => by simp [PyData.eqvAll]
  | _ :: _, [] => by simp [PyData.eqvAll]
  | x :: u, y :: v => by
    simp only [List.map_cons, PyData.eqvAll, eqv_int, eqvAll_ints u v, List.cons.injEq]
    by_cases h1 : x = y <;> by_cases h2 : u = v <;> simp [h1, h2]
theorem eqD_ints (h : AH) (u v : List Int) : eqD h (.tup (u.map .int)) (.tup (v.map .int)) = some (decide (u = v)) := by
  have e : ∀ w : List Int, dataK h 9 (.tup (w.map .int)) = some (.tuple (w.map .int)) := fun w => by
    show (allK (dataK h 8) (w.map D.int)).map PyData.tuple = _
    rw [dataK_ints]; rfl
  unfold eqD
  rw [e, e]
  simp only [PyData.eqv, eqvAll_ints]
@[simp] theorem opEq_ints (h : AH) (u v : List Int) : opEq h (.tup (u.map .int)) (.tup (v.map .int)) = some (.bl (decide (u = v))) := by unfold opEq; rw [eqD_ints]; rfl
@[simp] theorem opNe_ints (h : AH) (u v : List Int) : opNe h (.tup (u.map .int)) (.tup (v.map .int)) = some (.bl (!decide (u = v))) := by unfold opNe; rw [eqD_ints]; rfl
theorem eqD_str (h : AH) {x y : Str} (hx : PyData.strOk x = true) (hy : PyData.strOk y = true) : eqD h (.str x) (.str y) = some (x == y) := by
  have e : ∀ {x : Str}, PyData.strOk x = true → dataK h 9 (.str x) = some (.str x) := fun {x} hx => by
    show (if PyData.strOk x = true then some (PyData.str x) else none) = _
    rw [if_pos hx]
  unfold eqD
  rw [e hx, e hy]
  simp only [PyData.eqv]
theorem opEq_str (h : AH) {x y : Str} {b : Bool} (hx : PyData.strOk x = true) (hy : PyData.strOk y = true) (hb : (x == y) = b) : opEq h (.str x) (.str y) = some (.bl b) := by unfold opEq; rw [eqD_str h hx hy, hb]; rfl
@[simp] theorem eq_in_in (h : AH) : opEq h (.str "in") (.str "in") = some (.bl true) := opEq_str h (by decide +kernel) (by decide +kernel) (by decide +kernel)
@[simp] theorem eq_out_in (h : AH) : opEq h (.str "out") (.str "in") = some (.bl false) := opEq_str h (by decide +kernel) (by decide +kernel) (by decide +kernel)
@[simp] theorem eq_turn_in (h : AH) : opEq h (.str "turn") (.str "in") = some (.bl false) := opEq_str h (by decide +kernel) (by decide +kernel) (by decide +kernel)
@[simp] theorem eq_out_turn (h : AH) : opEq h (.str "out") (.str "turn") = some (.bl false) := opEq_str h (by decide +kernel) (by decide +kernel) (by decide +kernel)
@[simp] theorem eq_turn_turn (h : AH) : opEq h (.str "turn") (.str "turn") = some (.bl true) := opEq_str h (by decide +kernel) (by decide +kernel) (by decide +kernel)
@[simp] theorem eq_out_out (h : AH) : opEq h (.str "out") (.str "out") = some (.bl true) := opEq_str h (by decide +kernel) (by decide +kernel) (by decide +kernel)
@[simp] theorem eq_turn_out (h : AH) : opEq h (.str "turn") (.str "out") = some (.bl false) := opEq_str h (by decide +kernel) (by decide +kernel) (by decide +kernel)
theorem eq_bl (h : AH) (a b : Bool) : opEq h (.bl a) (.bl b) = some (.bl (a == b)) := by simp [opEq, eqD, dataK, PyData.eqv]
@[simp] theorem ne_bl (h : AH) (a b : Bool) : opNe h (.bl a) (.bl b) = some (.bl (!(a == b))) := by simp [opNe, eqD, dataK, PyData.eqv]
/-! ### a word -/
def WordAt (h : AH) (d : D) (w : List Int) : Prop := d = .tup (w.map .int) ∨ ∃ k, d = .ref k ∧ h[k]? = some (.lst (w.map .int))
section
variable {h : AH} {d : D} {w : List Int}
theorem WordAt.len (W : WordAt h d w) : bLen h [d] = some (.int w.length) := by
  rcases W with rfl | ⟨k, rfl, e⟩
  · simp
  · rw [bLen_ref e]; simp
theorem WordAt.isList (W : WordAt h d w) : d_is_list [d] h = .ok (.bl true) h := by
  rcases W with rfl | ⟨k, rfl, e⟩
  · simp
  · exact isList_ref e
theorem WordAt.tup (W : WordAt h d w) : bTuple h [d] = some (.tup (w.map .int)) := by
  rcases W with rfl | ⟨k, rfl, e⟩
  · simp
  · exact bTuple_ref e
theorem WordAt.prom (W : WordAt h d w) : promote d h = .ok d h := by
  rcases W with rfl | ⟨k, rfl, e⟩ <;> rfl
theorem WordAt.enum (W : WordAt h d w) : ∃ g, kEnum [d] h = .ok { xs := enumD (w.map .int), g := g } h ∧ guardOk g h = true := by
  rcases W with rfl | ⟨k, rfl, e⟩
  · exact ⟨none, rfl, rfl⟩
  · refine ⟨some (k, .lst (w.map .int)), ?_, guardOk_some e⟩
    simp [kEnum, itsOf_ref e]
end
theorem mem_enumD {xs : List D} {d : D} (h : d ∈ enumD xs) : ∃ (i : Nat) (x : D), x ∈ xs ∧ d = .tup [.int i, x] := by
  unfold enumD at h
  obtain ⟨i, hi, rfl⟩ := List.mem_mapIdx.mp h
  exact ⟨i, xs[i], List.getElem_mem _, rfl⟩
def Letters (n : Nat) (w : List Int) : Prop := ∀ a ∈ w, 1 ≤ a ∧ a ≤ (n : Int)
@[simp] theorem gvTup2 (i j : Nat) (x y : D) (e : Env) (h : AH) : gvTup [gvName i, gvName j] (.tup [x, y]) e h = .ok ((e.set i (some x)).set j (some y)) h := nrfl rfl
theorem needWord {h : AH} {b n : Nat} {M : Nat → Nat → Int} {d : D} {w : List Int} (B : BondsAt h b n M) (hn : n ≤ 1000) (W : WordAt h d w) (hw : Letters n w) (hl : w.length ≤ 60) : d_need_word [.ref b, d] h = .ok .non h := by
  obtain ⟨g, e1, e2⟩ := W.enum
  obtain ⟨e', a1, _⟩ := forGo_pure (g := g) (gv := gvTup [gvName 2, gvName 3]) (h := h)
    (body := svIf (tvNot (tvOf (evCall d_is_among [(evVar 3), (evC (.int 1)), (evLenO "Bonds" d_Bonds___len__ (evVar 0))]))) (svRaise1 "BadWord" (evVar 2)) svNil)
    (fun e => ∃ x y, e = [some (.ref b), some d, x, y]) (enumD (w.map .int)) e2 (fun x e hx ⟨u, v, he⟩ => by
      subst he
      obtain ⟨i, y, hy, rfl⟩ := mem_enumD hx
      obtain ⟨a, ha, rfl⟩ := List.mem_map.mp hy
      obtain ⟨z1, z2⟩ := hw a ha
      have l := lenO_eq B hn (f := evVar 0) (e := [some (.ref b), some d, some (.int i), some (.int a)]) (h0 := h) rfl
      exact ⟨[some (.ref b), some d, some (.int i), some (.int a)], [some (.ref b), some d, some (.int i), some (.int a)], rfl, by simp [l, z2]; omega, _, _, rfl⟩) (e := [some (.ref b), some d, none, none]) ⟨_, _, rfl⟩
  have hl2 : ¬ 60 < w.length := by omega
  simp [d_need_word, fnD_eq, W.prom, W.isList, W.len, e1, a1]
  omega
/-! ### deeds -/
def at0 (w : List Int) (k : Nat) : Int := w.getD k 0
@[simp] theorem lts_nil (n : Nat) : D.lts n [] = true := nrfl rfl
@[simp] theorem lts_cons (n : Nat) (x : D) (xs : List D) : D.lts n (x :: xs) = (D.lt n x && D.lts n xs) := nrfl rfl
@[simp] theorem lt_int (n : Nat) (i : Int) : D.lt n (.int i) = true := nrfl rfl
@[simp] theorem lt_str (n : Nat) (i : Str) : D.lt n (.str i) = true := nrfl rfl
@[simp] theorem lt_tup (n : Nat) (i : List D) : D.lt n (.tup i) = D.lts n i := nrfl rfl
@[simp] theorem lts_append (n : Nat) : ∀ (xs ys : List D), D.lts n (xs ++ ys) = (D.lts n xs && D.lts n ys)
  | [], ys => by simp
  | x :: xs, ys => by simp [lts_append n xs ys, Bool.and_assoc]
@[simp] theorem fin_tup {h : AH} {xs : List D} (hx : D.lts h.length xs = true) : BW.fin h (.tup xs) h = .ok (.tup xs) h := fin_pure0 rfl hx
inductive Deed where
  | ins (k : Nat) (a : Int)
  | out (k : Nat)
  | turn (k : Nat)
def Deed.d : Deed → D
  | .ins k a => .tup [.str "in", .int k, .int a]
  | .out k => .tup [.str "out", .int k]
  | .turn k => .tup [.str "turn", .int k]
def movedL (M : Nat → Nat → Int) (w : List Int) : Deed → Option (List Int)
  | .ins k a => some (w.take k ++ [a, a] ++ w.drop k)
  | .out k => if k + 1 < w.length ∧ at0 w k = at0 w (k + 1) then some (w.take k ++ w.drop (k + 2)) else none
  | .turn k => if k + 1 < w.length ∧ at0 w k ≠ at0 w (k + 1) then
      let a := at0 w k
      let b := at0 w (k + 1)
      let m := M (a.toNat - 1) (b.toNat - 1)
      if m ≠ 0 ∧ (w.drop k).take m.toNat = stretchL a b m.toNat then some (w.take k ++ stretchL b a m.toNat ++ w.drop (k + m.toNat)) else none
    else none
def optD : Option (List Int) → D
  | none => .non
  | some l => .tup (l.map .int)
theorem cut_to {w : List Int} {k : Int} (h0 : 0 ≤ k) : cutD (w.map D.int) none (some k) = (w.take k.toNat).map .int := by
  obtain ⟨n, rfl⟩ := Int.eq_ofNat_of_zero_le h0
  unfold cutD
  rw [HT.sIx_none]
  show List.take (HT.sIx _ _ (some (n : Int)) - 0) _ = _
  rw [HT.sIx_nat, List.length_map, List.drop_zero, Nat.sub_zero, ← List.map_take, Int.toNat_natCast]
  congr 1
  rcases Nat.le_total n w.length with z | z
  · rw [Nat.min_eq_left z]
  · rw [Nat.min_eq_right z, List.take_of_length_le (Nat.le_refl _), List.take_of_length_le z]
theorem cut_from {w : List Int} {k : Int} (h0 : 0 ≤ k) : cutD (w.map D.int) (some k) none = (w.drop k.toNat).map .int := by
  obtain ⟨n, rfl⟩ := Int.eq_ofNat_of_zero_le h0
  unfold cutD
  rw [HT.sIx_none]
  show List.take (_ - HT.sIx _ _ (some (n : Int))) (List.drop (HT.sIx _ _ (some (n : Int))) _) = _
  rw [HT.sIx_nat, List.length_map, ← List.map_drop, ← List.map_take, Int.toNat_natCast]
  congr 1
  rcases Nat.le_total n w.length with z | z
  · rw [Nat.min_eq_left z, List.take_of_length_le (by simp)]
  · rw [Nat.min_eq_right z, List.drop_of_length_le (Nat.le_refl _), List.drop_of_length_le z]; simp
theorem cut_mid {w : List Int} {k l : Int} (h0 : 0 ≤ k) (h1 : k ≤ l) : cutD (w.map D.int) (some k) (some l) = ((w.drop k.toNat).take (l - k).toNat).map .int := by
  obtain ⟨n, rfl⟩ := Int.eq_ofNat_of_zero_le h0
  obtain ⟨m, rfl⟩ := Int.eq_ofNat_of_zero_le (Int.le_trans h0 h1)
  unfold cutD
  show List.take (HT.sIx _ _ (some (m : Int)) - HT.sIx _ _ (some (n : Int))) (List.drop (HT.sIx _ _ (some (n : Int))) _) = _
  rw [HT.sIx_nat, HT.sIx_nat, List.length_map, ← List.map_drop, ← List.map_take, Int.toNat_natCast]
  congr 1
  have e : ((m : Int) - n).toNat = m - n := by omega
  rw [e]
  rcases Nat.le_total n w.length with z | z
  · rw [Nat.min_eq_left z]
    rcases Nat.le_total m w.length with z2 | z2
    · rw [Nat.min_eq_left z2]
    · rw [Nat.min_eq_right z2, List.take_of_length_le (by simp), List.take_of_length_le (by simp; omega)]
  · rw [Nat.min_eq_right z, List.drop_of_length_le (Nat.le_refl _), List.drop_of_length_le z]; simp
theorem atI_word {w : List Int} {k : Int} (h0 : 0 ≤ k) (h1 : k < w.length) : L2.atI (w.map D.int) k = some (.int (at0 w k.toNat)) := by
  refine atI_get h0 ?_
  have : k.toNat < w.length := by omega
  simp [at0, this]
@[simp] theorem evSl_eq (f : Ev) (lo hi : Pv) (e : Env) (h : AH) : evSl f lo hi e h = (f e h).bind fun x h1 => (lo e h1).bind fun l h2 => (hi e h2).bind fun u h3 => ofO (slD h3 x l u) h3 := nrfl rfl
@[simp] theorem pvNone_eq (e : Env) (h : AH) : pvNone e h = .ok none h := nrfl rfl
def D.pvI (d : D) (h : AH) : Out (Option Int) := match d with
  | .int i => .ok (some i) h
  | _ => .stuck
@[simp] theorem pvI_int (i : Int) (h : AH) : (D.int i).pvI h = .ok (some i) h := nrfl rfl
@[simp] theorem pvSome_eq (f : Ev) (e : Env) (h : AH) : pvSome f e h = (f e h).bind D.pvI := nrfl rfl
@[simp] theorem slD_tup (h : AH) (xs : List D) (lo hi : Option Int) : slD h (.tup xs) lo hi = some (.tup (cutD xs lo hi)) := nrfl rfl
@[simp] theorem evTup_eq (fs : List Ev) (e : Env) (h : AH) : evTup fs e h = (evsV fs e h).bind fun ds h1 => if ds.length ≤ 16777216 then .ok (.tup ds) h1 else .stuck := nrfl rfl
@[simp] theorem evLst_eq (fs : List Ev) (e : Env) (h : AH) : evLst fs e h = (evsV fs e h).bind fun ds h1 => if ds.length ≤ 16777216 then .ok (.tl ds) h1 else .stuck := nrfl rfl
@[simp] theorem svPar_eq (fs : List Ev) (ix : List Nat) (e : Env) (h : AH) : svPar fs ix e h = (evsV fs e h).toFl e fun ds h1 => match setAll e ix ds with
  | some e1 => .nx e1 h1
  | none => .stuck := nrfl rfl
end BW

set_option Elab.async false
set_option linter.all false
set_option maxRecDepth 100000
set_option maxHeartbeats 4000000
namespace BW
open PySem
structure Tab (n : Nat) (M : Nat → Nat → Int) : Prop where
  n1 : 1 ≤ n
  n6 : n ≤ 6
  dia : ∀ i, i < n → M i i = 1
  kind : ∀ i j, i < n → j < n → i ≠ j → M i j = 2 ∨ M i j = 3 ∨ M i j = 4 ∨ M i j = 6 ∨ M i j = 0
  sym : ∀ i j, i < n → j < n → M i j = M j i
theorem Tab.bd {n : Nat} {M : Nat → Nat → Int} (T : Tab n M) {i j : Nat} (hi : i < n) (hj : j < n) : 0 ≤ M i j ∧ M i j ≤ 6 := by
  by_cases h : i = j
  · subst h; rw [T.dia i hi]; omega
  · rcases T.kind i j hi hj h with z | z | z | z | z <;> omega
theorem getD_letter {n : Nat} {w : List Int} (hw : Letters n w) {k : Nat} (hk : k < w.length) : 1 ≤ at0 w k ∧ at0 w k ≤ (n : Int) := by
  have e : at0 w k = w[k] := by simp [at0, hk]
  rw [e]
  exact hw _ (List.getElem_mem _)
theorem small_of {n : Nat} (h : n ≤ 1000) : n ≤ sizeLine := Nat.le_trans h (by rw [sizeLine_eq]; decide)
theorem turned_is {h : AH} {b n : Nat} {M : Nat → Nat → Int} (T : Tab n M) (B : BondsAt h b n M) {w : List Int} (hw : Letters n w) (hl : w.length ≤ 60) {k : Nat} :
    d_turned [.ref b, .tup (w.map .int), .int k] h = .ok (optD (movedL M w (.turn k))) h := by
  by_cases hk : k + 1 < w.length
  · have a1 := atI_word (w := w) (k := (k : Int)) (by omega) (by omega)
    have a2 := atI_word (w := w) (k := (k : Int) + 1) (by omega) (by omega)
    have e2 : ((k : Int) + 1).toNat = k + 1 := by omega
    rw [e2] at a2
    rw [Int.toNat_natCast] at a1
    obtain ⟨l1, l2⟩ := getD_letter hw (k := k) (by omega)
    obtain ⟨l3, l4⟩ := getD_letter hw (k := k + 1) hk
    generalize ha : at0 w k = a at *
    generalize hb : at0 w (k + 1) = c at *
    have nk : ¬ ((w.length : Int) < (k : Int) + 2) := by omega
    by_cases hac : a = c
    · have mv : movedL M w (.turn k) = none := by
        simp only [movedL]
        rw [ha, hb, if_neg (fun z => z.2 hac)]
      rw [mv]
      simp [d_turned, fnD_eq, a1, a2, nk, hac, optD]
    · obtain ⟨m0, m6⟩ := T.bd (i := a.toNat - 1) (j := c.toNat - 1) (by omega) (by omega)
      have bo := bond_is B l1 l2 l3 l4
      generalize hm : M (a.toNat - 1) (c.toNat - 1) = m at *
      have me := fun e fs (z : evVar 0 e h = .ok (.ref b) h) => meth_eq B d_Bonds_bond (f := evVar 0) (fs := fs) (e := e) (h0 := h) z
      by_cases hm0 : m = 0
      · have mv : movedL M w (.turn k) = none := by
          simp only [movedL]
          rw [ha, hb, if_pos ⟨hk, hac⟩, hm, if_neg (fun z => z.1 hm0)]
        rw [mv]
        simp [d_turned, fnD_eq, a1, a2, nk, hac, optD, setAll, me, bo, hm0]
      · have c1 := cut_mid (w := w) (k := (k : Int)) (l := (k : Int) + m) (by omega) (by omega)
        have e3 : ((k : Int) + m - k).toNat = m.toNat := by omega
        rw [e3, Int.toNat_natCast] at c1
        by_cases hs : (w.drop k).take m.toNat = stretchL a c m.toNat
        · have c2 := cut_to (w := w) (k := (k : Int)) (by omega)
          have c3 := cut_from (w := w) (k := (k : Int) + m) (by omega)
          have e4 : ((k : Int) + m).toNat = k + m.toNat := by omega
          rw [e4] at c3
          rw [Int.toNat_natCast] at c2
          have lx : (w.take k).length + m.toNat ≤ sizeLine := small_of (by rw [List.length_take]; omega)
          have ly : (w.take k).length + m.toNat + (w.drop (k + m.toNat)).length ≤ sizeLine := small_of (by rw [List.length_take, List.length_drop]; omega)
          have mv : movedL M w (.turn k) = some (w.take k ++ stretchL c a m.toNat ++ w.drop (k + m.toNat)) := by
            simp only [movedL]
            rw [ha, hb, if_pos ⟨hk, hac⟩, hm, if_pos ⟨hm0, hs⟩]
          rw [mv]
          simp [d_turned, fnD_eq, a1, a2, nk, hac, setAll, me, bo, hm0, c1, stretch_is h m0 (by omega : m ≤ 1000), hs, -List.map_take, -List.map_drop, c2, c3, optD]
          rw [if_pos (small_of (by omega)), if_pos (small_of (by omega))]
        · have mv : movedL M w (.turn k) = none := by
            simp only [movedL]
            rw [ha, hb, if_pos ⟨hk, hac⟩, hm, if_neg (fun z => hs z.2)]
          rw [mv]
          simp [d_turned, fnD_eq, a1, a2, nk, hac, setAll, me, bo, hm0, c1, stretch_is h m0 (by omega : m ≤ 1000), -List.map_take, -List.map_drop, optD]
          exact fun z => absurd z hs
  · have nk : (w.length : Int) < (k : Int) + 2 := by omega
    simp [d_turned, fnD_eq, nk, movedL, hk, optD]
theorem fin_optD (h : AH) (o : Option (List Int)) : BW.fin h (optD o) h = .ok (optD o) h := by
  cases o <;> simp [optD]
/-- a deed that may be asked for -/
def Deed.ok (n l : Nat) : Deed → Prop
  | .ins k a => k ≤ l ∧ 1 ≤ a ∧ a ≤ (n : Int)
  | .out k => k ≤ l
  | .turn k => k ≤ l
@[simp] theorem atI_0 (x : D) (xs : List D) : L2.atI (x :: xs) 0 = some x := L2.atI_nat (j := 0) rfl
@[simp] theorem atI_1 (x y : D) (xs : List D) : L2.atI (x :: y :: xs) 1 = some y := L2.atI_nat (j := 1) rfl
@[simp] theorem atI_2 (x y z : D) (xs : List D) : L2.atI (x :: y :: z :: xs) 2 = some z := L2.atI_nat (j := 2) rfl
theorem made_is {h : AH} {b n : Nat} {M : Nat → Nat → Int} (T : Tab n M) (B : BondsAt h b n M) {w : List Int} (hw : Letters n w) (hl : w.length ≤ 60) (dd : Deed) (hd : dd.ok n w.length) :
    d_made [.ref b, .tup (w.map .int), dd.d] h = .ok (optD (movedL M w dd)) h := by
  cases dd with
  | ins k a =>
    have c2 := cut_to (w := w) (k := (k : Int)) (by omega)
    have c3 := cut_from (w := w) (k := (k : Int)) (by omega)
    rw [Int.toNat_natCast] at c2 c3
    simp [d_made, fnD_eq, Deed.d, c2, c3, -List.map_take, -List.map_drop, movedL, optD]
    rw [if_pos (small_of (by omega)), if_pos (small_of (by omega))]
  | turn k =>
    simp [d_made, fnD_eq, Deed.d, turned_is T B hw hl]
    exact fin_optD h _
  | out k =>
    by_cases hk : k + 1 < w.length
    · have a1 := atI_word (w := w) (k := (k : Int)) (by omega) (by omega)
      have a2 := atI_word (w := w) (k := (k : Int) + 1) (by omega) (by omega)
      have e2 : ((k : Int) + 1).toNat = k + 1 := by omega
      rw [e2] at a2
      rw [Int.toNat_natCast] at a1
      have nk : ¬ ((w.length : Int) < (k : Int) + 2) := by omega
      have c2 := cut_to (w := w) (k := (k : Int)) (by omega)
      have c3 := cut_from (w := w) (k := (k : Int) + 2) (by omega)
      have e3 : ((k : Int) + 2).toNat = k + 2 := by omega
      rw [Int.toNat_natCast] at c2
      rw [e3] at c3
      by_cases ha : at0 w k = at0 w (k + 1)
      · simp [d_made, fnD_eq, Deed.d, a1, a2, nk, ha, c2, c3, -List.map_take, -List.map_drop, movedL, optD, hk]
        exact small_of (by omega)
      · simp [d_made, fnD_eq, Deed.d, a1, a2, nk, ha, movedL, optD, hk]
    · have nk : (w.length : Int) < (k : Int) + 2 := by omega
      simp [d_made, fnD_eq, Deed.d, nk, movedL, optD, hk]
/-- the law's rows, as a list of lists -/
def RowsAt (h : AH) (r n : Nat) (M : Nat → Nat → Int) : Prop := ∃ ks : List Nat, ks.length = n ∧ ks.Nodup ∧ r ∉ ks ∧ h[r]? = some (AO.lst (ks.map D.ref)) ∧ ∀ (i k : Nat), ks[i]? = some k → h[k]? = some (AO.lst (rowD n (M i)))
theorem RowsAt.len {h : AH} {r n : Nat} {M : Nat → Nat → Int} (R : RowsAt h r n M) : bLen h [.ref r] = some (.int n) := by
  obtain ⟨ks, rfl, _, _, e, _⟩ := R
  rw [bLen_ref e]; simp
theorem RowsAt.ix {h : AH} {r n : Nat} {M : Nat → Nat → Int} (R : RowsAt h r n M) {i : Int} (h0 : 0 ≤ i) (h1 : i < n) : ∃ k, opIx h (.ref r) (.int i) = some (.ref k) ∧ ∀ j : Int, 0 ≤ j → j < n → opIx h (.ref k) (.int j) = some (.int (M i.toNat j.toNat)) := by
  obtain ⟨ks, rfl, nd, _, e, rr⟩ := R
  have hi : i.toNat < ks.length := by omega
  refine ⟨ks[i.toNat], ?_, fun j j0 j1 => ?_⟩
  · rw [opIx_ref e]
    exact atI_get h0 (by simp [hi])
  · rw [opIx_ref (rr _ _ (List.getElem?_eq_getElem hi))]
    exact atI_get j0 (rowD_get _ (by omega))
theorem moved_is {h : AH} {r n : Nat} {M : Nat → Nat → Int} (T : Tab n M) (R : RowsAt h r n M) {w : List Int} (hw : Letters n w) (hl : w.length ≤ 60) (dd : Deed) (hd : dd.ok n w.length) :
    d__law_moved [.ref r, .tup (w.map .int), dd.d] h = .ok (optD (movedL M w dd)) h := by
  cases dd with
  | ins k a =>
    have c2 := cut_to (w := w) (k := (k : Int)) (by omega)
    have c3 := cut_from (w := w) (k := (k : Int)) (by omega)
    rw [Int.toNat_natCast] at c2 c3
    simp [d__law_moved, fnD_eq, Deed.d, c2, c3, -List.map_take, -List.map_drop, movedL, optD]
    rw [if_pos (small_of (by omega)), if_pos (small_of (by omega))]
  | out k =>
    by_cases hk : k + 1 < w.length
    · have a1 := atI_word (w := w) (k := (k : Int)) (by omega) (by omega)
      have a2 := atI_word (w := w) (k := (k : Int) + 1) (by omega) (by omega)
      have e2 : ((k : Int) + 1).toNat = k + 1 := by omega
      rw [e2] at a2
      rw [Int.toNat_natCast] at a1
      have nk : ¬ ((w.length : Int) ≤ (k : Int) + 1) := by omega
      have c2 := cut_to (w := w) (k := (k : Int)) (by omega)
      have c3 := cut_from (w := w) (k := (k : Int) + 2) (by omega)
      have e3 : ((k : Int) + 2).toNat = k + 2 := by omega
      rw [Int.toNat_natCast] at c2
      rw [e3] at c3
      by_cases ha : at0 w k = at0 w (k + 1)
      · simp [d__law_moved, fnD_eq, Deed.d, a1, a2, nk, ha, c2, c3, -List.map_take, -List.map_drop, movedL, optD, hk]
        exact small_of (by omega)
      · simp [d__law_moved, fnD_eq, Deed.d, a1, a2, nk, ha, movedL, optD, hk]
    · have nk : (w.length : Int) ≤ (k : Int) + 1 := by omega
      simp [d__law_moved, fnD_eq, Deed.d, nk, movedL, optD, hk]
  | turn k =>
    by_cases hk : k + 1 < w.length
    · have a1 := atI_word (w := w) (k := (k : Int)) (by omega) (by omega)
      have a2 := atI_word (w := w) (k := (k : Int) + 1) (by omega) (by omega)
      have e2 : ((k : Int) + 1).toNat = k + 1 := by omega
      rw [e2] at a2
      rw [Int.toNat_natCast] at a1
      obtain ⟨l1, l2⟩ := getD_letter hw (k := k) (by omega)
      obtain ⟨l3, l4⟩ := getD_letter hw (k := k + 1) hk
      generalize ha : at0 w k = a at *
      generalize hb : at0 w (k + 1) = c at *
      have nk : ¬ ((w.length : Int) ≤ (k : Int) + 1) := by omega
      by_cases hac : a = c
      · have mv : movedL M w (.turn k) = none := by
          simp only [movedL]
          rw [ha, hb, if_neg (fun z => z.2 hac)]
        rw [mv]
        simp [d__law_moved, fnD_eq, Deed.d, a1, a2, nk, hac, optD]
      · obtain ⟨m0, m6⟩ := T.bd (i := a.toNat - 1) (j := c.toNat - 1) (by omega) (by omega)
        obtain ⟨kk, i1, i2⟩ := R.ix (i := a - 1) (by omega) (by omega)
        have i3 := i2 (c - 1) (by omega) (by omega)
        rw [show (a - 1).toNat = a.toNat - 1 by omega, show (c - 1).toNat = c.toNat - 1 by omega] at i3
        generalize hm : M (a.toNat - 1) (c.toNat - 1) = m at *
        by_cases hm0 : m = 0
        · have mv : movedL M w (.turn k) = none := by
            simp only [movedL]
            rw [ha, hb, if_pos ⟨hk, hac⟩, hm, if_neg (fun z => z.1 hm0)]
          rw [mv]
          simp [d__law_moved, fnD_eq, Deed.d, a1, a2, nk, hac, optD, setAll, i1, i3, hm0]
        · have c1 := cut_mid (w := w) (k := (k : Int)) (l := (k : Int) + m) (by omega) (by omega)
          have e3 : ((k : Int) + m - k).toNat = m.toNat := by omega
          rw [e3, Int.toNat_natCast] at c1
          by_cases hs : (w.drop k).take m.toNat = stretchL a c m.toNat
          · have c2 := cut_to (w := w) (k := (k : Int)) (by omega)
            have c3 := cut_from (w := w) (k := (k : Int) + m) (by omega)
            have e4 : ((k : Int) + m).toNat = k + m.toNat := by omega
            rw [e4] at c3
            rw [Int.toNat_natCast] at c2
            have mv : movedL M w (.turn k) = some (w.take k ++ stretchL c a m.toNat ++ w.drop (k + m.toNat)) := by
              simp only [movedL]
              rw [ha, hb, if_pos ⟨hk, hac⟩, hm, if_pos ⟨hm0, hs⟩]
            rw [mv]
            simp [d__law_moved, fnD_eq, Deed.d, a1, a2, nk, hac, setAll, i1, i3, hm0, c1, lawStretch_is h m0 (by omega : m ≤ 1000), hs, -List.map_take, -List.map_drop, c2, c3, optD]
            rw [if_pos (small_of (by omega)), if_pos (small_of (by omega))]
          · have mv : movedL M w (.turn k) = none := by
              simp only [movedL]
              rw [ha, hb, if_pos ⟨hk, hac⟩, hm, if_neg (fun z => hs z.2)]
            rw [mv]
            simp [d__law_moved, fnD_eq, Deed.d, a1, a2, nk, hac, setAll, i1, i3, hm0, c1, lawStretch_is h m0 (by omega : m ≤ 1000), -List.map_take, -List.map_drop, optD]
            exact fun z => absurd z hs
    · have nk : (w.length : Int) ≤ (k : Int) + 1 := by omega
      simp [d__law_moved, fnD_eq, Deed.d, nk, movedL, optD, hk]
end BW

set_option Elab.async false
set_option linter.all false
set_option maxRecDepth 100000
set_option maxHeartbeats 4000000
namespace BW
open PySem
theorem lcGo_on {α : Type} {g : Option (Nat × AO)} {gv : Gv} {tt : Tv} {elt : Ev} {e : Env} {h : AH} (q : α → D) (p : α → Bool) (f : α → D) (l : List α) (hg : guardOk g h = true)
    (hs : ∀ d ∈ l, ∃ e1, gv (q d) e h = .ok e1 h ∧ tt e1 h = .ok (p d) h ∧ (p d = true → pv elt e1 h = .ok (f d) h)) : lcGo g gv tt elt e (l.map q) h = .ok ((l.filter p).map f) h := by
  induction l with
  | nil => rw [List.map_nil]; unfold lcGo; rw [if_pos hg]; rfl
  | cons d xs ih =>
    obtain ⟨e1, a1, a2, a3⟩ := hs d (List.mem_cons_self)
    have := ih fun d hd => hs d (List.mem_cons_of_mem _ hd)
    rw [List.map_cons]
    unfold lcGo
    rw [if_pos hg]
    simp only [a1, a2]
    cases hp : p d with
    | true => simp only [a3 hp, this, bind_ok, List.filter_cons, hp, if_true, List.map_cons]
    | false => simp only [this, List.filter_cons, hp, Bool.false_eq_true, if_false]
theorem lcGo_onM {α : Type} {g : Option (Nat × AO)} {gv : Gv} {elt : Ev} {e : Env} {h : AH} (q : α → D) (f : α → D) (l : List α) (hg : guardOk g h = true)
    (hs : ∀ d ∈ l, ∃ e1, gv (q d) e h = .ok e1 h ∧ pv elt e1 h = .ok (f d) h) : lcGo g gv tvYes elt e (l.map q) h = .ok (l.map f) h := by
  rw [lcGo_on (tt := tvYes) q (fun _ => true) f l hg fun d hd => let ⟨e1, z1, z2⟩ := hs d hd; ⟨e1, z1, rfl, fun _ => z2⟩]
  congr 2
  simp
theorem isFormed_is {h : AH} {b n : Nat} {M : Nat → Nat → Int} (B : BondsAt h b n M) (hn : n ≤ 1000) {d : D} {w : List Int} (W : WordAt h d w) (dd : Deed) (hd : dd.ok n w.length) : d_is_formed [.ref b, d, dd.d] h = .ok (.bl true) h := by
  have l := fun x y => lenO_eq B hn (f := evVar 0) (e := [some (.ref b), x, y]) (h0 := h) rfl
  have i1 : inD false h (.str "out") (.tup [.str "out", .str "turn"]) = some (.bl true) := rfl
  have i2 : inD false h (.str "turn") (.tup [.str "out", .str "turn"]) = some (.bl true) := rfl
  have i3 : inD true h (.int 2) (.tup [.int 2, .int 3]) = some (.bl false) := rfl
  have i4 : inD true h (.int 3) (.tup [.int 2, .int 3]) = some (.bl false) := rfl
  cases dd with
  | ins k a =>
    obtain ⟨z1, z2, z3⟩ := hd
    simp [d_is_formed, fnD_eq, Deed.d, W.len, l, i3, i4, tyD, isiD, z1, z3]
    exact z2
  | out k =>
    have z1 : k ≤ w.length := hd
    simp [d_is_formed, fnD_eq, Deed.d, W.len, l, i3, i4, tyD, isiD, z1, i1]
  | turn k =>
    have z1 : k ≤ w.length := hd
    simp [d_is_formed, fnD_eq, Deed.d, W.len, l, i3, i4, tyD, isiD, z1, i2]
def canB (M : Nat → Nat → Int) (w : List Int) (dd : Deed) : Bool := match movedL M w dd with
  | some l => decide (l.length ≤ 60)
  | none => false
@[simp] theorem promote_deed (dd : Deed) (h : AH) : promote dd.d h = .ok dd.d h := by cases dd <;> rfl
theorem can_is {h : AH} {b n : Nat} {M : Nat → Nat → Int} (T : Tab n M) (B : BondsAt h b n M) {d : D} {w : List Int} (W : WordAt h d w) (hw : Letters n w) (hl : w.length ≤ 60) (dd : Deed) (hd : dd.ok n w.length) :
    d_can [.ref b, d, dd.d] h = .ok (.bl (canB M w dd)) h := by
  have hn : n ≤ 1000 := Nat.le_trans T.n6 (by decide)
  cases hm : movedL M w dd with
  | none => simp [d_can, fnD_eq, W.prom, needWord B hn W hw hl, isFormed_is B hn W dd hd, W.tup, made_is T B hw hl dd hd, canB, hm, optD, opNotN]
  | some l => simp [d_can, fnD_eq, W.prom, needWord B hn W hw hl, isFormed_is B hn W dd hd, W.tup, made_is T B hw hl dd hd, canB, hm, optD, opNotN]; omega
/-! ### the list of all deeds -/
def insAt (n k : Nat) : List Deed := (List.range n).map fun (a : Nat) => Deed.ins k ((a : Int) + 1)
def allDeeds (n l : Nat) : List Deed := ((List.range (l + 1)).flatMap (insAt n)) ++ (List.range (l + 1)).map Deed.out ++ (List.range (l + 1)).map Deed.turn
theorem allDeeds_ok {n l : Nat} {dd : Deed} (h : dd ∈ allDeeds n l) : dd.ok n l := by
  simp only [allDeeds, List.mem_append, List.mem_flatMap, List.mem_map, List.mem_range, insAt] at h
  rcases h with (⟨k, hk, a, ha, rfl⟩ | ⟨k, hk, rfl⟩) | ⟨k, hk, rfl⟩
  · exact ⟨by omega, by omega, by omega⟩
  · show k ≤ l; omega
  · show k ≤ l; omega
theorem insAt_length (n k : Nat) : (insAt n k).length = n := by simp [insAt]
theorem flat_length (n : Nat) : ∀ l : List Nat, (l.flatMap (insAt n)).length = l.length * n
  | [] => by simp
  | x :: l => by rw [List.flatMap_cons, List.length_append, flat_length n l, insAt_length, List.length_cons, Nat.add_mul]; omega
theorem allDeeds_length (n l : Nat) : (allDeeds n l).length = (l + 1) * n + (l + 1) + (l + 1) := by
  simp only [allDeeds, List.length_append, flat_length, List.length_map, List.length_range]
theorem lts_deeds (k : Nat) : ∀ l : List Deed, D.lts k (l.map Deed.d) = true
  | [] => rfl
  | x :: l => by
    rw [List.map_cons, lts_cons, lts_deeds k l]
    cases x <;> simp [Deed.d]
theorem BondsAt.app {h : AH} {b n : Nat} {M : Nat → Nat → Int} (B : BondsAt h b n M) (t : AH) : BondsAt (h ++ t) b n M := by
  unfold BondsAt at *
  rw [List.getElem?_append_left (List.getElem?_eq_some_iff.mp B).1]; exact B
theorem WordAt.app {h : AH} {d : D} {w : List Int} (W : WordAt h d w) (t : AH) : WordAt (h ++ t) d w := by
  rcases W with rfl | ⟨k, rfl, e⟩
  · exact .inl rfl
  · exact .inr ⟨k, rfl, by rw [List.getElem?_append_left (List.getElem?_eq_some_iff.mp e).1]; exact e⟩
theorem RowsAt.app {h : AH} {r n : Nat} {M : Nat → Nat → Int} (R : RowsAt h r n M) (t : AH) : RowsAt (h ++ t) r n M := by
  obtain ⟨ks, a1, a2, a3, a4, a5⟩ := R
  refine ⟨ks, a1, a2, a3, by rw [List.getElem?_append_left (List.getElem?_eq_some_iff.mp a4).1]; exact a4, fun i k e => ?_⟩
  have := a5 i k e
  rw [List.getElem?_append_left (List.getElem?_eq_some_iff.mp this).1]; exact this
theorem extend_eq {f g : Ev} {e : Env} {h h1 h2 : AH} {n : Nat} {xs0 xs ys : List D} {d : D} (hf : f e h = .ok (.ref n) h1) (h0 : h1[n]? = some (.lst xs0)) (hg : g e h1 = .ok d h2) (hx : h2[n]? = some (.lst xs)) (hy : lstOf h2 d = some ys) (hl : xs.length + ys.length ≤ 16777216) :
    evExtend f g e h = .ok .non (h2.set n (.lst (xs ++ ys))) := by
  unfold evExtend
  rw [hf]
  simp only [bind_ok, h0, hg, hx, hy]
  rw [if_pos hl]
@[simp] theorem lstOf_tl (h : AH) (xs : List D) : lstOf h (.tl xs) = some xs := nrfl rfl
theorem get2a (h : AH) (x y : AO) : (h ++ [x, y])[h.length]? = some x := by simp
theorem get2b (h : AH) (x y : AO) : (h ++ [x, y])[h.length + 1]? = some y := by simp [List.getElem?_append_right]
theorem set2b (h : AH) (x y z : AO) : (h ++ [x, y]).set (h.length + 1) z = h ++ [x, z] := by
  rw [List.set_append_right _ _ (by omega)]
  simp
theorem ins_lc {h : AH} {b n : Nat} {M : Nat → Nat → Int} (B : BondsAt h b n M) (hn : n ≤ 1000) {d : D} : ∀ (k : Nat) (e : Env) (hh : AH), evVar 4 e hh = .ok (.int k) hh → (∃ x4, e = [some (.ref b), some d, some (.ref h.length), some (.ref (h.length + 1)), some (.int k), x4, none]) → (∃ t, hh = h ++ t) →
    evLc (ivBy [(evC (.int 1)), (evOp opAdd (evLenO "Bonds" d_Bonds___len__ (evVar 0)) (evC (.int 1)))] kR2) (Tgt.own (.one 5)) (Tgt.gv (.one 5)) tvYes (evTup [(evC (.str "in")), (evVar 4), (evVar 5)]) e hh = .ok (.tl ((insAt n k).map Deed.d)) hh := by
  rintro k e hh _ ⟨x4, rfl⟩ ⟨t, rfl⟩
  have l := lenO_eq (B.app t) hn (f := evVar 0) (e := [some (.ref b), some d, some (.ref h.length), some (.ref (h.length + 1)), some (.int k), x4, none]) (h0 := h ++ t) rfl
  have e1 : lcGo none (Tgt.gv (.one 5)) tvYes (evTup [(evC (.str "in")), (evVar 4), (evVar 5)]) [some (.ref b), some d, some (.ref h.length), some (.ref (h.length + 1)), some (.int k), none, none] (rangeD 1 n) (h ++ t) = .ok ((insAt n k).map Deed.d) (h ++ t) := by
    simp only [insAt, List.map_map]
    refine lcGo_rangeM _ _ _ rfl fun i hi => ⟨_, rfl, ?_⟩
    simp [Tgt.gv, Deed.d]
    omega
  have e2 : ((n : Int) + 1 - 1).toNat = n := by omega
  have k0 : evs [(evC (.int 1)), (evOp opAdd (evLenO "Bonds" d_Bonds___len__ (evVar 0)) (evC (.int 1)))] [some (.ref b), some d, some (.ref h.length), some (.ref (h.length + 1)), some (.int k), x4, none] (h ++ t) = .ok [.int 1, .int ((n : Int) + 1)] (h ++ t) := by simp [l]
  have lt : (rangeD 1 n).length < 16777216 := by rw [rangeD_length]; omega
  rw [evLc_eq, ivBy_eq, k0, bind_ok, kR2_at (h ++ t) (by omega) (by omega) (by omega) (by omega), bind_ok, e2]
  dsimp only [Tgt.own, wipeE, List.set_cons_succ, List.set_cons_zero]
  rw [if_pos lt, e1, bind_ok]
theorem ins_loop {h : AH} {b n : Nat} {M : Nat → Nat → Int} (T : Tab n M) (B : BondsAt h b n M) {d : D} {w : List Int} (hl : w.length ≤ 60) : ∃ x4 x5, forGo (some (h.length, (AO.lst (rangeD 0 (w.length + 1))))) (gvName 4)
    (svExpr (evExtend (evVar 3) (evLc (ivBy [(evC (.int 1)), (evOp opAdd (evLenO "Bonds" d_Bonds___len__ (evVar 0)) (evC (.int 1)))] kR2) (Tgt.own (.one 5)) (Tgt.gv (.one 5)) tvYes (evTup [(evC (.str "in")), (evVar 4), (evVar 5)]))))
    (rangeD 0 (w.length + 1)) [some (.ref b), some d, some (.ref h.length), some (.ref (h.length + 1)), none, none, none] (h ++ [(AO.lst (rangeD 0 (w.length + 1))), .lst []]) =
      .nx [some (.ref b), some d, some (.ref h.length), some (.ref (h.length + 1)), x4, x5, none] (h ++ [(AO.lst (rangeD 0 (w.length + 1))), .lst (((List.range (w.length + 1)).flatMap (insAt n)).map Deed.d)]) := by
  have hn : n ≤ 1000 := Nat.le_trans T.n6 (by decide)
  have n6 := T.n6
  have gP : ∀ z, guardOk (some (h.length, (AO.lst (rangeD 0 (w.length + 1))))) (h ++ [(AO.lst (rangeD 0 (w.length + 1))), z]) = true := fun z => guardOk_some (get2a h (AO.lst (rangeD 0 (w.length + 1))) z)
  obtain ⟨e', h', a1, ⟨x4, x5, rfl⟩, rfl⟩ := forGo_inv (g := some (h.length, (AO.lst (rangeD 0 (w.length + 1))))) (gv := gvName 4)
    (body := svExpr (evExtend (evVar 3) (evLc (ivBy [(evC (.int 1)), (evOp opAdd (evLenO "Bonds" d_Bonds___len__ (evVar 0)) (evC (.int 1)))] kR2) (Tgt.own (.one 5)) (Tgt.gv (.one 5)) tvYes (evTup [(evC (.str "in")), (evVar 4), (evVar 5)]))))
    (fun i e h' => (∃ x4 x5, e = [some (.ref b), some d, some (.ref h.length), some (.ref (h.length + 1)), x4, x5, none]) ∧ h' = h ++ [(AO.lst (rangeD 0 (w.length + 1))), .lst (((List.range i).flatMap (insAt n)).map Deed.d)]) (rangeD 0 (w.length + 1))
    (fun i e h' _ z => z.2 ▸ gP _) (fun i x e h' hx ⟨⟨x4, x5, he⟩, hh⟩ => by
      obtain ⟨hi, rfl⟩ := rangeD_get hx
      subst he hh
      rw [Int.zero_add]
      have z1 := ins_lc B hn i [some (.ref b), some d, some (.ref h.length), some (.ref (h.length + 1)), some (.int i), x5, none] _ rfl ⟨_, rfl⟩ ⟨[(AO.lst (rangeD 0 (w.length + 1))), .lst (((List.range i).flatMap (insAt n)).map Deed.d)], rfl⟩
      have z2 := extend_eq (f := evVar 3) (e := [some (.ref b), some d, some (.ref h.length), some (.ref (h.length + 1)), some (.int i), x5, none]) rfl (get2b h (AO.lst (rangeD 0 (w.length + 1))) _) z1 (get2b h (AO.lst (rangeD 0 (w.length + 1))) _) (lstOf_tl _ _) (by
        rw [List.length_map, List.length_map, flat_length, insAt_length, List.length_range]
        have : i * n ≤ 61 * 6 := Nat.mul_le_mul (by omega) n6
        omega)
      refine ⟨_, _, [some (.ref b), some d, some (.ref h.length), some (.ref (h.length + 1)), some (.int i), x5, none], h ++ [(AO.lst (rangeD 0 (w.length + 1))), .lst (((List.range (i + 1)).flatMap (insAt n)).map Deed.d)], rfl, ?_, ⟨_, _, rfl⟩, rfl⟩
      rw [svExpr_eq]
      simp only [List.set_cons_succ, List.set_cons_zero, z2, toFl_ok, set2b]
      congr 3
      rw [List.range_succ, List.flatMap_append, List.map_append, List.flatMap_singleton]) (e := [some (.ref b), some d, some (.ref h.length), some (.ref (h.length + 1)), none, none, none]) (h := h ++ [(AO.lst (rangeD 0 (w.length + 1))), .lst []]) ⟨⟨none, none, rfl⟩, rfl⟩
  rw [rangeD_length] at a1
  exact ⟨x4, x5, a1⟩
theorem out_lc {h : AH} {b : Nat} {d : D} {w : List Int} (hl : w.length ≤ 60) : ∀ (z : Str) (q : Nat → Deed) (t : AO) (x4 x5 : Option D), (∀ k : Nat, (q k).d = .tup [.str z, .int k]) →
    evLc (ivSeq (evVar 2)) (Tgt.own (.one 4)) (Tgt.gv (.one 4)) tvYes (evTup [(evC (.str z)), (evVar 4)]) [some (.ref b), some d, some (.ref h.length), some (.ref (h.length + 1)), x4, x5, none] (h ++ [(AO.lst (rangeD 0 (w.length + 1))), t]) = .ok (.tl (((List.range (w.length + 1)).map q).map Deed.d)) (h ++ [(AO.lst (rangeD 0 (w.length + 1))), t]) := by
  intro z q t x4 x5 hq
  have e1 : lcGo (some (h.length, (AO.lst (rangeD 0 (w.length + 1))))) (Tgt.gv (.one 4)) tvYes (evTup [(evC (.str z)), (evVar 4)]) [some (.ref b), some d, some (.ref h.length), some (.ref (h.length + 1)), none, x5, none] (rangeD 0 (w.length + 1)) (h ++ [(AO.lst (rangeD 0 (w.length + 1))), t]) = .ok (((List.range (w.length + 1)).map q).map Deed.d) (h ++ [(AO.lst (rangeD 0 (w.length + 1))), t]) := by
    rw [List.map_map]
    refine lcGo_rangeM _ _ _ (guardOk_some (get2a h (AO.lst (rangeD 0 (w.length + 1))) t)) fun i hi => ⟨_, rfl, ?_⟩
    simp [Tgt.gv, hq]
  simp [itsOf_ref (get2a h (AO.lst (rangeD 0 (w.length + 1))) t), Tgt.own, wipeE, e1]
  omega
theorem deedsOf_is {h : AH} {b n : Nat} {M : Nat → Nat → Int} (T : Tab n M) (B : BondsAt h b n M) {d : D} {w : List Int} (W : WordAt h d w) (hw : Letters n w) (hl : w.length ≤ 60) :
    d_deeds_of [.ref b, d] h = .ok (.tup (((allDeeds n w.length).filter (canB M w)).map Deed.d)) h := by
  have hn : n ≤ 1000 := Nat.le_trans T.n6 (by decide)
  have n6 := T.n6
  -- the heap while it runs
  have gP : ∀ z, guardOk (some (h.length, (AO.lst (rangeD 0 (w.length + 1))))) (h ++ [(AO.lst (rangeD 0 (w.length + 1))), z]) = true := fun z => guardOk_some (get2a h (AO.lst (rangeD 0 (w.length + 1))) z)
  obtain ⟨x4, x5, a1⟩ := ins_loop (d := d) T B hl
  have o1 := extend_eq (f := evVar 3) (e := [some (.ref b), some d, some (.ref h.length), some (.ref (h.length + 1)), x4, x5, none]) rfl (get2b h (AO.lst (rangeD 0 (w.length + 1))) _) (out_lc hl "out" Deed.out (.lst (((List.range (w.length + 1)).flatMap (insAt n)).map Deed.d)) x4 x5 fun k => rfl) (get2b h (AO.lst (rangeD 0 (w.length + 1))) _) (lstOf_tl _ _) (by
    simp only [List.length_map, flat_length, List.length_range]
    have : (w.length + 1) * n ≤ 61 * 6 := Nat.mul_le_mul (by omega) n6
    omega)
  have o2 := extend_eq (f := evVar 3) (e := [some (.ref b), some d, some (.ref h.length), some (.ref (h.length + 1)), x4, x5, none]) rfl (get2b h (AO.lst (rangeD 0 (w.length + 1))) _) (out_lc hl "turn" Deed.turn (.lst (((List.range (w.length + 1)).flatMap (insAt n)).map Deed.d ++ ((List.range (w.length + 1)).map Deed.out).map Deed.d)) x4 x5 fun k => rfl) (get2b h (AO.lst (rangeD 0 (w.length + 1))) _) (lstOf_tl _ _) (by
    simp only [List.length_append, List.length_map, flat_length, List.length_range]
    have : (w.length + 1) * n ≤ 61 * 6 := Nat.mul_le_mul (by omega) n6
    omega)
  rw [set2b] at o1 o2
  have eA : (((List.range (w.length + 1)).flatMap (insAt n)).map Deed.d ++ ((List.range (w.length + 1)).map Deed.out).map Deed.d) ++ ((List.range (w.length + 1)).map Deed.turn).map Deed.d = (allDeeds n w.length).map Deed.d := by
    simp only [allDeeds, List.map_append]
  rw [eA] at o2
  have last : lcGo (some (h.length + 1, .lst ((allDeeds n w.length).map Deed.d))) (Tgt.gv (.one 6)) (tvOf (evCall d_can [(evVar 0), (evVar 1), (evVar 6)])) (evVar 6) [some (.ref b), some d, some (.ref h.length), some (.ref (h.length + 1)), x4, x5, none]
      ((allDeeds n w.length).map Deed.d) (h ++ [(AO.lst (rangeD 0 (w.length + 1))), .lst ((allDeeds n w.length).map Deed.d)]) = .ok (((allDeeds n w.length).filter (canB M w)).map Deed.d) (h ++ [(AO.lst (rangeD 0 (w.length + 1))), .lst ((allDeeds n w.length).map Deed.d)]) := by
    refine lcGo_on Deed.d (canB M w) Deed.d _ (guardOk_some (get2b h (AO.lst (rangeD 0 (w.length + 1))) _)) fun dd hd => ⟨_, rfl, ?_, fun _ => ?_⟩
    · have := can_is T (B.app [(AO.lst (rangeD 0 (w.length + 1))), .lst ((allDeeds n w.length).map Deed.d)]) (W.app _) hw hl dd (allDeeds_ok hd)
      simp [Tgt.gv, (W.app [(AO.lst (rangeD 0 (w.length + 1))), .lst ((allDeeds n w.length).map Deed.d)]).prom, this]
    · simp [Tgt.gv]
  have rg := evRg_at (f := evOp opAdd (evB bLen [evVar 1]) (evC (.int 1))) (e := [some (.ref b), some d, none, none, none, none, none]) (h := h) (h1 := h) (n := (w.length : Int) + 1) false (by simp [W.len]) (by omega) (by omega)
  have e9 : ((w.length : Int) + 1).toNat = w.length + 1 := by omega
  have l9 : (allDeeds n w.length).length < 16777216 := by
    rw [allDeeds_length]
    have : (w.length + 1) * n ≤ 61 * 6 := Nat.mul_le_mul (by omega) n6
    omega
  have f9 := fin_pure (h := h) (d := .tup (((allDeeds n w.length).filter (canB M w)).map Deed.d)) [(AO.lst (rangeD 0 (w.length + 1))), .lst ((allDeeds n w.length).map Deed.d)] rfl (lts_deeds _ _)
  have ap : h ++ [(AO.lst (rangeD 0 (w.length + 1)))] ++ [AO.lst []] = h ++ [(AO.lst (rangeD 0 (w.length + 1))), .lst []] := by simp
  simp [d_deeds_of, fnD_eq, W.prom, needWord B hn W hw hl, rg, e9, -List.map_map]
  simp [itsOf_ref (get2a h (AO.lst (rangeD 0 (w.length + 1))) (.lst [])), a1, o1, o2, -List.map_map]
  simp [itsOf_ref (get2b h (AO.lst (rangeD 0 (w.length + 1))) (.lst ((allDeeds n w.length).map Deed.d))), Tgt.own, wipeE, last, l9, f9]
end BW

set_option Elab.async false
set_option linter.all false
set_option maxRecDepth 100000
set_option maxHeartbeats 4000000
namespace BW
open PySem
theorem opAdd_ref {h : AH} {q : Nat} {xs ys : List D} (e : h[q]? = some (.lst xs)) (hl : xs.length + ys.length ≤ 1000) : opAdd h (.ref q) (.tl ys) = some (.tl (xs ++ ys)) := by
  have z : opAdd h (.ref q) (.tl ys) = (match lstOf h (.ref q), lstOf h (.tl ys) with
    | some xs, some ys => if xs.length + ys.length ≤ sizeLine then some (.tl (xs ++ ys)) else none
    | _, _ => none) := rfl
  rw [z, lstOf_ref e, lstOf_tl]
  exact if_pos (small_of hl)
theorem opAdd_tl {h : AH} {xs ys : List D} (hl : xs.length + ys.length ≤ 1000) : opAdd h (.tl xs) (.tl ys) = some (.tl (xs ++ ys)) := by
  have z : opAdd h (.tl xs) (.tl ys) = (match lstOf h (.tl xs), lstOf h (.tl ys) with
    | some xs, some ys => if xs.length + ys.length ≤ sizeLine then some (.tl (xs ++ ys)) else none
    | _, _ => none) := rfl
  rw [z, lstOf_tl, lstOf_tl]
  exact if_pos (small_of hl)
theorem fin_tl {h : AH} {xs : List D} (t : AH) : BW.fin h (.tl xs) (h ++ t) = .ok (.ref (h ++ t).length) (h ++ t ++ [.lst xs]) := by
  unfold BW.fin
  rw [promote_tl]
  have : D.lt h.length (.ref (h ++ t).length) = false := by
    show decide ((h ++ t).length < h.length) = false
    simp
  simp only [this, Bool.false_and, Bool.false_eq_true, if_false]
@[simp] theorem promote_optD (o : Option (List Int)) (h : AH) : promote (optD o) h = .ok (optD o) h := by cases o <;> rfl
theorem lawIns_lc {h : AH} {r n : Nat} {M : Nat → Nat → Int} (R : RowsAt h r n M) (hn : n ≤ 1000) {dw : D} (k : Nat) (x2 x5 : Option D) :
    evLc (ivBy [(evB bLen [(evVar 0)])] kR1) (Tgt.own (.one 5)) (Tgt.gv (.one 5)) tvYes (evTup [(evC (.str "in")), (evVar 3), (evOp opAdd (evVar 5) (evC (.int 1)))]) [some (.ref r), some dw, x2, some (.int k), none, x5, none, none] h = .ok (.tl ((insAt n k).map Deed.d)) h := by
  have k0 : evs [evB bLen [evVar 0]] [some (.ref r), some dw, x2, some (.int k), none, x5, none, none] h = .ok [.int n] h := by simp [R.len]
  have e1 : lcGo none (Tgt.gv (.one 5)) tvYes (evTup [(evC (.str "in")), (evVar 3), (evOp opAdd (evVar 5) (evC (.int 1)))]) [some (.ref r), some dw, x2, some (.int k), none, none, none, none] (rangeD 0 n) h = .ok ((insAt n k).map Deed.d) h := by
    simp only [insAt, List.map_map]
    refine lcGo_rangeM _ _ _ rfl fun i hi => ⟨_, rfl, ?_⟩
    simp [Tgt.gv, Deed.d]
  have lt : (rangeD 0 n).length < 16777216 := by rw [rangeD_length]; omega
  rw [evLc_eq, ivBy_eq, k0, bind_ok, kR1_at h (by omega) (by omega), bind_ok, Int.toNat_natCast]
  dsimp only [Tgt.own, wipeE, List.set_cons_succ, List.set_cons_zero]
  rw [if_pos lt, e1, bind_ok]
theorem lawOut_lc {h : AH} {w : List Int} (hl : w.length ≤ 60) (z : Str) (q : Nat → Deed) (x0 x2 x3 x5 : Option D) (hq : ∀ k : Nat, (q k).d = .tup [.str z, .int k]) :
    evLc (ivBy [(evOp opAdd (evB bLen [(evVar 1)]) (evC (.int 1)))] kR1) (Tgt.own (.one 3)) (Tgt.gv (.one 3)) tvYes (evTup [(evC (.str z)), (evVar 3)]) [x0, some (.tup (w.map .int)), x2, x3, none, x5, none, none] h = .ok (.tl (((List.range (w.length + 1)).map q).map Deed.d)) h := by
  have k0 : evs [evOp opAdd (evB bLen [(evVar 1)]) (evC (.int 1))] [x0, some (.tup (w.map .int)), x2, x3, none, x5, none, none] h = .ok [.int ((w.length : Int) + 1)] h := by simp
  have e1 : lcGo none (Tgt.gv (.one 3)) tvYes (evTup [(evC (.str z)), (evVar 3)]) [x0, some (.tup (w.map .int)), x2, none, none, x5, none, none] (rangeD 0 (w.length + 1)) h = .ok (((List.range (w.length + 1)).map q).map Deed.d) h := by
    rw [List.map_map]
    refine lcGo_rangeM _ _ _ rfl fun i hi => ⟨_, rfl, ?_⟩
    simp [Tgt.gv, hq]
  have lt : (rangeD 0 (w.length + 1)).length < 16777216 := by rw [rangeD_length]; omega
  rw [evLc_eq, ivBy_eq, k0, bind_ok, kR1_at h (by omega) (by omega), bind_ok, show ((w.length : Int) + 1).toNat = w.length + 1 by omega]
  dsimp only [Tgt.own, wipeE, List.set_cons_succ, List.set_cons_zero]
  rw [if_pos lt, e1, bind_ok]
theorem lawDeeds_lo {h : AH} {r n : Nat} {M : Nat → Nat → Int} (T : Tab n M) (R : RowsAt h r n M) {w : List Int} (hw : Letters n w) (hl : w.length ≤ 60) :
    ∃ t q, h.length ≤ q ∧ d__law_deeds [.ref r, .tup (w.map .int)] h = .ok (.ref q) (h ++ t) ∧ (h ++ t)[q]? = some (.lst (((allDeeds n w.length).filter (canB M w)).map Deed.d)) := by
  have hn : n ≤ 1000 := Nat.le_trans T.n6 (by decide)
  have n6 := T.n6
  obtain ⟨e', h', a1, t, q, x3, x5, rfl, rfl, hq⟩ := forGo_inv (g := none) (gv := gvName 3)
    (body := svAsg (evOp opAdd (evVar 2) (evLc (ivBy [(evB bLen [(evVar 0)])] kR1) (Tgt.own (.one 5)) (Tgt.gv (.one 5)) tvYes (evTup [(evC (.str "in")), (evVar 3), (evOp opAdd (evVar 5) (evC (.int 1)))]))) (gvName 2))
    (fun i e h' => ∃ t q x3 x5, e = [some (.ref r), some (.tup (w.map .int)), some (.ref q), x3, none, x5, none, none] ∧ h' = h ++ t ∧ h'[q]? = some (.lst (((List.range i).flatMap (insAt n)).map Deed.d))) (rangeD 0 (w.length + 1))
    (fun i e h' _ z => rfl) (fun i x e h' hx ⟨t, q, x3, x5, he, hh, hq⟩ => by
      obtain ⟨hi, rfl⟩ := rangeD_get hx
      subst he hh
      rw [Int.zero_add]
      have z1 := lawIns_lc (R.app t) hn (dw := .tup (w.map .int)) i (some (.ref q)) x5
      have z2 := opAdd_ref (ys := (insAt n i).map Deed.d) hq (by
        rw [List.length_map, List.length_map, flat_length, insAt_length, List.length_range]
        have : i * n ≤ 61 * 6 := Nat.mul_le_mul (by omega) n6
        omega)
      refine ⟨_, _, _, _, rfl, ?_, t ++ [.lst (((List.range (i + 1)).flatMap (insAt n)).map Deed.d)], (h ++ t).length, some (.int i), x5, rfl, rfl, ?_⟩
      · rw [svAsg_eq, pv_eq, evOp_eq]
        simp only [List.set_cons_succ, List.set_cons_zero, z1, z2, toFl_ok, bind_ok, ofO_some2, promote_tl, gvName_eq, nxE_ok, evVar_eq, List.getElem?_cons_succ, List.getElem?_cons_zero, ofV_some]
        rw [List.range_succ, List.flatMap_append, List.map_append, List.flatMap_singleton, List.append_assoc]
      · rw [← List.append_assoc]
        simp) (e := [some (.ref r), some (.tup (w.map .int)), some (.ref h.length), none, none, none, none, none]) (h := h ++ [.lst []]) ⟨[.lst []], h.length, none, none, rfl, rfl, by simp⟩
  rw [rangeD_length] at hq
  have o1 := opAdd_ref (ys := ((List.range (w.length + 1)).map Deed.out).map Deed.d) hq (by
    simp only [List.length_map, flat_length, List.length_range]
    have : (w.length + 1) * n ≤ 61 * 6 := Nat.mul_le_mul (by omega) n6
    omega)
  have o2 := opAdd_tl (h := h ++ t) (xs := ((List.range (w.length + 1)).flatMap (insAt n)).map Deed.d ++ ((List.range (w.length + 1)).map Deed.out).map Deed.d) (ys := ((List.range (w.length + 1)).map Deed.turn).map Deed.d) (by
    simp only [List.length_append, List.length_map, flat_length, List.length_range]
    have : (w.length + 1) * n ≤ 61 * 6 := Nat.mul_le_mul (by omega) n6
    omega)
  have eA : (((List.range (w.length + 1)).flatMap (insAt n)).map Deed.d ++ ((List.range (w.length + 1)).map Deed.out).map Deed.d) ++ ((List.range (w.length + 1)).map Deed.turn).map Deed.d = (allDeeds n w.length).map Deed.d := by
    simp only [allDeeds, List.map_append]
  rw [eA] at o2
  have l9 : (allDeeds n w.length).length < 16777216 := by
    rw [allDeeds_length]
    have : (w.length + 1) * n ≤ 61 * 6 := Nat.mul_le_mul (by omega) n6
    omega
  -- found
  generalize hA : AO.lst ((allDeeds n w.length).map Deed.d) = oA
  have gA : (h ++ t ++ [oA])[(h ++ t).length]? = some (.lst ((allDeeds n w.length).map Deed.d)) := by rw [hA]; simp
  have f1 : lcGo (some ((h ++ t).length, .lst ((allDeeds n w.length).map Deed.d))) (Tgt.gv (.one 6)) tvYes (evTup [(evVar 6), (evCall d__law_moved [(evVar 0), (evVar 1), (evVar 6)])])
      [some (.ref r), some (.tup (w.map .int)), some (.ref (h ++ t).length), x3, none, x5, none, none] ((allDeeds n w.length).map Deed.d) (h ++ t ++ [oA]) = .ok ((allDeeds n w.length).map fun dd => .tup [dd.d, optD (movedL M w dd)]) (h ++ t ++ [oA]) := by
    refine lcGo_onM Deed.d _ _ (guardOk_some gA) fun dd hd => ⟨_, rfl, ?_⟩
    have := moved_is T ((R.app t).app [oA]) hw hl dd (allDeeds_ok hd)
    rw [List.append_assoc] at this
    simp [Tgt.gv, this]
  have gB : ∀ oB : AO, (h ++ t ++ [oA] ++ [oB])[(h ++ t ++ [oA]).length]? = some oB := fun oB => by simp
  have f2 : ∀ oB, oB = AO.lst ((allDeeds n w.length).map fun dd => .tup [dd.d, optD (movedL M w dd)]) → lcGo (some ((h ++ t ++ [oA]).length, .lst ((allDeeds n w.length).map fun dd => .tup [dd.d, optD (movedL M w dd)]))) (Tgt.gv (.two 6 7)) (tvAnd (tvOf (evOp opNotN (evVar 7) (evC .non))) (tvOf (evOp opLt (evB bLen [(evVar 7)]) (evC (.int 61))))) (evVar 6)
      [some (.ref r), some (.tup (w.map .int)), some (.ref (h ++ t).length), x3, some (.ref (h ++ t ++ [oA]).length), x5, none, none] ((allDeeds n w.length).map fun dd => .tup [dd.d, optD (movedL M w dd)]) (h ++ t ++ [oA] ++ [oB]) = .ok (((allDeeds n w.length).filter (canB M w)).map Deed.d) (h ++ t ++ [oA] ++ [oB]) := by
    intro oB hB
    refine lcGo_on _ (canB M w) Deed.d _ (guardOk_some (by rw [gB, hB])) fun dd hd => ⟨_, rfl, ?_, fun _ => ?_⟩
    · cases hm : movedL M w dd with
      | none => simp [canB, hm, optD, opNotN]
      | some l => simp [canB, hm, optD, opNotN]; omega
    · simp
  refine ⟨t ++ [oA] ++ [AO.lst ((allDeeds n w.length).map fun dd => .tup [dd.d, optD (movedL M w dd)])] ++ [AO.lst (((allDeeds n w.length).filter (canB M w)).map Deed.d)], (h ++ t ++ [oA] ++ [AO.lst ((allDeeds n w.length).map fun dd => .tup [dd.d, optD (movedL M w dd)])]).length, by simp only [List.length_append]; omega, ?_, by simp [← List.append_assoc]⟩
  have k0 : evs [evOp opAdd (evB bLen [(evVar 1)]) (evC (.int 1))] [some (.ref r), some (.tup (w.map .int)), some (.ref h.length), none, none, none, none, none] (h ++ [AO.lst []]) = .ok [.int ((w.length : Int) + 1)] (h ++ [AO.lst []]) := by simp
  have s1 : svFor (ivBy [(evOp opAdd (evB bLen [(evVar 1)]) (evC (.int 1)))] kR1) (gvName 3) (svAsg (evOp opAdd (evVar 2) (evLc (ivBy [(evB bLen [(evVar 0)])] kR1) (Tgt.own (.one 5)) (Tgt.gv (.one 5)) tvYes (evTup [(evC (.str "in")), (evVar 3), (evOp opAdd (evVar 5) (evC (.int 1)))]))) (gvName 2))
      [some (.ref r), some (.tup (w.map .int)), some (.ref h.length), none, none, none, none, none] (h ++ [AO.lst []]) = .nx [some (D.ref r), some (D.tup (List.map D.int w)), some (D.ref q), x3, none, x5, none, none] (h ++ t) := by
    rw [svFor_eq, ivBy_eq, k0, bind_ok, kR1_at _ (by omega) (by omega), toFl_ok, show ((w.length : Int) + 1).toNat = w.length + 1 by omega]
    exact a1
  have s2 : svAsg (evOp opAdd (evOp opAdd (evVar 2) (evLc (ivBy [(evOp opAdd (evB bLen [(evVar 1)]) (evC (.int 1)))] kR1) (Tgt.own (.one 3)) (Tgt.gv (.one 3)) tvYes (evTup [(evC (.str "out")), (evVar 3)]))) (evLc (ivBy [(evOp opAdd (evB bLen [(evVar 1)]) (evC (.int 1)))] kR1) (Tgt.own (.one 3)) (Tgt.gv (.one 3)) tvYes (evTup [(evC (.str "turn")), (evVar 3)]))) (gvName 2)
      [some (D.ref r), some (D.tup (List.map D.int w)), some (D.ref q), x3, none, x5, none, none] (h ++ t) = .nx [some (D.ref r), some (D.tup (List.map D.int w)), some (D.ref (h ++ t).length), x3, none, x5, none, none] (h ++ t ++ [oA]) := by
    have z1 := lawOut_lc (h := h ++ t) hl "out" Deed.out (some (D.ref r)) (some (D.ref q)) x3 x5 fun _ => rfl
    have z2 := lawOut_lc (h := h ++ t) hl "turn" Deed.turn (some (D.ref r)) (some (D.ref q)) x3 x5 fun _ => rfl
    rw [svAsg_eq, pv_eq, evOp_eq, evOp_eq]
    simp only [evVar_eq, List.getElem?_cons_succ, List.getElem?_cons_zero, ofV_some, bind_ok, z1, z2, o1, o2, ofO_some2, promote_tl, toFl_ok, gvName_eq, nxE_ok, List.set_cons_succ, List.set_cons_zero, hA]
  have s3 : svAsg (evLc (ivSeq (evVar 2)) (Tgt.own (.one 6)) (Tgt.gv (.one 6)) tvYes (evTup [(evVar 6), (evCall d__law_moved [(evVar 0), (evVar 1), (evVar 6)])])) (gvName 4) [some (D.ref r), some (D.tup (List.map D.int w)), some (D.ref (h ++ t).length), x3, none, x5, none, none] (h ++ t ++ [oA]) =
      .nx [some (D.ref r), some (D.tup (List.map D.int w)), some (D.ref (h ++ t).length), x3, some (.ref (h ++ t ++ [oA]).length), x5, none, none] (h ++ t ++ [oA] ++ [AO.lst ((allDeeds n w.length).map fun dd => .tup [dd.d, optD (movedL M w dd)])]) := by
    rw [svAsg_eq, pv_eq, evLc_eq, ivSeq_eq]
    simp only [evVar_eq, List.getElem?_cons_succ, List.getElem?_cons_zero, ofV_some, bind_ok, itsOf_ref gA, its_some]
    rw [if_pos (by rw [List.length_map]; exact l9)]
    dsimp only [Tgt.own, wipeE, List.set_cons_succ, List.set_cons_zero]
    rw [f1]
    rfl
  have s4 : svRet (evLc (ivSeq (evVar 4)) (Tgt.own (.two 6 7)) (Tgt.gv (.two 6 7)) (tvAnd (tvOf (evOp opNotN (evVar 7) (evC .non))) (tvOf (evOp opLt (evB bLen [(evVar 7)]) (evC (.int 61))))) (evVar 6)) [some (D.ref r), some (D.tup (List.map D.int w)), some (D.ref (h ++ t).length), x3, some (.ref (h ++ t ++ [oA]).length), x5, none, none] (h ++ t ++ [oA] ++ [AO.lst ((allDeeds n w.length).map fun dd => .tup [dd.d, optD (movedL M w dd)])]) =
      .ret (.tl (((allDeeds n w.length).filter (canB M w)).map Deed.d)) (h ++ t ++ [oA] ++ [AO.lst ((allDeeds n w.length).map fun dd => .tup [dd.d, optD (movedL M w dd)])]) := by
    rw [svRet_eq, evLc_eq, ivSeq_eq]
    simp only [evVar_eq, List.getElem?_cons_succ, List.getElem?_cons_zero, ofV_some, bind_ok, itsOf_ref (gB (AO.lst ((allDeeds n w.length).map fun dd => .tup [dd.d, optD (movedL M w dd)]))), its_some]
    rw [if_pos (by rw [List.length_map]; exact l9)]
    dsimp only [Tgt.own, wipeE, List.set_cons_succ, List.set_cons_zero]
    rw [f2 _ rfl]
    rfl
  have st : svAsg (evLst []) (gvName 2) (startE 8 [.ref r, .tup (w.map .int)]) h = .nx [some (.ref r), some (.tup (w.map .int)), some (.ref h.length), none, none, none, none, none] (h ++ [AO.lst []]) := by simp
  have f9 := fin_tl (h := h) (xs := ((allDeeds n w.length).filter (canB M w)).map Deed.d) (t ++ [oA] ++ [AO.lst ((allDeeds n w.length).map fun dd => .tup [dd.d, optD (movedL M w dd)])])
  rw [d__law_deeds, fnD_eq, svSeq_eq, st, seq_nx, svSeq_eq, s1, seq_nx, svSeq_eq, s2, seq_nx, svSeq_eq, s3, seq_nx, s4, fin_ret]
  simp only [List.append_assoc] at f9 ⊢
  exact f9
theorem lawDeeds_is {h : AH} {r n : Nat} {M : Nat → Nat → Int} (T : Tab n M) (R : RowsAt h r n M) {w : List Int} (hw : Letters n w) (hl : w.length ≤ 60) :
    ∃ t q, d__law_deeds [.ref r, .tup (w.map .int)] h = .ok (.ref q) (h ++ t) ∧ (h ++ t)[q]? = some (.lst (((allDeeds n w.length).filter (canB M w)).map Deed.d)) := by
  obtain ⟨t, q, _, h1, h2⟩ := lawDeeds_lo T R hw hl
  exact ⟨t, q, h1, h2⟩
end BW

set_option Elab.async false
set_option linter.all false
set_option maxRecDepth 100000
set_option maxHeartbeats 4000000
namespace BW
open PySem
/-! ### draws -/
theorem opFdiv_at {a b : Int} (h : AH) (h0 : 0 < b) (h1 : b ≤ 10000000000000000000000000000000000000000) : opFdiv h (.int a) (.int b) = some (.int (a / b)) := by
  rw [opFdiv_int]
  refine if_pos ⟨h0, Nat.lt_of_lt_of_le (m := 140) ?_ (by decide)⟩
  rw [Nat.log2_lt (by omega)]
  exact Nat.lt_of_le_of_lt (m := 10000000000000000000000000000000000000000) (by omega) (by decide)
theorem opMod_at {a b : Int} (h : AH) (h0 : 0 < b) : opMod h (.int a) (.int b) = some (.int (a % b)) := by
  rw [opMod_int]
  exact if_pos h0
theorem sm1 {h : AH} {a b : Int} (h0 : -1000000000000000000 ≤ a) (h1 : a ≤ 1000000000000000000) : opMul h (.int a) (.int b) = some (.int (a * b)) := opMul_at h (.inl (smallI_of h0 h1))
theorem sm2 {h : AH} {a b : Int} (h0 : -1000000000000000000 ≤ b) (h1 : b ≤ 1000000000000000000) : opMul h (.int a) (.int b) = some (.int (a * b)) := opMul_at h (.inr (smallI_of h0 h1))
theorem mixed_is {cell n : Int} (h : AH) (h0 : 0 ≤ n) (h1 : n ≤ 2000000) : ∃ v, d__law_mixed [.int cell, .int n] h = .ok (.int v) h := by
  refine ⟨(cell * (1 + 2 * n) * 48271 % 2147483647 + 7919 * n * n + 104729 * n) * 69621 % 2147483629 / 7, ?_⟩
  have p : (1 + 2 * n) ≤ 1000000000000000000 := by omega
  have p0 : -1000000000000000000 ≤ (1 + 2 * n) := by omega
  simp [d__law_mixed, fnD_eq, opMod_at, opFdiv_at, sm2 p0 p, sm1 (a := 2) (b := n) (by omega) (by omega), sm2 (b := 48271) (by omega) (by omega), sm1 (a := 7919) (b := n) (by omega) (by omega), sm2 (a := 7919 * n) (b := n) (by omega) (by omega), sm1 (a := 104729) (by omega) (by omega), sm2 (b := 69621) (by omega) (by omega)]
structure MInv (m c g : Nat) (N : Int) (h : AH) : Prop where
  ex : ∃ (spot : Int) (cells gs : List Int), h[m]? = some (.dk [(.inr "cells", .ref c), (.inr "great", .ref g), (.inr "spot", .int spot)]) ∧ 0 ≤ spot ∧ spot ≤ N ∧ h[c]? = some (AO.lst (cells.map D.int)) ∧ cells.length = 64 ∧ h[g]? = some (AO.lst (gs.map D.int))
  ne : c ≠ g
structure Frame (lo : Nat) (h h' : AH) : Prop where
  len : h.length ≤ h'.length
  keep : ∀ i, lo ≤ i → i < h.length → h'[i]? = h[i]?
theorem Frame.refl (lo : Nat) (h : AH) : Frame lo h h := ⟨Nat.le_refl _, fun _ _ _ => rfl⟩
theorem Frame.trans {lo : Nat} {h1 h2 h3 : AH} (a : Frame lo h1 h2) (b : Frame lo h2 h3) : Frame lo h1 h3 :=
  ⟨Nat.le_trans a.len b.len, fun i h0 hi => (b.keep i h0 (Nat.lt_of_lt_of_le hi a.len)).trans (a.keep i h0 hi)⟩
theorem Frame.app (lo : Nat) (h t : AH) : Frame lo h (h ++ t) := ⟨by simp, fun i _ hi => List.getElem?_append_left hi⟩
theorem Frame.at_ {lo : Nat} {h h' : AH} (F : Frame lo h h') {i : Nat} {o : AO} (hi : lo ≤ i) (e : h[i]? = some o) : h'[i]? = some o := (F.keep i hi (List.getElem?_eq_some_iff.mp e).1).trans e
theorem MInv.app {m c g : Nat} {N : Int} {h : AH} (I : MInv m c g N h) (t : AH) : MInv m c g N (h ++ t) := by
  obtain ⟨⟨spot, cells, gs, a1, a2, a3, a4, a5, a6⟩, ne⟩ := I
  refine ⟨⟨spot, cells, gs, ?_, a2, a3, ?_, a5, ?_⟩, ne⟩
  · rw [List.getElem?_append_left (List.getElem?_eq_some_iff.mp a1).1]; exact a1
  · rw [List.getElem?_append_left (List.getElem?_eq_some_iff.mp a4).1]; exact a4
  · rw [List.getElem?_append_left (List.getElem?_eq_some_iff.mp a6).1]; exact a6
theorem MInv.mono {m c g : Nat} {N N' : Int} {h : AH} (I : MInv m c g N h) (hN : N ≤ N') : MInv m c g N' h := by
  obtain ⟨⟨spot, cells, gs, a1, a2, a3, a4, a5, a6⟩, ne⟩ := I
  exact ⟨⟨spot, cells, gs, a1, a2, by omega, a4, a5, a6⟩, ne⟩
theorem MInv.take {m c g : Nat} {N : Int} {h : AH} (I : MInv m c g N h) {k : Nat} (hm : m < k) (hc : c < k) (hg : g < k) : MInv m c g N (h.take k) := by
  obtain ⟨⟨spot, cells, gs, a1, a2, a3, a4, a5, a6⟩, ne⟩ := I
  refine ⟨⟨spot, cells, gs, ?_, a2, a3, ?_, a5, ?_⟩, ne⟩
  · rw [List.getElem?_take_of_lt hm]; exact a1
  · rw [List.getElem?_take_of_lt hc]; exact a4
  · rw [List.getElem?_take_of_lt hg]; exact a6
theorem oldOk_len {n : Nat} : ∀ {h h' : AH}, h'.length = h.length → oldOk n h h' = true → True := fun _ _ => trivial
/-- the end of a def whose answer needs no heap -/
theorem fin_or {h h2 : AH} {d : D} (hp : promote d h2 = .ok d h2) : BW.fin h d h2 = .ok d h2 ∨ BW.fin h d h2 = .ok d (h2.take h.length) := by
  unfold BW.fin
  rw [hp]
  dsimp only
  split
  · exact .inr rfl
  · exact .inl rfl
theorem fin_same {h h2 : AH} {d : D} (hp : promote d h2 = .ok d h2) (hl : h2.length = h.length) : BW.fin h d h2 = .ok d h2 := by
  rcases fin_or (h := h) hp with z | z
  · exact z
  · rw [z, ← hl, List.take_length]
@[simp] theorem evDg_eq (f g : Ev) (e : Env) (h : AH) : evDg f g e h = (f e h).bind fun o h1 => (g e h1).bind fun k h2 => ofO (dgD h2 o k) h2 := nrfl rfl
theorem dput_eq {fo fi fv : Ev} {e : Env} {h h1 h2 h3 : AH} {d : D} {n : Nat} {k : D} {kvs : List (L2.Key × D)} {q : L2.Key} (hv : pv fv e h = .ok d h1) (ho : fo e h1 = .ok (.ref n) h2) (hi : fi e h2 = .ok k h3) (hn : h3[n]? = some (.dk kvs)) (hk : keyD k = some q) (hl : kvs.length ≤ 1000) :
    svDput fo fi fv e h = .nx e (h3.set n (.dk (putD kvs q d))) := by
  unfold svDput
  rw [hv, toFl_ok, ho, toFl_ok, hi, toFl_ok]
  simp only [hn, hk]
  rw [if_pos (Nat.lt_of_le_of_lt hl (by decide))]
theorem subL_eq {fo fi : Ev} {d : D} {e : Env} {h h1 h2 : AH} {n : Nat} {k : Int} {xs : List D} (ho : fo e h = .ok (.ref n) h1) (hi : fi e h1 = .ok (.int k) h2) (hn : h2[n]? = some (.lst xs)) (h0 : 0 ≤ k) (hk : k < xs.length) : gvSubL fo fi d e h = .ok e (h2.set n (.lst (xs.set k.toNat d))) := by
  unfold gvSubL
  have : L2.ixN xs.length k = some k.toNat := by unfold L2.ixN; rw [if_pos h0, if_pos hk]
  simp only [ho, hi, hn, this]
theorem draw_is {m c g : Nat} {N : Int} {h : AH} {limit : Int} (I : MInv m c g N h) (hN : N ≤ 1000000) (h1 : 1 ≤ limit) (h2 : limit ≤ 10000000000000000000000000000000000000000) {lo : Nat} (lm : m < lo) (lc : c < lo) (lg : g < lo) :
    ∃ d h', d__law_draw [.ref m, .int limit] h = .ok (.int d) h' ∧ 0 ≤ d ∧ d < limit ∧ MInv m c g (N + 1) h' ∧ Frame lo h h' ∧ h'.length = h.length := by
  obtain ⟨⟨spot, cells, gs, a1, a2, a3, a4, a5, a6⟩, ne⟩ := I
  have mc : m ≠ c := fun z => by rw [z, a4] at a1; simp at a1
  have mg : m ≠ g := fun z => by rw [z, a6] at a1; simp at a1
  have d1 : dgD h (.ref m) (.str "spot") = some (.int spot) := by
    simp only [dgD, a1]; rfl
  generalize hA : h.set m (.dk [(.inr "cells", .ref c), (.inr "great", .ref g), (.inr "spot", .int (spot + 1))]) = hA' at *
  have lA : hA'.length = h.length := by rw [← hA]; simp
  have b1 : hA'[m]? = some (.dk [(.inr "cells", .ref c), (.inr "great", .ref g), (.inr "spot", .int (spot + 1))]) := by
    rw [← hA, List.getElem?_set_self (List.getElem?_eq_some_iff.mp a1).1]
  have b4 : hA'[c]? = some (AO.lst (cells.map D.int)) := by rw [← hA, List.getElem?_set_ne mc]; exact a4
  have b6 : hA'[g]? = some (AO.lst (gs.map D.int)) := by rw [← hA, List.getElem?_set_ne mg]; exact a6
  have IA : MInv m c g (N + 1) hA' := ⟨⟨spot + 1, cells, gs, b1, by omega, by omega, b4, a5, b6⟩, ne⟩
  have FA : Frame lo h hA' := ⟨by omega, fun i h0 hi => by rw [← hA, List.getElem?_set_ne (by omega)]⟩
  have d2 : dgD hA' (.ref m) (.str "great") = some (.ref g) := by simp only [dgD, b1]; rfl
  have d3 : dgD hA' (.ref m) (.str "cells") = some (.ref c) := by simp only [dgD, b1]; rfl
  have p1 : svDput (evVar 0) (evC (.str "spot")) (evOp opAdd (evVar 2) (evC (.int 1))) [some (.ref m), some (.int limit), some (.int spot), none, none, none] h = .nx [some (.ref m), some (.int limit), some (.int spot), none, none, none] hA' := by
    rw [← hA]
    exact dput_eq (k := .str "spot") (q := Sum.inr "spot") (d := .int (spot + 1)) (by simp) rfl rfl a1 rfl (by simp)
  obtain ⟨v1, m1⟩ := mixed_is (cell := at0 cells (spot % 64).toNat + 31 * (spot / 64)) (n := spot) hA' a2 (by omega)
  obtain ⟨v2, m2⟩ := mixed_is (cell := v1) (n := spot + 7) hA' (by omega) (by omega)
  have ic : opIx hA' (.ref c) (.int (spot % 64)) = some (.int (at0 cells (spot % 64).toNat)) := by
    rw [opIx_ref b4]
    refine atI_get (by omega) ?_
    have : (spot % 64).toNat < cells.length := by omega
    simp [this, at0]
  -- the second way, from any slots
  have tail : ∀ x3 x4 x5, (svSeq (svAsg (evDg (evVar 0) (evC (.str "cells"))) (gvName 3)) (svRet (evOp opMod (evB bInt [(evCall d__law_mixed [(evCall d__law_mixed [(evOp opAdd (evOp opIx (evVar 3) (evOp opMod (evB bInt [(evVar 2)]) (evC (.int 64)))) (evOp opMul (evC (.int 31)) (evOp opFdiv (evVar 2) (evC (.int 64))))), (evVar 2)]), (evOp opAdd (evVar 2) (evC (.int 7)))])]) (evVar 1))))
      [some (.ref m), some (.int limit), some (.int spot), x3, x4, x5] hA' = .ret (.int (v2 % limit)) hA' := by
    intro x3 x4 x5
    simp [d3, opFdiv_at, sm1 (a := 31) (by omega) (by omega), opMod_at, opMod_at (a := v2) hA' (by omega : 0 < limit), ic, m1, m2]
  have opd : opNe hA' (.ref g) (.tl []) = some (.bl (!decide (gs = []))) := by
    have e1 : dataK hA' 9 (.ref g) = some (.list (gs.map .int)) := by
      show (match hA'[g]? with | some (.lst xs) => (allK (dataK hA' 8) xs).map PyData.list | _ => none) = _
      rw [b6]
      simp only [dataK_ints]; rfl
    have e2 : dataK hA' 9 (.tl []) = some (.list []) := rfl
    unfold opNe eqD
    rw [e1, e2]
    have e3 : PyData.eqv (.list (gs.map .int)) (.list []) = decide (gs = []) := by
      have := eqvAll_ints gs []
      simp only [PyData.eqv]
      exact this
    simp only [e3]; rfl
  have r0 : 0 ≤ v2 % limit := Int.emod_nonneg _ (by omega)
  have r1 : v2 % limit < limit := Int.emod_lt_of_pos _ (by omega)
  have f0 := fin_same (h := h) (h2 := hA') (d := .int (v2 % limit)) rfl lA
  by_cases hg : gs = []
  · refine ⟨v2 % limit, hA', ?_, r0, r1, IA, FA, lA⟩
    simp only [d__law_draw, fnD_eq, svSeq_eq, svAsg_eq, startE_eq]
    simp [d1, p1, d2, opd, hg]
    simpa using congrArg (fun z => Fl.fin z h) (tail none none none) |>.trans f0
  · have gl : 0 < gs.length := List.length_pos_iff.mpr hg
    have lg' : bLen hA' [.ref g] = some (.int gs.length) := by rw [bLen_ref b6]; simp
    have j0 : 0 ≤ spot % (gs.length : Int) := Int.emod_nonneg _ (by omega)
    have j1 : spot % (gs.length : Int) < gs.length := Int.emod_lt_of_pos _ (by omega)
    generalize hj : spot % (gs.length : Int) = j at *
    have ig : opIx hA' (.ref g) (.int j) = some (.int (at0 gs j.toNat)) := by
      rw [opIx_ref b6]
      refine atI_get j0 ?_
      have : j.toNat < gs.length := by omega
      simp [this, at0]
    have mo : opMod hA' (.int spot) (.int gs.length) = some (.int j) := by rw [opMod_at hA' (by omega), hj]
    generalize hcell : at0 gs j.toNat = cell at *
    by_cases hc : 0 < cell
    · have sb : gvSubL (evVar 3) (evVar 4) (.int (cell / limit)) [some (.ref m), some (.int limit), some (.int spot), some (.ref g), some (.int j), some (.int cell)] hA' = .ok [some (.ref m), some (.int limit), some (.int spot), some (.ref g), some (.int j), some (.int cell)] (hA'.set g (.lst ((gs.set j.toNat (cell / limit)).map .int))) := by
        rw [subL_eq (n := g) (k := j) rfl rfl b6 j0 (by simpa using j1), List.map_set]
      have lB : (hA'.set g (.lst ((gs.set j.toNat (cell / limit)).map .int))).length = h.length := by rw [List.length_set]; exact lA
      have f1 := fin_same (h := h) (h2 := hA'.set g (.lst ((gs.set j.toNat (cell / limit)).map .int))) (d := .int (cell % limit)) rfl lB
      refine ⟨cell % limit, hA'.set g (.lst ((gs.set j.toNat (cell / limit)).map .int)), ?_, Int.emod_nonneg _ (by omega), Int.emod_lt_of_pos _ (by omega), ?_, ?_, lB⟩
      · simp only [d__law_draw, fnD_eq, svSeq_eq, svAsg_eq, startE_eq]
        simp [d1, p1, d2, opd, hg, lg', mo, ig, hc, opFdiv_at (a := cell) hA' (by omega : 0 < limit) (by omega), sb, opMod_at (a := cell) _ (by omega : 0 < limit), f1, -List.map_set]
      · refine ⟨⟨spot + 1, cells, gs.set j.toNat (cell / limit), ?_, by omega, by omega, ?_, a5, ?_⟩, ne⟩
        · rw [List.getElem?_set_ne (Ne.symm mg)]; exact b1
        · rw [List.getElem?_set_ne (Ne.symm ne)]; exact b4
        · rw [List.getElem?_set_self (by rw [lA]; exact (List.getElem?_eq_some_iff.mp a6).1)]
      · exact FA.trans ⟨by rw [List.length_set]; exact Nat.le_refl _, fun i h0 hi => by rw [List.getElem?_set_ne (by omega)]⟩
    · refine ⟨v2 % limit, hA', ?_, r0, r1, IA, FA, lA⟩
      simp only [d__law_draw, fnD_eq, svSeq_eq, svAsg_eq, startE_eq]
      simp [d1, p1, d2, opd, hg, lg', mo, ig, hc]
      simpa using congrArg (fun z => Fl.fin z h) (tail (some (.ref g)) (some (.int j)) (some (.int cell))) |>.trans f0
end BW

set_option Elab.async false
set_option linter.all false
set_option maxRecDepth 100000
set_option maxHeartbeats 4000000
namespace BW
open PySem
theorem enumD_get {xs : List D} {i : Nat} {d : D} (h : (enumD xs)[i]? = some d) : ∃ x, xs[i]? = some x ∧ d = .tup [.int i, x] := by
  simp only [enumD, List.getElem?_mapIdx, Option.map_eq_some_iff] at h
  obtain ⟨x, h1, rfl⟩ := h
  exact ⟨x, h1, rfl⟩
@[simp] theorem enumD_length (xs : List D) : (enumD xs).length = xs.length := by simp [enumD]
theorem ix_cells {h : AH} {f : Nat} {cells : List Int} (e : h[f]? = some (.lst (cells.map .int))) {j : Int} (h0 : 0 ≤ j) (h1 : j < cells.length) : opIx h (.ref f) (.int j) = some (.int (at0 cells j.toNat)) := by
  rw [opIx_ref e]
  exact atI_word h0 h1
theorem folded_is (ns : List Int) (h : AH) : ∃ cells : List Int, cells.length = 64 ∧ d__law_folded [.rl (ns.map .int)] h = .ok (.ref h.length) (h ++ [.lst (cells.map .int)]) := by
  have e1 : evLc (ivBy [(evC (.int 64))] kR1) (Tgt.own (.one 2)) (Tgt.gv (.one 2)) tvYes (evOp opAdd (evC (.int 17)) (evVar 2)) [some (.rl (ns.map .int)), none, none, none] h = .ok (.tl (((List.range 64).map fun (i : Nat) => (17 + (i : Int))).map .int)) h := by
    have e : lcGo none (Tgt.gv (.one 2)) tvYes (evOp opAdd (evC (.int 17)) (evVar 2)) [some (.rl (ns.map .int)), none, none, none] (rangeD 0 64) h = .ok (((List.range 64).map fun (i : Nat) => (17 + (i : Int))).map .int) h := by
      rw [List.map_map]
      refine lcGo_rangeM _ _ _ rfl fun i hi => ⟨_, rfl, ?_⟩
      simp [Tgt.gv]
    have lt : (rangeD 0 64).length < 16777216 := by rw [rangeD_length]; decide
    rw [evLc_eq, ivBy_eq, evs_cons, evC_eq, bind_ok, evs_nil, bind_ok, bind_ok, kR1_at h (by omega) (by omega), bind_ok]
    dsimp only [Tgt.own, wipeE, List.set_cons_succ, List.set_cons_zero]
    rw [show (64 : Int).toNat = 64 from rfl, if_pos lt, e, bind_ok]
  obtain ⟨e2, h2, a1, cells, x2, x3, he2, hh2, hl2⟩ := forGo_inv (g := none) (gv := gvTup [(gvName 2), (gvName 3)]) (h := h ++ [.lst (((List.range 64).map fun (i : Nat) => (17 + (i : Int))).map .int)])
    (body := svAsg (evOp opMod (evB bInt [(evOp opAdd (evOp opMul (evOp opIx (evVar 1) (evOp opMod (evB bInt [(evVar 2)]) (evC (.int 64)))) (evC (.int 48271))) (evVar 3))]) (evC (.int 2147483647))) (gvSubL (evVar 1) (evOp opMod (evB bInt [(evVar 2)]) (evC (.int 64)))))
    (fun i e h' => ∃ (cells : List Int) (x2 x3 : Option D), e = [some (.rl (ns.map .int)), some (.ref h.length), x2, x3] ∧ h' = h ++ [.lst (cells.map .int)] ∧ cells.length = 64) (enumD (ns.map .int))
    (fun _ _ _ _ _ => rfl) (fun i d e h' hd ⟨cells, x2, x3, he, hh, hl⟩ => by
      subst he hh
      obtain ⟨x, hx, rfl⟩ := enumD_get hd
      rw [List.getElem?_map] at hx
      obtain ⟨cell, _, rfl⟩ := Option.map_eq_some_iff.mp hx
      have g1 : (h ++ [AO.lst (cells.map .int)])[h.length]? = some (.lst (cells.map .int)) := by simp
      have j0 : 0 ≤ (i : Int) % 64 := by omega
      have j1 : (i : Int) % 64 < 64 := by omega
      generalize hj : (i : Int) % 64 = j at *
      have i1 := ix_cells g1 j0 (by omega)
      have sb := fun v : Int => subL_eq (fo := evVar 1) (fi := evOp opMod (evB bInt [(evVar 2)]) (evC (.int 64))) (d := .int v) (e := [some (.rl (ns.map .int)), some (.ref h.length), some (.int i), some (.int cell)]) (h := h ++ [AO.lst (cells.map .int)]) (n := h.length) (k := j) rfl (by simp [opMod_at, hj]) g1 j0 (by simp; omega)
      refine ⟨_, _, _, _, rfl, ?_, cells.set j.toNat ((at0 cells j.toNat * 48271 + cell) % 2147483647), some (.int i), some (.int cell), rfl, rfl, by simp [hl]⟩
      simp [opMod_at, hj, i1, sm2 (b := 48271) (by omega) (by omega), sb, List.map_set]) (e := [some (.rl (ns.map .int)), some (.ref h.length), none, none]) ⟨_, _, _, rfl, rfl, by simp⟩
  subst he2 hh2
  obtain ⟨e3, h3, a3, cells3, x2, x3, he3, hh3, hl3⟩ := forGo_inv (g := none) (gv := gvName 2) (h := h ++ [.lst (cells.map .int)])
    (body := svAsg (evOp opMod (evB bInt [(evOp opAdd (evOp opIx (evVar 1) (evVar 2)) (evOp opMul (evOp opIx (evVar 1) (evOp opSub (evVar 2) (evC (.int 1)))) (evC (.int 16807))))]) (evC (.int 2147483647))) (gvSubL (evVar 1) (evVar 2)))
    (fun i e h' => ∃ (cells : List Int) (x2 x3 : Option D), e = [some (.rl (ns.map .int)), some (.ref h.length), x2, x3] ∧ h' = h ++ [.lst (cells.map .int)] ∧ cells.length = 64) (rangeD 1 63)
    (fun _ _ _ _ _ => rfl) (fun i d e h' hd ⟨cells, x2, x3, he, hh, hl⟩ => by
      subst he hh
      obtain ⟨hi, rfl⟩ := rangeD_get hd
      have g1 : (h ++ [AO.lst (cells.map .int)])[h.length]? = some (.lst (cells.map .int)) := by simp
      have i1 := ix_cells g1 (j := 1 + (i : Int)) (by omega) (by omega)
      have i2 := ix_cells g1 (j := 1 + (i : Int) - 1) (by omega) (by omega)
      have sb := fun v : Int => subL_eq (fo := evVar 1) (fi := evVar 2) (d := .int v) (e := [some (.rl (ns.map .int)), some (.ref h.length), some (.int (1 + (i : Int))), x3]) (h := h ++ [AO.lst (cells.map .int)]) (n := h.length) (k := 1 + (i : Int)) rfl rfl g1 (by omega) (by simp; omega)
      refine ⟨_, _, _, _, rfl, ?_, cells.set (1 + (i : Int)).toNat ((at0 cells (1 + (i : Int)).toNat + at0 cells (1 + (i : Int) - 1).toNat * 16807) % 2147483647), some (.int (1 + (i : Int))), x3, rfl, rfl, by simp [hl]⟩
      simp [opMod_at, i1, i2, sm2 (b := 16807) (by omega) (by omega), sb, List.map_set]) (e := [some (.rl (ns.map .int)), some (.ref h.length), x2, x3]) ⟨_, _, _, rfl, rfl, hl2⟩
  subst he3 hh3
  refine ⟨cells3, hl3, ?_⟩
  have k1 : kEnum [.rl (ns.map .int)] (h ++ [AO.lst (((List.range 64).map fun (i : Nat) => (17 + (i : Int))).map .int)]) = .ok { xs := enumD (ns.map .int) } (h ++ [AO.lst (((List.range 64).map fun (i : Nat) => (17 + (i : Int))).map .int)]) := rfl
  have k2 := kR2_at (a := 1) (b := 64) (h ++ [AO.lst (cells.map .int)]) (by omega) (by omega) (by omega) (by omega)
  rw [show ((64 : Int) - 1).toNat = 63 from rfl] at k2
  have f9 : BW.fin h (.ref h.length) (h ++ [AO.lst (cells3.map .int)]) = .ok (.ref h.length) (h ++ [AO.lst (cells3.map .int)]) := by
    unfold BW.fin
    simp [D.lt]
  simp only [d__law_folded, fnD_eq, svSeq_eq, startE_eq]
  simp only [List.map_cons, List.map_nil, List.length_cons, List.length_nil, List.cons_append, List.nil_append, List.replicate, svSeq_eq, svAsg_eq, pv_eq, e1, bind_ok, promote_tl, toFl_ok, gvName_eq, nxE_ok, seq_nx, List.set_cons_succ, List.set_cons_zero, svFor_eq, ivBy_eq, evs_cons, evs_nil, evVar_eq, List.getElem?_cons_zero, List.getElem?_cons_succ, ofV_some, k1, a1, k2, evC_eq, a3, svRet_eq, fin_ret, f9]
/-- the script's beginning: the dict at 2, its cells at 0, its great cells at 3 -/
theorem pow18 (h : AH) : opPow h (.int 10) (.int 18) = some (.int 1000000000000000000) := by
  show (if (0 : Int) ≤ 18 ∧ (18 : Int) ≤ 1000 ∧ (10 : Int).natAbs < 2 ^ 1000 then some (D.int (10 ^ (18 : Int).toNat)) else none) = _
  rw [if_pos (by decide)]
  rfl
theorem begun_is (ns : List Int) (hn : ns.length ≤ 63) : ∃ h, d__law_begun [.rl (ns.map .int)] [] = .ok (.ref 2) h ∧ MInv 2 0 3 0 h ∧ h.length = 4 := by
  obtain ⟨cells, hl, f1⟩ := folded_is ns []
  have f1' : d__law_folded [.rl (ns.map .int)] [] = .ok (.ref 0) [.lst (cells.map .int)] := f1
  have dp : evDisp [((evC (.str "cells")), (evCall d__law_folded [(evVar 0)])), ((evC (.str "great")), (evLst [])), ((evC (.str "spot")), (evC (.int 0)))] [some (.rl (ns.map .int)), none, none] [] =
      .ok (.ref 2) [.lst (cells.map .int), .lst [], .dk [(.inr "cells", .ref 0), (.inr "great", .ref 1), (.inr "spot", .int 0)]] := by
    have pr : evPairs [((evC (.str "cells")), (evCall d__law_folded [(evVar 0)])), ((evC (.str "great")), (evLst [])), ((evC (.str "spot")), (evC (.int 0)))] [some (.rl (ns.map .int)), none, none] [] =
        .ok [(.inr "cells", .ref 0), (.inr "great", .ref 1), (.inr "spot", .int 0)] [.lst (cells.map .int), .lst []] := by
      simp [evPairs, keyD, f1', promote]
    unfold evDisp
    rw [pr, bind_ok]
    rw [if_pos (by decide)]
    rfl
  have lc : evLc (ivSeq (evVar 0)) (Tgt.own (.one 2)) (Tgt.gv (.one 2)) tvYes (evIf (tvOf (evOp opGe (evVar 2) (evOp opPow (evC (.int 10)) (evC (.int 18))))) (evVar 2) (evC (.int 0))) [some (.rl (ns.map .int)), some (.ref 2), none] [.lst (cells.map .int), .lst [], .dk [(.inr "cells", .ref 0), (.inr "great", .ref 1), (.inr "spot", .int 0)]]
      = .ok (.tl ((ns.map fun c => if 1000000000000000000 ≤ c then c else 0).map .int)) [.lst (cells.map .int), .lst [], .dk [(.inr "cells", .ref 0), (.inr "great", .ref 1), (.inr "spot", .int 0)]] := by
    generalize [AO.lst (cells.map .int), .lst [], .dk [(.inr "cells", .ref 0), (.inr "great", .ref 1), (.inr "spot", .int 0)]] = hh
    have e : lcGo none (Tgt.gv (.one 2)) tvYes (evIf (tvOf (evOp opGe (evVar 2) (evOp opPow (evC (.int 10)) (evC (.int 18))))) (evVar 2) (evC (.int 0))) [some (.rl (ns.map .int)), some (.ref 2), none] (ns.map .int) hh = .ok ((ns.map fun c => if 1000000000000000000 ≤ c then c else 0).map .int) hh := by
      rw [List.map_map]
      refine lcGo_onM D.int _ _ rfl fun c hc => ⟨_, rfl, ?_⟩
      by_cases z : 1000000000000000000 ≤ c <;> simp [Tgt.gv, pow18, z]
    have lt : (ns.map D.int).length < 16777216 := by rw [List.length_map]; omega
    rw [evLc_eq, ivSeq_eq, evVar_eq, List.getElem?_cons_zero, ofV_some, bind_ok, itsOf_rl, its_some, bind_ok]
    dsimp only [Tgt.own, wipeE, List.set_cons_succ, List.set_cons_zero]
    rw [if_pos lt, e, bind_ok]
  have dpt : svDput (evVar 1) (evC (.str "great")) (evLc (ivSeq (evVar 0)) (Tgt.own (.one 2)) (Tgt.gv (.one 2)) tvYes (evIf (tvOf (evOp opGe (evVar 2) (evOp opPow (evC (.int 10)) (evC (.int 18))))) (evVar 2) (evC (.int 0)))) [some (.rl (ns.map .int)), some (.ref 2), none] [.lst (cells.map .int), .lst [], .dk [(.inr "cells", .ref 0), (.inr "great", .ref 1), (.inr "spot", .int 0)]]
      = .nx [some (.rl (ns.map .int)), some (.ref 2), none] [.lst (cells.map .int), .lst [], .dk [(.inr "cells", .ref 0), (.inr "great", .ref 3), (.inr "spot", .int 0)], .lst ((ns.map fun c => if 1000000000000000000 ≤ c then c else 0).map .int)] := by
    have pvE : pv (evLc (ivSeq (evVar 0)) (Tgt.own (.one 2)) (Tgt.gv (.one 2)) tvYes (evIf (tvOf (evOp opGe (evVar 2) (evOp opPow (evC (.int 10)) (evC (.int 18))))) (evVar 2) (evC (.int 0)))) [some (.rl (ns.map .int)), some (.ref 2), none] [.lst (cells.map .int), .lst [], .dk [(.inr "cells", .ref 0), (.inr "great", .ref 1), (.inr "spot", .int 0)]] = .ok (.ref 3) [.lst (cells.map .int), .lst [], .dk [(.inr "cells", .ref 0), (.inr "great", .ref 1), (.inr "spot", .int 0)], .lst ((ns.map fun c => if 1000000000000000000 ≤ c then c else 0).map .int)] := by rw [pv_eq, lc, bind_ok]; rfl
    have z := dput_eq (fo := evVar 1) (fi := evC (.str "great")) (n := 2) (k := .str "great") (q := Sum.inr "great") (d := .ref 3) (kvs := [(.inr "cells", .ref 0), (.inr "great", .ref 1), (.inr "spot", .int 0)]) (h1 := [.lst (cells.map .int), .lst [], .dk [(.inr "cells", .ref 0), (.inr "great", .ref 1), (.inr "spot", .int 0)], .lst ((ns.map fun c => if 1000000000000000000 ≤ c then c else 0).map .int)]) pvE rfl rfl rfl rfl (by simp)
    rw [z]
    rfl
  refine ⟨[.lst (cells.map .int), .lst [], .dk [(.inr "cells", .ref 0), (.inr "great", .ref 3), (.inr "spot", .int 0)], .lst ((ns.map fun c => if 1000000000000000000 ≤ c then c else 0).map .int)], ?_, ⟨⟨0, cells, ns.map fun c => if 1000000000000000000 ≤ c then c else 0, rfl, by omega, by omega, rfl, hl, rfl⟩, by decide⟩, rfl⟩
  have st : svAsg (evDisp [((evC (.str "cells")), (evCall d__law_folded [(evVar 0)])), ((evC (.str "great")), (evLst [])), ((evC (.str "spot")), (evC (.int 0)))]) (gvName 1) (startE 3 [.rl (ns.map .int)]) [] = .nx [some (.rl (ns.map .int)), some (.ref 2), none] [.lst (cells.map .int), .lst [], .dk [(.inr "cells", .ref 0), (.inr "great", .ref 1), (.inr "spot", .int 0)]] := by
    have : startE 3 [.rl (ns.map .int)] = [some (.rl (ns.map .int)), none, none] := rfl
    rw [this, svAsg_eq, pv_eq, dp, bind_ok]
    rfl
  rw [d__law_begun, fnD_eq, svSeq_eq, st, seq_nx, svSeq_eq, dpt, seq_nx]
  rfl
end BW

set_option Elab.async false
set_option linter.all false
set_option maxRecDepth 100000
set_option maxHeartbeats 4000000
namespace BW
open PySem
/-! ### a drawn table -/
def RowsF (L : Nat) (h : AH) (r n : Nat) (M : Nat → Nat → Int) : Prop := ∃ ks : List Nat, ks.length = n ∧ ks.Nodup ∧ r ∉ ks ∧ L ≤ r ∧ (∀ k ∈ ks, L ≤ k) ∧ h[r]? = some (AO.lst (ks.map D.ref)) ∧ ∀ (i k : Nat), ks[i]? = some k → h[k]? = some (AO.lst (rowD n (M i)))
theorem RowsF.at_ {L : Nat} {h : AH} {r n : Nat} {M : Nat → Nat → Int} (R : RowsF L h r n M) : RowsAt h r n M := by
  obtain ⟨ks, a1, a2, a3, _, _, a4, a5⟩ := R
  exact ⟨ks, a1, a2, a3, a4, a5⟩
theorem RowsF.low {L L' : Nat} {h : AH} {r n : Nat} {M : Nat → Nat → Int} (R : RowsF L h r n M) (hL : L' ≤ L) : RowsF L' h r n M := by
  obtain ⟨ks, a1, a2, a3, b1, b2, a4, a5⟩ := R
  exact ⟨ks, a1, a2, a3, by omega, fun k hk => Nat.le_trans hL (b2 k hk), a4, a5⟩
theorem RowsF.frame {L lo : Nat} {h h' : AH} {r n : Nat} {M : Nat → Nat → Int} (R : RowsF L h r n M) (F : Frame lo h h') (hL : lo ≤ L) : RowsF L h' r n M := by
  obtain ⟨ks, a1, a2, a3, b1, b2, a4, a5⟩ := R
  exact ⟨ks, a1, a2, a3, b1, b2, F.at_ (by omega) a4, fun i k e => F.at_ (Nat.le_trans hL (b2 k (List.mem_of_getElem? e))) (a5 i k e)⟩
def upd2 (M : Nat → Nat → Int) (i j : Nat) (v : Int) : Nat → Nat → Int := fun a b => if a = i ∧ b = j then v else M a b
theorem rowD_set (n : Nat) (f : Nat → Int) (j : Nat) (v : Int) : (rowD n f).set j (.int v) = rowD n (fun b => if b = j then v else f b) := by
  refine List.ext_getElem? fun i => ?_
  rw [List.getElem?_set]
  by_cases hi : i < n
  · rw [rowD_get _ hi, rowD_length]
    by_cases h : j = i
    · subst h; rw [if_pos rfl, if_pos hi, rowD_get _ hi, if_pos rfl]
    · rw [if_neg h, rowD_get _ hi, if_neg (Ne.symm h)]
  · have e : ∀ g, (rowD n g)[i]? = none := fun g => List.getElem?_eq_none (by rw [rowD_length]; omega)
    rw [e, e, rowD_length]
    split
    · rename_i z; subst z; simp [hi]
    · rfl
theorem RowsF.put {L : Nat} {h : AH} {r n : Nat} {M : Nat → Nat → Int} (R : RowsF L h r n M) {i j : Nat} (hi : i < n) (v : Int) : ∃ k, L ≤ k ∧ opIx h (.ref r) (.int i) = some (.ref k) ∧ h[k]? = some (.lst (rowD n (M i))) ∧ RowsF L (h.set k (.lst ((rowD n (M i)).set j (.int v)))) r n (upd2 M i j v) := by
  obtain ⟨ks, a1, a2, a3, b1, b2, a4, a5⟩ := R
  have hk : i < ks.length := by omega
  have gk : ks[i]? = some ks[i] := List.getElem?_eq_getElem hk
  have mk := List.getElem_mem hk
  have e := a5 i _ gk
  refine ⟨ks[i], b2 _ mk, ?_, e, ks, a1, a2, a3, b1, b2, ?_, fun i' k' e' => ?_⟩
  · rw [opIx_ref a4]
    exact atI_get (by omega) (by simp [hk])
  · rw [List.getElem?_set_ne (fun z => a3 (by rw [← z]; exact mk))]; exact a4
  · by_cases hii : i' = i
    · subst hii
      have : k' = ks[i'] := by rw [gk] at e'; exact (Option.some.inj e').symm
      subst this
      rw [List.getElem?_set_self (List.getElem?_eq_some_iff.mp e).1, rowD_set]
      congr 3
      funext b
      simp [upd2]
    · have nk : ks[i] ≠ k' := fun z => by
        obtain ⟨h1, h2⟩ := List.getElem?_eq_some_iff.mp e'
        have := (List.getElem_inj a2).mp (h2.trans z.symm)
        exact hii this
      rw [List.getElem?_set_ne nk, a5 i' k' e']
      congr 3
      funext b
      simp [upd2, hii]
theorem Tab.put {n : Nat} {M : Nat → Nat → Int} (T : Tab n M) {i j : Nat} (hi : i < n) (hj : j < n) (hij : i ≠ j) {v : Int} (hv : v = 2 ∨ v = 3 ∨ v = 4 ∨ v = 6 ∨ v = 0) : Tab n (upd2 (upd2 M i j v) j i v) where
  n1 := T.n1
  n6 := T.n6
  dia := fun a ha => by
    unfold upd2
    rw [if_neg (fun z => hij (z.2.symm.trans z.1)), if_neg (fun z => hij (z.1.symm.trans z.2))]
    exact T.dia a ha
  kind := fun a b ha hb hab => by
    unfold upd2
    split
    · exact hv
    · split
      · exact hv
      · exact T.kind a b ha hb hab
  sym := fun a b ha hb => by
    unfold upd2
    by_cases z1 : a = j ∧ b = i
    · obtain ⟨rfl, rfl⟩ := z1
      simp [hij]
    · by_cases z2 : a = i ∧ b = j
      · obtain ⟨rfl, rfl⟩ := z2
        simp [hij]
      · rw [if_neg z1, if_neg z2, if_neg (fun z => z2 ⟨z.2, z.1⟩), if_neg (fun z => z1 ⟨z.2, z.1⟩)]
        exact T.sym a b ha hb
theorem MInv.set {m c g : Nat} {N : Int} {h : AH} (I : MInv m c g N h) {k : Nat} (o : AO) (hm : k ≠ m) (hc : k ≠ c) (hg : k ≠ g) : MInv m c g N (h.set k o) := by
  obtain ⟨⟨spot, cells, gs, a1, a2, a3, a4, a5, a6⟩, ne⟩ := I
  refine ⟨⟨spot, cells, gs, ?_, a2, a3, ?_, a5, ?_⟩, ne⟩
  · rw [List.getElem?_set_ne hm]; exact a1
  · rw [List.getElem?_set_ne hc]; exact a4
  · rw [List.getElem?_set_ne hg]; exact a6
theorem Frame.set {lo : Nat} {h h' : AH} (F : Frame lo h h') {k : Nat} (o : AO) (hk : h.length ≤ k) : Frame lo h (h'.set k o) :=
  ⟨by rw [List.length_set]; exact F.len, fun i h0 hi => by rw [List.getElem?_set_ne (by omega)]; exact F.keep i h0 hi⟩
/-- the rows at their beginning -/
def M0 : Nat → Nat → Int := fun i j => if i = j then 1 else 2
theorem M0_tab {n : Nat} (h1 : 1 ≤ n) (h6 : n ≤ 6) : Tab n M0 where
  n1 := h1
  n6 := h6
  dia := fun i _ => by simp [M0]
  kind := fun i j _ _ h => by simp [M0, h]
  sym := fun i j _ _ => by
    unfold M0
    by_cases h : i = j
    · rw [if_pos h, if_pos h.symm]
    · rw [if_neg h, if_neg (Ne.symm h)]
theorem rows0_is {h : AH} {n : Nat} (hn : n ≤ 6) (x0 x1 x3 : Option D) :
    svAsg (evLc (ivBy [(evVar 2)] kR1) (Tgt.own (.one 5)) (Tgt.gv (.one 5)) tvYes (evLc (ivBy [(evVar 2)] kR1) (Tgt.own (.one 6)) (Tgt.gv (.one 6)) tvYes (evIf (tvOf (evOp opEq (evVar 5) (evVar 6))) (evC (.int 1)) (evC (.int 2))))) (gvName 4) [x0, x1, some (.int n), x3, none, none, none, none] h =
      .nx [x0, x1, some (.int n), x3, some (.ref (h.length + n)), none, none, none] (h ++ (List.range n).map (fun i => AO.lst (rowD n (M0 i))) ++ [.lst ((List.range n).map fun i => .ref (h.length + i))]) := by
  have inner : ∀ (i : Nat) (hh : AH), evLc (ivBy [(evVar 2)] kR1) (Tgt.own (.one 6)) (Tgt.gv (.one 6)) tvYes (evIf (tvOf (evOp opEq (evVar 5) (evVar 6))) (evC (.int 1)) (evC (.int 2))) [x0, x1, some (.int n), x3, none, some (.int i), none, none] hh = .ok (.tl (rowD n (M0 i))) hh := by
    intro i hh
    have e : lcGo none (Tgt.gv (.one 6)) tvYes (evIf (tvOf (evOp opEq (evVar 5) (evVar 6))) (evC (.int 1)) (evC (.int 2))) [x0, x1, some (.int n), x3, none, some (.int i), none, none] (rangeD 0 n) hh = .ok (rowD n (M0 i)) hh := by
      unfold rowD
      refine lcGo_rangeM _ _ _ rfl fun j hj => ⟨_, rfl, ?_⟩
      by_cases hij : i = j
      · subst hij; simp [Tgt.gv, M0]
      · have : ¬ (i : Int) = j := by omega
        simp [Tgt.gv, M0, hij, this]
    have lt : (rangeD 0 n).length < 16777216 := by rw [rangeD_length]; omega
    rw [evLc_eq, ivBy_eq, evs_cons, evVar_eq]
    simp only [List.getElem?_cons_succ, List.getElem?_cons_zero, ofV_some, bind_ok, evs_nil, kR1_at hh (by omega : -1000000000000 ≤ (n : Int)) (by omega), Int.toNat_natCast]
    dsimp only [Tgt.own, wipeE, List.set_cons_succ, List.set_cons_zero]
    rw [if_pos lt, e, bind_ok]
  obtain ⟨ys, h', a1, a2, a3⟩ := lcGo_inv (g := none) (gv := Tgt.gv (.one 5)) (tt := tvYes) (elt := evLc (ivBy [(evVar 2)] kR1) (Tgt.own (.one 6)) (Tgt.gv (.one 6)) tvYes (evIf (tvOf (evOp opEq (evVar 5) (evVar 6))) (evC (.int 1)) (evC (.int 2)))) (e := [x0, x1, some (.int n), x3, none, none, none, none]) (h := h)
    (fun i l h' => l = (List.range i).map (fun i => D.ref (h.length + i)) ∧ h' = h ++ (List.range i).map (fun i => AO.lst (rowD n (M0 i)))) (rangeD 0 n) (fun _ _ _ _ _ => rfl)
    (fun i d l h' hd ⟨hl, hh⟩ => by
      obtain ⟨hi, rfl⟩ := rangeD_get hd
      subst hl hh
      refine ⟨_, _, rfl, .inr ⟨_, .ref (h.length + i), h ++ (List.range (i + 1)).map (fun i => AO.lst (rowD n (M0 i))), rfl, ?_, ?_, rfl⟩⟩
      · have z := inner i (h ++ (List.range i).map (fun i => AO.lst (rowD n (M0 i))))
        simp only [pv_eq, Int.zero_add, List.set_cons_succ, List.set_cons_zero, z, bind_ok, promote_tl]
        simp [List.range_succ]
      · simp [List.range_succ]) ⟨rfl, by simp⟩
  rw [rangeD_length] at a2 a3
  subst a2 a3
  have lt : (rangeD 0 n).length < 16777216 := by rw [rangeD_length]; omega
  rw [svAsg_eq, pv_eq, evLc_eq, ivBy_eq, evs_cons, evVar_eq]
  simp only [List.getElem?_cons_succ, List.getElem?_cons_zero, ofV_some, bind_ok, evs_nil, kR1_at h (by omega : -1000000000000 ≤ (n : Int)) (by omega), Int.toNat_natCast]
  dsimp only [Tgt.own, wipeE, List.set_cons_succ, List.set_cons_zero]
  rw [if_pos lt]
  have a1' : lcGo none (Tgt.gv (.one 5)) tvYes (evLc (ivBy [(evVar 2)] kR1) [6] (Tgt.gv (.one 6)) tvYes (evIf (tvOf (evOp opEq (evVar 5) (evVar 6))) (evC (.int 1)) (evC (.int 2)))) [x0, x1, some (.int n), x3, none, none, none, none] (rangeD 0 n) h = _ := a1
  rw [a1']
  simp
theorem rows0_F {h : AH} {n : Nat} : RowsF h.length (h ++ (List.range n).map (fun i => AO.lst (rowD n (M0 i))) ++ [.lst ((List.range n).map fun i => .ref (h.length + i))]) (h.length + n) n M0 := by
  refine ⟨(List.range n).map (h.length + ·), by simp, ?_, ?_, by omega, ?_, ?_, ?_⟩
  · exact List.Pairwise.map _ (fun a b z => by omega) List.nodup_range
  · intro z
    obtain ⟨a, ha, e⟩ := List.mem_map.mp z
    have := List.mem_range.mp ha
    omega
  · intro k hk
    obtain ⟨a, ha, rfl⟩ := List.mem_map.mp hk
    omega
  · rw [List.getElem?_append_right (by simp)]
    simp
  · intro i k e
    obtain ⟨h1, h2⟩ := List.getElem?_eq_some_iff.mp e
    simp at h1 h2
    subst h2
    rw [List.append_assoc, List.getElem?_append_right (by omega), Nat.add_sub_cancel_left, List.getElem?_append_left (by simpa using h1)]
    simp [h1]
def Kd (v : Int) : Prop := v = 2 ∨ v = 3 ∨ v = 4 ∨ v = 6 ∨ v = 0
def tChoose : Sv := svSeq (svAsg (evC (.int 2)) (gvName 7)) (svIf (tvOf (evOp opLt (evVar 3) (evC (.int 2)))) (svAsg (evOp opIx (evLst [(evC (.int 2)), (evC (.int 3)), (evC (.int 3)), (evC (.int 4)), (evC (.int 6)), (evC (.int 0)), (evC (.int 2)), (evC (.int 2))]) (evCall d__law_draw [(evVar 0), (evC (.int 8))])) (gvName 7)) (svIf (tvOf (evOp opEq (evVar 6) (evOp opAdd (evVar 5) (evC (.int 1))))) (svAsg (evIf (tvOr (tvOf (evOp opLt (evVar 6) (evOp opSub (evVar 2) (evC (.int 1))))) (tvOf (evOp opEq (evVar 3) (evC (.int 2))))) (evC (.int 3)) (evOp opIx (evLst [(evC (.int 3)), (evC (.int 4)), (evC (.int 6)), (evC (.int 0))]) (evCall d__law_draw [(evVar 0), (evC (.int 4))]))) (gvName 7)) svNil))
theorem pick8 {d : Int} (h0 : 0 ≤ d) (h1 : d < 8) : ∃ v, L2.atI [D.int 2, .int 3, .int 3, .int 4, .int 6, .int 0, .int 2, .int 2] d = some (.int v) ∧ Kd v := by
  have : d = 0 ∨ d = 1 ∨ d = 2 ∨ d = 3 ∨ d = 4 ∨ d = 5 ∨ d = 6 ∨ d = 7 := by omega
  rcases this with rfl | rfl | rfl | rfl | rfl | rfl | rfl | rfl
  · exact ⟨2, rfl, .inl rfl⟩
  · exact ⟨3, rfl, .inr (.inl rfl)⟩
  · exact ⟨3, rfl, .inr (.inl rfl)⟩
  · exact ⟨4, rfl, .inr (.inr (.inl rfl))⟩
  · exact ⟨6, rfl, .inr (.inr (.inr (.inl rfl)))⟩
  · exact ⟨0, rfl, .inr (.inr (.inr (.inr rfl)))⟩
  · exact ⟨2, rfl, .inl rfl⟩
  · exact ⟨2, rfl, .inl rfl⟩
theorem pick4 {d : Int} (h0 : 0 ≤ d) (h1 : d < 4) : ∃ v, L2.atI [D.int 3, .int 4, .int 6, .int 0] d = some (.int v) ∧ Kd v := by
  have : d = 0 ∨ d = 1 ∨ d = 2 ∨ d = 3 := by omega
  rcases this with rfl | rfl | rfl | rfl
  · exact ⟨3, rfl, .inr (.inl rfl)⟩
  · exact ⟨4, rfl, .inr (.inr (.inl rfl))⟩
  · exact ⟨6, rfl, .inr (.inr (.inr (.inl rfl)))⟩
  · exact ⟨0, rfl, .inr (.inr (.inr (.inr rfl)))⟩
theorem choose_is {m c g : Nat} {N : Int} {h : AH} {lo : Nat} (I : MInv m c g N h) (hN : N ≤ 1000000) (lm : m < lo) (lc : c < lo) (lg : g < lo) (x1 : Option D) (n way a b : Int) (x4 x7 : Option D) :
    ∃ v h', tChoose [some (.ref m), x1, some (.int n), some (.int way), x4, some (.int a), some (.int b), x7] h = .nx [some (.ref m), x1, some (.int n), some (.int way), x4, some (.int a), some (.int b), some (.int v)] h' ∧ Kd v ∧ MInv m c g (N + 1) h' ∧ Frame lo h h' := by
  by_cases h1 : way < 2
  · obtain ⟨d, h', r, z1, z2, I', F', _⟩ := draw_is (limit := 8) I hN (by omega) (by omega) lm lc lg
    obtain ⟨v, hv, kv⟩ := pick8 z1 z2
    refine ⟨v, h', ?_, kv, I', F'⟩
    simp [tChoose, h1, r, hv]
  · by_cases h2 : b = a + 1
    · by_cases h3 : b < n - 1 ∨ way = 2
      · refine ⟨3, h, ?_, .inr (.inl rfl), I.mono (by omega), .refl _ _⟩
        rcases h3 with h3 | h3
        · simp [tChoose, h1, h2]
          intro z; omega
        · simp [tChoose, h2, h3]
      · obtain ⟨d, h', r, z1, z2, I', F', _⟩ := draw_is (limit := 4) I hN (by omega) (by omega) lm lc lg
        obtain ⟨v, hv, kv⟩ := pick4 z1 z2
        have h4 : ¬ b < n - 1 := fun z => h3 (.inl z)
        have h5 : ¬ way = 2 := fun z => h3 (.inr z)
        refine ⟨v, h', ?_, kv, I', F'⟩
        rw [h2] at h4
        simp [tChoose, h1, h2, h4, h5, r, hv]
    · refine ⟨2, h, ?_, .inl rfl, I.mono (by omega), .refl _ _⟩
      simp [tChoose, h1, h2]
theorem place_is {L : Nat} {h : AH} {r n : Nat} {M : Nat → Nat → Int} (R : RowsF L h r n M) (T : Tab n M) {a b : Nat} (ha : a < n) (hb : b < n) (hab : a ≠ b) {v : Int} (kv : Kd v) (x0 x1 x2 x3 : Option D) :
    ∃ k1 o1 k2 o2, L ≤ k1 ∧ L ≤ k2 ∧ svAsg (evTup [(evVar 7), (evVar 7)]) (gvTup [(gvSubL (evOp opIx (evVar 4) (evVar 5)) (evVar 6)), (gvSubL (evOp opIx (evVar 4) (evVar 6)) (evVar 5))]) [x0, x1, x2, x3, some (.ref r), some (.int a), some (.int b), some (.int v)] h = .nx [x0, x1, x2, x3, some (.ref r), some (.int a), some (.int b), some (.int v)] ((h.set k1 o1).set k2 o2) ∧
      RowsF L ((h.set k1 o1).set k2 o2) r n (upd2 (upd2 M a b v) b a v) ∧ Tab n (upd2 (upd2 M a b v) b a v) := by
  obtain ⟨k1, l1, i1, g1, R1⟩ := R.put (i := a) (j := b) ha v
  obtain ⟨k2, l2, i2, g2, R2⟩ := R1.put (i := b) (j := a) hb v
  refine ⟨k1, _, k2, _, l1, l2, ?_, R2, T.put ha hb hab kv⟩
  have s1 := subL_eq (fo := evOp opIx (evVar 4) (evVar 5)) (fi := evVar 6) (d := .int v) (e := [x0, x1, x2, x3, some (.ref r), some (.int a), some (.int b), some (.int v)]) (h := h) (n := k1) (k := (b : Int)) (by simp [i1]) rfl g1 (by omega) (by rw [rowD_length]; omega)
  have s2 := subL_eq (fo := evOp opIx (evVar 4) (evVar 6)) (fi := evVar 5) (d := .int v) (e := [x0, x1, x2, x3, some (.ref r), some (.int a), some (.int b), some (.int v)]) (h := h.set k1 (.lst ((rowD n (M a)).set b (.int v)))) (n := k2) (k := (a : Int)) (by simp [i2]) rfl g2 (by omega) (by rw [rowD_length]; omega)
  rw [Int.toNat_natCast] at s1 s2
  simp [gvTup, gvs, s1, s2]
/-- where rows and draws stand -/
structure St0 (m c g lo : Nat) (N : Int) (h0 h : AH) : Prop where
  inv : MInv m c g N h
  fr : Frame lo h0 h
def tBody : Sv := svSeq tChoose (svAsg (evTup [(evVar 7), (evVar 7)]) (gvTup [(gvSubL (evOp opIx (evVar 4) (evVar 5)) (evVar 6)), (gvSubL (evOp opIx (evVar 4) (evVar 6)) (evVar 5))]))
theorem table_is {m c g : Nat} {N : Int} {h : AH} {most : Int} {lo : Nat} (I : MInv m c g N h) (hN : N ≤ 900000) (h1 : 1 ≤ most) (h6 : most ≤ 6) (lm : m < lo) (lc : c < lo) (lg : g < lo) (hlo : lo ≤ h.length) :
    ∃ r n M h', d__law_table [.ref m, .int most] h = .ok (.ref r) h' ∧ Tab n M ∧ (n : Int) ≤ most ∧ RowsF lo h' r n M ∧ MInv m c g (N + 100) h' ∧ Frame lo h h' := by
  obtain ⟨d1, hA, r1, z1, z2, IA, FA, lA⟩ := draw_is I (by omega) h1 (by omega) lm lc lg
  obtain ⟨way, hB, r2, y1, y2, IB, FB, lB⟩ := draw_is (limit := 4) IA (by omega) (by omega) (by omega) lm lc lg
  obtain ⟨n, hn⟩ : ∃ n : Nat, 1 + d1 = n := ⟨(1 + d1).toNat, by omega⟩
  have n1 : 1 ≤ n := by omega
  have n6 : n ≤ 6 := by omega
  have F0 : Frame lo h hB := FA.trans FB
  have l0 : hB.length = h.length := by omega
  have s3 := rows0_is (h := hB) n6 (some (.ref m)) (some (.int most)) (some (.int way))
  have R0 := rows0_F (h := hB) (n := n)
  generalize hh3 : hB ++ (List.range n).map (fun i => AO.lst (rowD n (M0 i))) ++ [.lst ((List.range n).map fun i => .ref (hB.length + i))] = h3 at *
  have F3 : Frame lo h h3 := F0.trans (by rw [← hh3, List.append_assoc]; exact Frame.app _ _ _)
  have I3 : MInv m c g (N + 2) h3 := by
    rw [← hh3, List.append_assoc]
    have := IB.app ((List.range n).map (fun i => AO.lst (rowD n (M0 i))) ++ [.lst ((List.range n).map fun i => .ref (hB.length + i))])
    rwa [show N + 1 + 1 = N + 2 by omega] at this
  rw [l0] at R0 s3
  generalize hr : h.length + n = r at *
  have step : ∀ (a b : Nat) (x7 : Option D) (N1 : Int) (h1 : AH) (M : Nat → Nat → Int), a < n → b < n → a ≠ b → N1 ≤ 1000000 → RowsF h.length h1 r n M → Tab n M → MInv m c g N1 h1 → Frame lo h h1 →
      ∃ v h2 M', tBody [some (.ref m), some (.int most), some (.int n), some (.int way), some (.ref r), some (.int a), some (.int b), x7] h1 = .nx [some (.ref m), some (.int most), some (.int n), some (.int way), some (.ref r), some (.int a), some (.int b), some (.int v)] h2 ∧ RowsF h.length h2 r n M' ∧ Tab n M' ∧ MInv m c g (N1 + 1) h2 ∧ Frame lo h h2 := by
    intro a b x7 N1 h1 M ha hb hab hN1 R T I1 F1
    obtain ⟨v, h2, c1, kv, I2, F2⟩ := choose_is I1 hN1 lm lc lg (some (.int most)) n way a b (some (.ref r)) x7
    obtain ⟨k1, o1, k2, o2, l1, l2, p1, R', T'⟩ := place_is (R.frame F2 hlo) T ha hb hab kv (some (.ref m)) (some (.int most)) (some (.int n)) (some (.int way))
    refine ⟨v, _, _, ?_, R', T', ?_, ?_⟩
    · unfold tBody
      rw [svSeq_eq, c1, seq_nx, p1]
    · exact (I2.set _ (by omega) (by omega) (by omega)).set _ (by omega) (by omega) (by omega)
    · exact ((F1.trans F2).set _ l1).set _ l2
  obtain ⟨e9, h9, a9, x5, x6, x7, M9, he9, R9, T9, I9, F9⟩ := forGo_inv (g := none) (gv := gvName 5) (h := h3)
    (body := svFor (ivBy [(evOp opAdd (evVar 5) (evC (.int 1))), (evVar 2)] kR2) (gvName 6) tBody)
    (fun i e h' => ∃ x5 x6 x7 M, e = [some (.ref m), some (.int most), some (.int n), some (.int way), some (.ref r), x5, x6, x7] ∧ RowsF h.length h' r n M ∧ Tab n M ∧ MInv m c g (N + 2 + 6 * (i : Int)) h' ∧ Frame lo h h') (rangeD 0 n)
    (fun _ _ _ _ _ => rfl) (fun i d e h' hd ⟨x5, x6, x7, M, he, R, T, I', F'⟩ => by
      obtain ⟨hi, rfl⟩ := rangeD_get hd
      subst he
      rw [Int.zero_add]
      obtain ⟨e8, h8, a8, y6, y7, M8, he8, R8, T8, I8, F8⟩ := forGo_inv (g := none) (gv := gvName 6) (h := h') (body := tBody)
        (fun j e h' => ∃ x6 x7 M, e = [some (.ref m), some (.int most), some (.int n), some (.int way), some (.ref r), some (.int i), x6, x7] ∧ RowsF h.length h' r n M ∧ Tab n M ∧ MInv m c g (N + 2 + 6 * (i : Int) + j) h' ∧ Frame lo h h') (rangeD ((i : Int) + 1) (n - (i + 1)))
        (fun _ _ _ _ _ => rfl) (fun j d e h' hd ⟨x6, x7, M, he, R, T, I', F'⟩ => by
          obtain ⟨hj, rfl⟩ := rangeD_get hd
          subst he
          have eb : (i : Int) + 1 + (j : Int) = ((i + 1 + j : Nat) : Int) := by omega
          rw [eb]
          obtain ⟨v, h2, M', b1, b2, b3, b4, b5⟩ := step i (i + 1 + j) x7 _ h' M hi (by omega) (by omega) (by omega) R T I' F'
          exact ⟨_, _, _, _, rfl, b1, _, _, M', rfl, b2, b3, by rw [show N + 2 + 6 * (i : Int) + ((j + 1 : Nat) : Int) = N + 2 + 6 * (i : Int) + j + 1 by omega]; exact b4, b5⟩) (e := [some (.ref m), some (.int most), some (.int n), some (.int way), some (.ref r), some (.int i), x6, x7]) ⟨_, _, M, rfl, R, T, by simpa using I', F'⟩
      subst he8
      rw [rangeD_length] at I8
      refine ⟨_, _, [some (.ref m), some (.int most), some (.int n), some (.int way), some (.ref r), some (.int i), y6, y7], h8, rfl, ?_, some (.int i), y6, y7, M8, rfl, R8, T8, I8.mono (by omega), F8⟩
      have k2 := kR2_at (a := (i : Int) + 1) (b := n) h' (by omega) (by omega) (by omega) (by omega)
      rw [show ((n : Int) - ((i : Int) + 1)).toNat = n - (i + 1) by omega] at k2
      simp only [svFor_eq, ivBy_eq, evs_cons, evs_nil, evOp_eq, evVar_eq, List.getElem?_cons_zero, List.getElem?_cons_succ, ofV_some, bind_ok, evC_eq, opAdd_int, ofO_some2, List.set_cons_succ, List.set_cons_zero, k2, toFl_ok, a8]) (e := [some (.ref m), some (.int most), some (.int n), some (.int way), some (.ref r), none, none, none]) ⟨_, _, _, M0, rfl, R0, M0_tab n1 n6, by simpa using I3, F3⟩
  subst he9
  rw [rangeD_length] at I9
  refine ⟨r, n, M9, h9, ?_, T9, by omega, R9.low hlo, I9.mono (by omega), F9⟩
  have k1 := kR1_at (n := n) h3 (by omega) (by omega)
  rw [Int.toNat_natCast] at k1
  have f9 : BW.fin h (.ref r) h9 = .ok (.ref r) h9 := by
    unfold BW.fin
    rw [promote_ref]
    have : D.lt h.length (.ref r) = false := by show decide (r < h.length) = false; exact decide_eq_false (by omega)
    simp only [this, Bool.false_and, Bool.false_eq_true, if_false]
  have eT : d__law_table = fnD 8 (svSeq (svAsg (evOp opAdd (evC (.int 1)) (evCall d__law_draw [(evVar 0), (evVar 1)])) (gvName 2)) (svSeq (svAsg (evCall d__law_draw [(evVar 0), (evC (.int 4))]) (gvName 3)) (svSeq (svAsg (evLc (ivBy [(evVar 2)] kR1) (Tgt.own (.one 5)) (Tgt.gv (.one 5)) tvYes (evLc (ivBy [(evVar 2)] kR1) (Tgt.own (.one 6)) (Tgt.gv (.one 6)) tvYes (evIf (tvOf (evOp opEq (evVar 5) (evVar 6))) (evC (.int 1)) (evC (.int 2))))) (gvName 4)) (svSeq (svFor (ivBy [(evVar 2)] kR1) (gvName 5) (svFor (ivBy [(evOp opAdd (evVar 5) (evC (.int 1))), (evVar 2)] kR2) (gvName 6) tBody)) (svRet (evVar 4)))))) := by
    have : ∀ A B C : Sv, svSeq A (svSeq B C) = svSeq (svSeq A B) C := fun A B C => by
      funext e h
      simp only [svSeq_eq]
      cases A e h <;> rfl
    unfold d__law_table tBody tChoose
    rw [this (svAsg (evC (.int 2)) (gvName 7))]
  have st1 : svAsg (evOp opAdd (evC (.int 1)) (evCall d__law_draw [(evVar 0), (evVar 1)])) (gvName 2) [some (.ref m), some (.int most), none, none, none, none, none, none] h = .nx [some (.ref m), some (.int most), some (.int n), none, none, none, none, none] hA := by
    simp [r1, hn]
  have st2 : svAsg (evCall d__law_draw [(evVar 0), (evC (.int 4))]) (gvName 3) [some (.ref m), some (.int most), some (.int n), none, none, none, none, none] hA = .nx [some (.ref m), some (.int most), some (.int n), some (.int way), none, none, none, none] hB := by
    simp [r2]
  have st0 : startE 8 [.ref m, .int most] = [some (.ref m), some (.int most), none, none, none, none, none, none] := rfl
  rw [eT, fnD_eq, st0, svSeq_eq, st1, seq_nx, svSeq_eq, st2, seq_nx, svSeq_eq, s3, seq_nx, svSeq_eq]
  simp only [svFor_eq (ivBy [(evVar 2)] kR1), ivBy_eq, evs_cons, evs_nil, evVar_eq, List.getElem?_cons_zero, List.getElem?_cons_succ, ofV_some, bind_ok, k1, toFl_ok, a9, seq_nx, svRet_eq, fin_ret, f9]
end BW

set_option Elab.async false
set_option linter.all false
set_option maxRecDepth 100000
set_option maxHeartbeats 4000000
namespace BW
open PySem
/-! ### weights, rows, words -/
def wD : AO := .dk [(.inl 2, .tup [.int 0, .int 0]), (.inl 3, .tup [.int 1, .int 1]), (.inl 4, .tup [.int 1, .int 2]), (.inl 6, .tup [.int 1, .int 3]), (.inl 0, .tup [.int 2, .int 2])]
theorem disp_is (e : Env) (h : AH) : evDisp [((evC (.int 2)), (evTup [(evC (.int 0)), (evC (.int 0))])), ((evC (.int 3)), (evTup [(evC (.int 1)), (evC (.int 1))])), ((evC (.int 4)), (evTup [(evC (.int 1)), (evC (.int 2))])), ((evC (.int 6)), (evTup [(evC (.int 1)), (evC (.int 3))])), ((evC (.int 0)), (evTup [(evC (.int 2)), (evC (.int 2))]))] e h = .ok (.ref h.length) (h ++ [wD]) := by
  have p : evPairs [((evC (.int 2)), (evTup [(evC (.int 0)), (evC (.int 0))])), ((evC (.int 3)), (evTup [(evC (.int 1)), (evC (.int 1))])), ((evC (.int 4)), (evTup [(evC (.int 1)), (evC (.int 2))])), ((evC (.int 6)), (evTup [(evC (.int 1)), (evC (.int 3))])), ((evC (.int 0)), (evTup [(evC (.int 2)), (evC (.int 2))]))] e h = .ok [(.inl 2, .tup [.int 0, .int 0]), (.inl 3, .tup [.int 1, .int 1]), (.inl 4, .tup [.int 1, .int 2]), (.inl 6, .tup [.int 1, .int 3]), (.inl 0, .tup [.int 2, .int 2])] h := by
    simp [evPairs, keyD]
  unfold evDisp
  rw [p, bind_ok, if_pos (by decide)]
  rfl
theorem wD_get {v : Int} (kv : Kd v) (h : AH) : ∃ lo hi : Int, (0 ≤ lo ∧ lo ≤ 3 ∧ 0 ≤ hi ∧ hi ≤ 3) ∧ dgD (h ++ [wD]) (.ref h.length) (.int v) = some (.tup [.int lo, .int hi]) := by
  have g : (h ++ [wD])[h.length]? = some wD := by simp
  have z : ∀ v, dgD (h ++ [wD]) (.ref h.length) (.int v) = valD [(.inl 2, D.tup [.int 0, .int 0]), (.inl 3, .tup [.int 1, .int 1]), (.inl 4, .tup [.int 1, .int 2]), (.inl 6, .tup [.int 1, .int 3]), (.inl 0, .tup [.int 2, .int 2])] (Sum.inl v : L2.Key) := fun v => by
    simp only [dgD, g]; rfl
  rw [z]
  rcases kv with rfl | rfl | rfl | rfl | rfl
  · exact ⟨0, 0, by omega, rfl⟩
  · exact ⟨1, 1, by omega, rfl⟩
  · exact ⟨1, 2, by omega, rfl⟩
  · exact ⟨1, 3, by omega, rfl⟩
  · exact ⟨2, 2, by omega, rfl⟩
theorem weight_is {h : AH} {r n : Nat} {M : Nat → Nat → Int} (R : RowsAt h r n M) (T : Tab n M) {a b : Int} (h1 : 1 ≤ a) (h2 : a ≤ n) (h3 : 1 ≤ b) (h4 : b ≤ n) : ∃ v : Int, -3 ≤ v ∧ v ≤ 3 ∧ d__law_weight [.ref r, .int a, .int b] h = .ok (.int v) h := by
  by_cases hab : a = b
  · exact ⟨-2, by omega, by omega, by simp [d__law_weight, fnD_eq, hab]⟩
  · have R' := R.app [wD]
    obtain ⟨k, i1, i2⟩ := R'.ix (i := a - 1) (by omega) (by omega)
    have i3 := i2 (b - 1) (by omega) (by omega)
    have kv : Kd (M (a - 1).toNat (b - 1).toNat) := T.kind _ _ (by omega) (by omega) (by omega)
    generalize M (a - 1).toNat (b - 1).toNat = v at *
    obtain ⟨lo, hi, bd, gd⟩ := wD_get kv h
    have fn : ∀ x : Int, BW.fin h (.int x) (h ++ [wD]) = .ok (.int x) h := fun x => fin_pure [wD] rfl rfl
    have d0 := disp_is [some (.ref r), some (.int a), some (.int b), none, none] h
    by_cases lt : a < b
    · exact ⟨lo, by omega, by omega, by simp [d__law_weight, fnD_eq, hab, d0, i1, i3, gd, lt, fn]⟩
    · exact ⟨hi, by omega, by omega, by simp [d__law_weight, fnD_eq, hab, d0, i1, i3, gd, lt, fn]⟩
theorem press_is {h : AH} {r n : Nat} {M : Nat → Nat → Int} (R : RowsAt h r n M) (T : Tab n M) {ws : List Int} (hw : ws.length = n) {a : Int} (h1 : 1 ≤ a) (h2 : a ≤ n) : ∃ us : List Int, us.length = n ∧ d__law_press [.ref r, .tup (ws.map .int), .int a] h = .ok (.tup (us.map .int)) h := by
  have n6 := T.n6
  obtain ⟨ys, h', e, rfl, us, rfl, hu⟩ := lcGo_inv (g := none) (gv := Tgt.gv (.one 3)) (tt := tvYes) (elt := evOp opAdd (evOp opIx (evVar 1) (evVar 3)) (evOp opMul (evCall d__law_weight [(evVar 0), (evVar 2), (evOp opAdd (evVar 3) (evC (.int 1)))]) (evOp opIx (evVar 1) (evOp opSub (evVar 2) (evC (.int 1)))))) (e := [some (.ref r), some (.tup (ws.map .int)), some (.int a), none]) (h := h)
    (fun i l h' => h' = h ∧ ∃ us : List Int, l = us.map .int ∧ us.length = i) (rangeD 0 n) (fun _ _ _ _ _ => rfl) (fun i d l h' hd ⟨hh, us, hl, hu⟩ => by
      obtain ⟨hi, rfl⟩ := rangeD_get hd
      subst hh hl
      obtain ⟨v, v1, v2, wv⟩ := weight_is R T (a := a) (b := (i : Int) + 1) h1 h2 (by omega) (by omega)
      have a1 := atI_word (w := ws) (k := (i : Int)) (by omega) (by omega)
      have a2 := atI_word (w := ws) (k := a - 1) (by omega) (by omega)
      refine ⟨_, _, rfl, .inr ⟨_, .int (at0 ws i + v * at0 ws (a - 1).toNat), _, rfl, ?_, rfl, us ++ [at0 ws i + v * at0 ws (a - 1).toNat], by simp, by simp [hu]⟩⟩
      rw [Int.toNat_natCast] at a1
      have m := sm1 (h := h') (a := v) (b := at0 ws (a - 1).toNat) (by omega) (by omega)
      simp only [pv_eq, evOp_eq, Tgt.gv, gvName_eq, Int.zero_add, List.set_cons_succ, List.set_cons_zero, evVar_eq, List.getElem?_cons_succ, List.getElem?_cons_zero, ofV_some, bind_ok, opIx_tup, a1, ofO_some2, evCall_eq, evsV_cons, evsV_nil, promote_ref, promote_int, evC_eq, opAdd_int, wv, opSub_int, a2, m]) ⟨rfl, [], rfl, rfl⟩
  rw [rangeD_length] at hu
  refine ⟨us, hu, ?_⟩
  have lt : (rangeD 0 n).length < 16777216 := by rw [rangeD_length]; omega
  have lcE : evLc (ivBy [(evB bLen [(evVar 0)])] kR1) (Tgt.own (.one 3)) (Tgt.gv (.one 3)) tvYes (evOp opAdd (evOp opIx (evVar 1) (evVar 3)) (evOp opMul (evCall d__law_weight [(evVar 0), (evVar 2), (evOp opAdd (evVar 3) (evC (.int 1)))]) (evOp opIx (evVar 1) (evOp opSub (evVar 2) (evC (.int 1)))))) [some (.ref r), some (.tup (ws.map .int)), some (.int a), none] h' = .ok (.tl (us.map .int)) h' := by
    have k0 : evs [evB bLen [evVar 0]] [some (.ref r), some (.tup (ws.map .int)), some (.int a), none] h' = .ok [.int n] h' := by simp [R.len]
    rw [evLc_eq, ivBy_eq, k0, bind_ok, kR1_at h' (by omega) (by omega), bind_ok, Int.toNat_natCast]
    dsimp only [wipeE, List.set_cons_succ, List.set_cons_zero]
    rw [if_pos lt]
    have e' : lcGo none _ _ _ (wipeE [some (.ref r), some (.tup (ws.map .int)), some (.int a), none] (Tgt.own (.one 3))) (rangeD 0 n) h' = _ := e
    rw [e', bind_ok]
  have st0 : startE 4 [.ref r, .tup (ws.map .int), .int a] = [some (.ref r), some (.tup (ws.map .int)), some (.int a), none] := rfl
  rw [d__law_press, fnD_eq, st0, svRet_eq, evB_eq, evs_cons, lcE]
  simp
end BW

set_option Elab.async false
set_option linter.all false
set_option maxRecDepth 100000
set_option maxHeartbeats 4000000
namespace BW
open PySem
theorem append_eq {f g : Ev} {e : Env} {h h1 h2 : AH} {n : Nat} {xs0 xs : List D} {d : D} (hf : f e h = .ok (.ref n) h1) (h0 : h1[n]? = some (.lst xs0)) (hg : pv g e h1 = .ok d h2) (hx : h2[n]? = some (.lst xs)) (hl : xs.length ≤ 1000) :
    evAppend f g e h = .ok .non (h2.set n (.lst (xs ++ [d]))) := by
  unfold evAppend
  rw [hf]
  simp only [bind_ok, h0, hg, hx]
  rw [if_pos (Nat.lt_of_le_of_lt hl (by decide))]
theorem rep_one {h : AH} {n : Nat} (h1 : 1 ≤ n) (h6 : n ≤ 6) : opMul h (.tup [.int 1]) (.int n) = some (.tup ((List.replicate n (1 : Int)).map .int)) := by
  by_cases hn : n = 1
  · subst hn; rfl
  · have z : opMul h (.tup [.int 1]) (.int n) = (if (n : Int) = 1 then some (.tup [.int 1]) else if [D.int 1] ≠ [] ∧ 2 ≤ (n : Int) ∧ (n : Int) ≤ 1000 ∧ [D.int 1].length ≤ 1000 then some (.tup (List.replicate (n : Int).toNat [D.int 1]).flatten) else none) := rfl
    rw [z, if_neg (by omega), if_pos ⟨by simp, by omega, by omega, by simp⟩, Int.toNat_natCast]
    simp
/-- the letter that is chosen -/
def wLetter : Sv := svIf (tvAnd (tvOf (evOp opGt (evVar 4) (evC (.int 0)))) (tvAnd (tvOf (evOp opLt (evOp opIx (evVar 5) (evOp opSub (evVar 7) (evC (.int 1)))) (evC (.int 0)))) (tvOf (evOp opGt (evCall d__law_draw [(evVar 0), (evC (.int 8))]) (evC (.int 0)))))) (svSeq (svAsg (evLc (ivBy [(evB bLen [(evVar 1)])] kR1) (Tgt.own (.one 9)) (Tgt.gv (.one 9)) (tvOf (evOp opGt (evOp opIx (evVar 5) (evVar 9)) (evC (.int 0)))) (evOp opAdd (evVar 9) (evC (.int 1)))) (gvName 8)) (svAsg (evIf (tvOf (evOp opNe (evVar 8) (evLst []))) (evOp opIx (evVar 8) (evCall d__law_draw [(evVar 0), (evB bLen [(evVar 8)])])) (evVar 7)) (gvName 7))) svNil
theorem letter_is {m c g : Nat} {N : Int} {h : AH} {lo r n : Nat} {M : Nat → Nat → Int} (I : MInv m c g N h) (hN : N ≤ 999990) (lm : m < lo) (lc : c < lo) (lg : g < lo) (hlo : lo ≤ h.length) (R : RowsF lo h r n M) (T : Tab n M) {hs : List Int} (hh : hs.length = n) {a way : Int} (h1 : 1 ≤ a) (h2 : a ≤ n) (x2 x3 x6 x8 : Option D) :
    ∃ b x8' h', wLetter [some (.ref m), some (.ref r), x2, x3, some (.int way), some (.tup (hs.map .int)), x6, some (.int a), x8, none] h = .nx [some (.ref m), some (.ref r), x2, x3, some (.int way), some (.tup (hs.map .int)), x6, some (.int b), x8', none] h' ∧ 1 ≤ b ∧ b ≤ n ∧ MInv m c g (N + 2) h' ∧ Frame lo h h' := by
  have n6 := T.n6
  have a1 := atI_word (w := hs) (k := a - 1) (by omega) (by omega)
  rw [show (a - 1).toNat = a.toNat - 1 by omega] at a1
  by_cases c1 : 0 < way
  · by_cases c2 : at0 hs (a.toNat - 1) < 0
    · obtain ⟨d, hA, r1, z1, z2, IA, FA, lA⟩ := draw_is (limit := 8) I (by omega) (by omega) (by omega) lm lc lg
      by_cases c3 : 0 < d
      · -- the letters that may follow
        let p : Nat → Bool := fun i => decide (0 < at0 hs i)
        have RA : RowsF lo hA r n M := R.frame FA (Nat.le_refl _)
        let us : List Int := ((List.range n).filter p).map fun (i : Nat) => ((i : Int) + 1)
        have e : lcGo none (Tgt.gv (.one 9)) (tvOf (evOp opGt (evOp opIx (evVar 5) (evVar 9)) (evC (.int 0)))) (evOp opAdd (evVar 9) (evC (.int 1))) [some (.ref m), some (.ref r), x2, x3, some (.int way), some (.tup (hs.map .int)), x6, some (.int a), x8, none] (rangeD 0 n) hA = .ok (us.map .int) hA := by
          show _ = Out.ok ((((List.range n).filter p).map fun (i : Nat) => ((i : Int) + 1)).map D.int) hA
          rw [List.map_map]
          refine lcGo_range p _ _ _ rfl fun i hi => ⟨_, rfl, ?_, fun _ => ?_⟩
          · have a2 := atI_word (w := hs) (k := (i : Int)) (by omega) (by omega)
            rw [Int.toNat_natCast] at a2
            simp [Tgt.gv, a2, p]
          · simp [Tgt.gv]
        have lt : (rangeD 0 n).length < 16777216 := by rw [rangeD_length]; omega
        have lcE : evLc (ivBy [(evB bLen [(evVar 1)])] kR1) (Tgt.own (.one 9)) (Tgt.gv (.one 9)) (tvOf (evOp opGt (evOp opIx (evVar 5) (evVar 9)) (evC (.int 0)))) (evOp opAdd (evVar 9) (evC (.int 1))) [some (.ref m), some (.ref r), x2, x3, some (.int way), some (.tup (hs.map .int)), x6, some (.int a), x8, none] hA = .ok (.tl (us.map .int)) hA := by
          have k0 : evs [evB bLen [evVar 1]] [some (.ref m), some (.ref r), x2, x3, some (.int way), some (.tup (hs.map .int)), x6, some (.int a), x8, none] hA = .ok [.int n] hA := by simp [RA.at_.len]
          rw [evLc_eq, ivBy_eq, k0, bind_ok, kR1_at hA (by omega) (by omega), bind_ok, Int.toNat_natCast]
          dsimp only [wipeE, List.set_cons_succ, List.set_cons_zero]
          rw [if_pos lt]
          have e' : lcGo none _ _ _ (wipeE [some (.ref m), some (.ref r), x2, x3, some (.int way), some (.tup (hs.map .int)), x6, some (.int a), x8, none] (Tgt.own (.one 9))) (rangeD 0 n) hA = _ := e
          rw [e', bind_ok]
        have ul : ∀ b ∈ us, 1 ≤ b ∧ b ≤ (n : Int) := fun b hb => by
          obtain ⟨i, hi, rfl⟩ := List.mem_map.mp hb
          have := List.mem_range.mp (List.mem_filter.mp hi).1
          omega
        have ulen : us.length ≤ 6 := by
          show (((List.range n).filter p).map fun (i : Nat) => ((i : Int) + 1)).length ≤ 6
          rw [List.length_map]
          have := List.length_filter_le p (List.range n)
          rw [List.length_range] at this
          omega
        generalize us = us at *
        have IB := IA.app [.lst (us.map .int)]
        have FB : Frame lo h (hA ++ [.lst (us.map .int)]) := FA.trans (Frame.app _ _ _)
        have g1 : (hA ++ [AO.lst (us.map .int)])[hA.length]? = some (.lst (us.map .int)) := by simp
        have opd : opNe (hA ++ [AO.lst (us.map .int)]) (.ref hA.length) (.tl []) = some (.bl (!decide (us = []))) := by
          have e1 : dataK (hA ++ [AO.lst (us.map .int)]) 9 (.ref hA.length) = some (.list (us.map .int)) := by
            show (match (hA ++ [AO.lst (us.map .int)])[hA.length]? with | some (.lst xs) => (allK (dataK (hA ++ [AO.lst (us.map .int)]) 8) xs).map PyData.list | _ => none) = _
            rw [g1]
            simp only [dataK_ints]; rfl
          have e2 : dataK (hA ++ [AO.lst (us.map .int)]) 9 (.tl []) = some (.list []) := rfl
          unfold opNe eqD
          rw [e1, e2]
          have e3 : PyData.eqv (.list (us.map .int)) (.list []) = decide (us = []) := by
            have := eqvAll_ints us []
            simp only [PyData.eqv]
            exact this
          simp only [e3]; rfl
        by_cases c4 : us = []
        · refine ⟨a, some (.ref hA.length), hA ++ [.lst (us.map .int)], ?_, h1, h2, IB.mono (by omega), FB⟩
          rw [decide_eq_true c4] at opd
          simp only [wLetter, svIf_eq, svSeq_eq]
          simp [c1, a1, c2, r1, c3, lcE, opd, -evLc_eq]
        · have up : 0 < us.length := List.length_pos_iff.mpr c4
          obtain ⟨d2, hC, r2, y1, y2, IC, FC, lC⟩ := draw_is (limit := us.length) IB (by omega) (by omega) (by omega) lm lc lg
          have lb : bLen (hA ++ [AO.lst (us.map .int)]) [.ref hA.length] = some (.int us.length) := by rw [bLen_ref g1]; simp
          have g2 : hC[hA.length]? = some (.lst (us.map .int)) := FC.at_ (by omega) g1
          have ix := ix_cells g2 y1 y2
          refine ⟨at0 us d2.toNat, some (.ref hA.length), hC, ?_, ?_, ?_, IC.mono (by omega), FB.trans FC⟩
          · simp only [wLetter, svIf_eq, svSeq_eq]
            simp [c1, a1, c2, r1, c3, lcE, opd, c4, lb, r2, ix, -evLc_eq]
          · exact (getD_letter (n := n) ul (by omega)).1
          · exact (getD_letter (n := n) ul (by omega)).2
      · refine ⟨a, x8, hA, ?_, h1, h2, IA.mono (by omega), FA⟩
        simp [wLetter, c1, a1, c2, r1, c3]
    · refine ⟨a, x8, h, ?_, h1, h2, I.mono (by omega), .refl _ _⟩
      simp [wLetter, c1, a1, c2]
  · refine ⟨a, x8, h, ?_, h1, h2, I.mono (by omega), .refl _ _⟩
    simp [wLetter, c1]
theorem word_is {m c g : Nat} {N : Int} {h : AH} {lo r n : Nat} {M : Nat → Nat → Int} {most : Int} (I : MInv m c g N h) (hN : N ≤ 900000) (lm : m < lo) (lc : c < lo) (lg : g < lo) (hlo : lo ≤ h.length) (R : RowsF lo h r n M) (T : Tab n M) (m0 : 0 ≤ most) (m1 : most ≤ 60) :
    ∃ w h', d__law_word [.ref m, .ref r, .int most] h = .ok (.tup (w.map .int)) h' ∧ Letters n w ∧ (w.length : Int) ≤ most ∧ MInv m c g (N + 500) h' ∧ Frame lo h h' := by
  have n6 := T.n6
  have I0 := I.app [.lst []]
  have R0 := R.frame (Frame.app lo h [.lst []]) (Nat.le_refl _)
  obtain ⟨way, hA, r1, z1, z2, IA, FA, lA⟩ := draw_is (limit := 3) I0 (by omega) (by omega) (by omega) lm lc lg
  have RA := R0.frame FA (Nat.le_refl _)
  obtain ⟨many, hB, r2, y1, y2, IB, FB, lB⟩ := draw_is (limit := most + 1) IA (by omega) (by omega) (by omega) lm lc lg
  have RB := RA.frame FB (Nat.le_refl _)
  have F0 : Frame lo h hB := ((Frame.app lo h [.lst []]).trans FA).trans FB
  have gB : hB[h.length]? = some (.lst []) := FB.at_ hlo (FA.at_ hlo (by simp))
  obtain ⟨e9, h9, a9, w, hs, x6, x7, x8, he9, hl9, g9, wl9, L9, I9, F9⟩ := forGo_inv (g := none) (gv := gvName 6) (h := hB)
    (body := svSeq (svAsg (evOp opAdd (evC (.int 1)) (evCall d__law_draw [(evVar 0), (evB bLen [(evVar 1)])])) (gvName 7)) (svSeq wLetter (svSeq (svExpr (evAppend (evVar 3) (evVar 7))) (svAsg (evCall d__law_press [(evVar 1), (evVar 5), (evVar 7)]) (gvName 5)))))
    (fun i e h' => ∃ (w hs : List Int) (x6 x7 x8 : Option D), e = [some (.ref m), some (.ref r), some (.int most), some (.ref h.length), some (.int way), some (.tup (hs.map .int)), x6, x7, x8, none] ∧ hs.length = n ∧ h'[h.length]? = some (.lst (w.map .int)) ∧ w.length = i ∧ Letters n w ∧ MInv m c g (N + 2 + 3 * (i : Int)) h' ∧ Frame lo h h') (rangeD 0 many.toNat)
    (fun _ _ _ _ _ => rfl) (fun i d e h' hd ⟨w, hs, x6, x7, x8, he, hl, gw, wl, L, I', F'⟩ => by
      obtain ⟨hi, rfl⟩ := rangeD_get hd
      subst he
      have R' := R.frame F' (Nat.le_refl _)
      have lo' : lo ≤ h'.length := Nat.le_trans hlo F'.len
      obtain ⟨d1, h1, s1, p1, p2, I1, F1, l1⟩ := draw_is (limit := n) I' (by omega) (by have := T.n1; omega) (by omega) lm lc lg
      have R1 := R'.frame F1 (Nat.le_refl _)
      obtain ⟨b, x8', h2, s2, q1, q2, I2, F2⟩ := letter_is I1 (by omega) lm lc lg (by omega) R1 T hl (a := 1 + d1) (way := way) (by omega) (by omega) (some (.int most)) (some (.ref h.length)) (some (.int (0 + (i : Int)))) x8
      have R2 := R1.frame F2 (Nat.le_refl _)
      have g2 : h2[h.length]? = some (.lst (w.map .int)) := F2.at_ hlo (F1.at_ hlo gw)
      have ap := append_eq (f := evVar 3) (g := evVar 7) (e := [some (.ref m), some (.ref r), some (.int most), some (.ref h.length), some (.int way), some (.tup (hs.map .int)), some (.int (0 + (i : Int))), some (.int b), x8', none]) (h := h2) rfl g2 rfl g2 (by rw [List.length_map]; omega)
      have R3 : RowsF lo (h2.set h.length (.lst (w.map .int ++ [.int b]))) r n M := by
        obtain ⟨ks, a1, a2, a3, b1, b2, a4, a5⟩ := R2
        obtain ⟨ks', a1', a2', a3', b1', b2', a4', a5'⟩ := R
        have rl : r < h.length := (List.getElem?_eq_some_iff.mp a4').1
        have a4'' : h2[r]? = some (AO.lst (ks'.map D.ref)) := ((F'.trans F1).trans F2).at_ b1' a4'
        have ek : ks = ks' := by
          rw [a4] at a4''
          have := AO.lst.inj (Option.some.inj a4'')
          exact (List.map_inj_right (fun x y z => D.ref.inj z)).mp this
        subst ek
        refine ⟨ks, a1, a2, a3, b1, b2, by rw [List.getElem?_set_ne (by omega)]; exact a4, fun i k e => ?_⟩
        have kl : k < h.length := (List.getElem?_eq_some_iff.mp (a5' i k e)).1
        rw [List.getElem?_set_ne (by omega)]; exact a5 i k e
      obtain ⟨us, ul, pr⟩ := press_is R3.at_ T hl (a := b) q1 q2
      refine ⟨_, _, [some (.ref m), some (.ref r), some (.int most), some (.ref h.length), some (.int way), some (.tup (us.map .int)), some (.int (0 + (i : Int))), some (.int b), x8', none], h2.set h.length (.lst (w.map .int ++ [.int b])), rfl, ?_, w ++ [b], us, _, _, _, rfl, ul, ?_, by simp [wl], ?_, ?_, ?_⟩
      · simp only [svSeq_eq, svAsg_eq, svExpr_eq, pv_eq]
        have st : (evOp opAdd (evC (.int 1)) (evCall d__law_draw [(evVar 0), (evB bLen [(evVar 1)])])) [some (.ref m), some (.ref r), some (.int most), some (.ref h.length), some (.int way), some (.tup (hs.map .int)), some (.int (0 + (i : Int))), x7, x8, none] h' = .ok (.int (1 + d1)) h1 := by
          simp [R'.at_.len, s1]
        simp only [List.set_cons_succ, List.set_cons_zero, st, bind_ok, promote_int, toFl_ok, gvName_eq, nxE_ok, seq_nx, svSeq_eq, svExpr_eq, svAsg_eq, s2, ap, evCall_eq, evsV_cons, evsV_nil, pv_eq, evVar_eq, List.getElem?_cons_succ, List.getElem?_cons_zero, ofV_some, promote_ref, promote_tup, pr]
      · rw [List.getElem?_set_self (List.getElem?_eq_some_iff.mp g2).1]; simp
      · intro x hx
        rcases List.mem_append.mp hx with z | z
        · exact L x z
        · rw [List.mem_singleton.mp z]; exact ⟨q1, q2⟩
      · exact (I2.set _ (by omega) (by omega) (by omega)).mono (by omega)
      · exact ((F'.trans F1).trans F2).set _ (Nat.le_refl _)) (e := [some (.ref m), some (.ref r), some (.int most), some (.ref h.length), some (.int way), some (.tup ((List.replicate n (1 : Int)).map .int)), none, none, none, none]) ⟨[], List.replicate n 1, _, _, _, rfl, by simp, gB, rfl, fun x hx => absurd hx (by simp), by simpa using (by rw [show N + 2 = N + 1 + 1 by omega]; exact IB : MInv m c g (N + 2) hB), F0⟩
  subst he9
  rw [rangeD_length] at wl9 I9
  have fo := fin_or (h := h) (h2 := h9) (d := .tup (w.map .int)) rfl
  have k1 := kR1_at (n := many) hB (by omega) (by omega)
  have run : d__law_word [.ref m, .ref r, .int most] h = BW.fin h (.tup (w.map .int)) h9 := by
    have st0 : startE 10 [.ref m, .ref r, .int most] = [some (.ref m), some (.ref r), some (.int most), none, none, none, none, none, none, none] := rfl
    have st1 : svPar [(evLst []), (evCall d__law_draw [(evVar 0), (evC (.int 3))]), (evOp opMul (evTup [(evC (.int 1))]) (evB bLen [(evVar 1)]))] [3, 4, 5] [some (.ref m), some (.ref r), some (.int most), none, none, none, none, none, none, none] h = .nx [some (.ref m), some (.ref r), some (.int most), some (.ref h.length), some (.int way), some (.tup ((List.replicate n (1 : Int)).map .int)), none, none, none, none] hA := by
      simp [r1, RA.at_.len, rep_one T.n1 T.n6, setAll]
    have st2 : svFor (ivBy [(evCall d__law_draw [(evVar 0), (evOp opAdd (evVar 2) (evC (.int 1)))])] kR1) (gvName 6) (svSeq (svAsg (evOp opAdd (evC (.int 1)) (evCall d__law_draw [(evVar 0), (evB bLen [(evVar 1)])])) (gvName 7)) (svSeq wLetter (svSeq (svExpr (evAppend (evVar 3) (evVar 7))) (svAsg (evCall d__law_press [(evVar 1), (evVar 5), (evVar 7)]) (gvName 5))))) [some (.ref m), some (.ref r), some (.int most), some (.ref h.length), some (.int way), some (.tup ((List.replicate n (1 : Int)).map .int)), none, none, none, none] hA = .nx [some (.ref m), some (.ref r), some (.int most), some (.ref h.length), some (.int way), some (.tup (hs.map .int)), x6, x7, x8, none] h9 := by
      have q : evs [evCall d__law_draw [(evVar 0), (evOp opAdd (evVar 2) (evC (.int 1)))]] [some (.ref m), some (.ref r), some (.int most), some (.ref h.length), some (.int way), some (.tup ((List.replicate n (1 : Int)).map .int)), none, none, none, none] hA = .ok [.int many] hB := by simp [r2]
      rw [svFor_eq, ivBy_eq, q, bind_ok, k1, toFl_ok]
      exact a9
    have bt : bTuple h9 [.ref h.length] = some (.tup (w.map .int)) := bTuple_ref g9
    have eW : d__law_word = fnD 10 (svSeq (svPar [(evLst []), (evCall d__law_draw [(evVar 0), (evC (.int 3))]), (evOp opMul (evTup [(evC (.int 1))]) (evB bLen [(evVar 1)]))] [3, 4, 5]) (svSeq (svFor (ivBy [(evCall d__law_draw [(evVar 0), (evOp opAdd (evVar 2) (evC (.int 1)))])] kR1) (gvName 6) (svSeq (svAsg (evOp opAdd (evC (.int 1)) (evCall d__law_draw [(evVar 0), (evB bLen [(evVar 1)])])) (gvName 7)) (svSeq wLetter (svSeq (svExpr (evAppend (evVar 3) (evVar 7))) (svAsg (evCall d__law_press [(evVar 1), (evVar 5), (evVar 7)]) (gvName 5)))))) (svRet (evB bTuple [(evVar 3)])))) := rfl
    rw [eW, fnD_eq, st0, svSeq_eq, st1, seq_nx, svSeq_eq, st2, seq_nx, svRet_eq]
    simp [bt]
  rw [run]
  have mw : (w.length : Int) ≤ most := by omega
  rcases fo with z | z
  · exact ⟨w, h9, z, L9, mw, I9.mono (by omega), F9⟩
  · refine ⟨w, h9.take h.length, z, L9, mw, (I9.take (by omega) (by omega) (by omega)).mono (by omega), ⟨by rw [List.length_take]; have := F9.len; omega, fun i h0 hi => by rw [List.getElem?_take_of_lt hi]; exact F9.keep i h0 hi⟩⟩
end BW

set_option Elab.async false
set_option linter.all false
set_option maxRecDepth 100000
set_option maxHeartbeats 4000000
namespace BW
open PySem
/-! ### a Bonds is made of rows -/
theorem inKinds {v : Int} (kv : Kd v) (h : AH) (f : Ev) (e : Env) (h0 : AH) (hf : f e h0 = .ok (.int v) h) : evInG false [.int 2, .int 3, .int 4, .int 6, .int 0] f e h0 = .ok (.bl true) h := by
  unfold evInG
  rw [hf, bind_ok]
  rcases kv with rfl | rfl | rfl | rfl | rfl <;> rfl
theorem isBond_is {h : AH} {r n : Nat} {M : Nat → Nat → Int} (R : RowsAt h r n M) (T : Tab n M) {i j : Nat} (hi : i < n) (hj : j < n) : d_is_bond [.ref r, .int i, .int j] h = .ok (.bl true) h := by
  obtain ⟨k, i1, i2⟩ := R.ix (i := (i : Int)) (by omega) (by omega)
  have i3 := i2 (j : Int) (by omega) (by omega)
  rw [Int.toNat_natCast, Int.toNat_natCast] at i3
  obtain ⟨k', j1, j2⟩ := R.ix (i := (j : Int)) (by omega) (by omega)
  have j3 := j2 (i : Int) (by omega) (by omega)
  rw [Int.toNat_natCast, Int.toNat_natCast] at j3
  by_cases hij : i = j
  · subst hij
    rw [T.dia i hi] at i3
    simp [d_is_bond, fnD_eq, i1, i3]
  · have kv : Kd (M i j) := T.kind i j hi hj hij
    have sy := T.sym i j hi hj
    have hij' : ¬ (i : Int) = (j : Int) := by omega
    rw [sy] at kv i3
    have ik := inKinds kv h (evVar 3) [some (.ref r), some (.int i), some (.int j), some (.int (M j i))] h rfl
    simp [d_is_bond, fnD_eq, i1, i3, hij', hij, ik, j1, j3]
theorem needRows_is {h : AH} {r n : Nat} {M : Nat → Nat → Int} (R : RowsAt h r n M) (T : Tab n M) : d_need_rows [.ref r] h = .ok .non h := by
  have n1 := T.n1
  have n6 := T.n6
  obtain ⟨ks, ln, nd, nr, er, rr⟩ := id R
  have il : d_is_list [.ref r] h = .ok (.bl true) h := isList_ref er
  obtain ⟨e1, a1, x1, rfl⟩ := forGo_pure (g := some (r, .lst (ks.map .ref))) (gv := gvName 1) (h := h) (body := svIf (tvOr (tvNot (tvOf (evCall d_is_list [(evVar 1)]))) (tvOf (evOp opNe (evB bLen [(evVar 1)]) (evB bLen [(evVar 0)])))) (svRaise1 "BadBonds" (evC .non)) svNil)
    (fun e => ∃ x1, e = [some (.ref r), x1, none, none]) (ks.map .ref) (guardOk_some er) (fun d e hd ⟨x1, he⟩ => by
      subst he
      obtain ⟨k, hk, rfl⟩ := List.mem_map.mp hd
      obtain ⟨i, hi, hik⟩ := List.getElem_of_mem hk
      have g := rr i k (by rw [List.getElem?_eq_getElem hi, hik])
      refine ⟨_, [some (.ref r), some (.ref k), none, none], rfl, ?_, _, rfl⟩
      have l := bLen_ref g
      rw [rowD_length] at l
      simp [isList_ref g, l, R.len]) (e := [some (.ref r), none, none, none]) ⟨_, rfl⟩
  have k1 := kR1_at (n := n) h (by omega) (by omega)
  rw [Int.toNat_natCast] at k1
  obtain ⟨e2, a2, x2, x3, rfl⟩ := forGo_pure (g := none) (gv := gvName 2) (h := h) (body := svFor (ivBy [(evB bLen [(evVar 0)])] kR1) (gvName 3) (svIf (tvNot (tvOf (evCall d_is_bond [(evVar 0), (evVar 2), (evVar 3)]))) (svRaise1 "BadBonds" (evTup [(evOp opAdd (evVar 2) (evC (.int 1))), (evOp opAdd (evVar 3) (evC (.int 1)))])) svNil))
    (fun e => ∃ x2 x3, e = [some (.ref r), x1, x2, x3]) (rangeD 0 n) rfl (fun d e hd ⟨x2, x3, he⟩ => by
      subst he
      obtain ⟨i, hi, rfl⟩ := mem_rangeD.mp hd
      rw [Int.zero_add]
      obtain ⟨e3, a3, x3', rfl⟩ := forGo_pure (g := none) (gv := gvName 3) (h := h) (body := svIf (tvNot (tvOf (evCall d_is_bond [(evVar 0), (evVar 2), (evVar 3)]))) (svRaise1 "BadBonds" (evTup [(evOp opAdd (evVar 2) (evC (.int 1))), (evOp opAdd (evVar 3) (evC (.int 1)))])) svNil)
        (fun e => ∃ x3, e = [some (.ref r), x1, some (.int i), x3]) (rangeD 0 n) rfl (fun d e hd ⟨x3, he⟩ => by
          subst he
          obtain ⟨j, hj, rfl⟩ := mem_rangeD.mp hd
          rw [Int.zero_add]
          refine ⟨_, [some (.ref r), x1, some (.int i), some (.int j)], rfl, ?_, _, rfl⟩
          simp [isBond_is R T hi hj]) (e := [some (.ref r), x1, some (.int i), x3]) ⟨_, rfl⟩
      refine ⟨_, [some (.ref r), x1, some (.int i), x3'], rfl, ?_, _, _, rfl⟩
      have q : evs [evB bLen [evVar 0]] [some (.ref r), x1, some (.int i), x3] h = .ok [.int n] h := by simp [R.len]
      simp only [List.set_cons_succ, List.set_cons_zero, svFor_eq, ivBy_eq, q, bind_ok, k1, toFl_ok, a3]) (e := [some (.ref r), x1, none, none]) ⟨_, _, rfl⟩
  have c0 : ¬ n = 0 := by omega
  have c6 : ¬ (6 : Int) < (n : Int) := by omega
  have q : evs [evB bLen [evVar 0]] [some (.ref r), x1, none, none] h = .ok [.int n] h := by simp [R.len]
  have t1 : svIf (tvOr (tvNot (tvOf (evCall d_is_list [(evVar 0)]))) (tvOf (evOp opEq (evB bLen [(evVar 0)]) (evC (.int 0))))) (svRaise1 "BadBonds" (evC .non)) svNil [some (.ref r), none, none, none] h = .nx [some (.ref r), none, none, none] h := by
    simp [il, R.len, c0]
  have t2 : svIf (tvOf (evOp opGt (evB bLen [(evVar 0)]) (evC (.int 6)))) (svRaise1 "TooGreat" (evC (.int 6))) svNil [some (.ref r), none, none, none] h = .nx [some (.ref r), none, none, none] h := by
    simp [R.len, c6]
  have t3 : svFor (ivSeq (evVar 0)) (gvName 1) (svIf (tvOr (tvNot (tvOf (evCall d_is_list [(evVar 1)]))) (tvOf (evOp opNe (evB bLen [(evVar 1)]) (evB bLen [(evVar 0)])))) (svRaise1 "BadBonds" (evC .non)) svNil) [some (.ref r), none, none, none] h = .nx [some (.ref r), x1, none, none] h := by
    simp only [svFor_eq, ivSeq_eq, evVar_eq, List.getElem?_cons_zero, ofV_some, bind_ok, itsOf_ref er, its_some, toFl_ok, a1]
  have t4 : svFor (ivBy [(evB bLen [(evVar 0)])] kR1) (gvName 2) (svFor (ivBy [(evB bLen [(evVar 0)])] kR1) (gvName 3) (svIf (tvNot (tvOf (evCall d_is_bond [(evVar 0), (evVar 2), (evVar 3)]))) (svRaise1 "BadBonds" (evTup [(evOp opAdd (evVar 2) (evC (.int 1))), (evOp opAdd (evVar 3) (evC (.int 1)))])) svNil)) [some (.ref r), x1, none, none] h = .nx [some (.ref r), x1, x2, x3] h := by
    rw [svFor_eq, ivBy_eq, q, bind_ok, k1, toFl_ok]
    exact a2
  have st0 : startE 4 [.ref r] = [some (.ref r), none, none, none] := rfl
  rw [d_need_rows, fnD_eq, st0, svSeq_eq, t1, seq_nx, svSeq_eq, t2, seq_nx, svSeq_eq, t3, seq_nx, t4, fin_nx, fin_non]
theorem make_isP {h : AH} {r n : Nat} {M : Nat → Nat → Int} (R : RowsAt h r n M) (T : Tab n M) {f : Ev} {e : Env} {h0 : AH} (hf : pv f e h0 = .ok (.ref r) h) : evMake "Bonds" d_Bonds___init__ [f] e h0 = .ok (.ref h.length) (h ++ [.sins "Bonds" [some (.tup (tabL n M))]]) := by
  have n6 := T.n6
  have R' := R.app [.ins "Bonds" []]
  obtain ⟨ks, ln, nd, nr, er, rr⟩ := id R'
  have lcE : evLc (ivSeq (evVar 1)) (Tgt.own (.one 2)) (Tgt.gv (.one 2)) tvYes (evB bTuple [(evVar 2)]) [some (.ref h.length), some (.ref r), none] (h ++ [.ins "Bonds" []]) = .ok (.tl (tabL n M)) (h ++ [.ins "Bonds" []]) := by
    have e1 : lcGo (some (r, .lst (ks.map .ref))) (Tgt.gv (.one 2)) tvYes (evB bTuple [(evVar 2)]) [some (.ref h.length), some (.ref r), none] (ks.map .ref) (h ++ [.ins "Bonds" []]) = .ok (tabL n M) (h ++ [.ins "Bonds" []]) := by
      obtain ⟨ys, h', a, rfl, hy⟩ := lcGo_inv (g := some (r, .lst (ks.map .ref))) (gv := Tgt.gv (.one 2)) (tt := tvYes) (elt := evB bTuple [(evVar 2)]) (e := [some (.ref h.length), some (.ref r), none]) (h := h ++ [.ins "Bonds" []])
        (fun i l h' => h' = h ++ [.ins "Bonds" []] ∧ l = (List.range i).map fun i => .tup (rowD n (M i))) (ks.map .ref) (fun _ _ _ _ z => by rw [z.1]; exact guardOk_some er)
        (fun i d l h' hd ⟨hh, hl⟩ => by
          rw [List.getElem?_map] at hd
          obtain ⟨k, hk, rfl⟩ := Option.map_eq_some_iff.mp hd
          have g := rr i k hk
          subst hh hl
          refine ⟨_, _, rfl, .inr ⟨_, .tup (rowD n (M i)), _, rfl, ?_, rfl, by simp [List.range_succ]⟩⟩
          simp [Tgt.gv, bTuple_ref g]) ⟨rfl, rfl⟩
      rw [a, hy, List.length_map, ln]
      rfl
    have lt : (ks.map D.ref).length < 16777216 := by rw [List.length_map]; omega
    rw [evLc_eq, ivSeq_eq]
    simp only [evVar_eq, List.getElem?_cons_zero, List.getElem?_cons_succ, ofV_some, bind_ok, itsOf_ref er, its_some]
    rw [if_pos lt]
    have e' : lcGo _ _ _ _ (wipeE [some (.ref h.length), some (.ref r), none] (Tgt.own (.one 2))) _ _ = _ := e1
    rw [e', bind_ok]
  have gi : (h ++ [AO.ins "Bonds" []])[h.length]? = some (.ins "Bonds" []) := by simp
  have sl : svSlot "Bonds" (evVar 0) (evB bTuple [(evLc (ivSeq (evVar 1)) (Tgt.own (.one 2)) (Tgt.gv (.one 2)) tvYes (evB bTuple [(evVar 2)]))]) [some (.ref h.length), some (.ref r), none] (h ++ [.ins "Bonds" []]) = .nx [some (.ref h.length), some (.ref r), none] (h ++ [.sins "Bonds" [some (.tup (tabL n M))]]) := by
    unfold svSlot
    have z : pv (evB bTuple [(evLc (ivSeq (evVar 1)) (Tgt.own (.one 2)) (Tgt.gv (.one 2)) tvYes (evB bTuple [(evVar 2)]))]) [some (.ref h.length), some (.ref r), none] (h ++ [.ins "Bonds" []]) = .ok (.tup (tabL n M)) (h ++ [.ins "Bonds" []]) := by
      rw [pv_eq, evB_eq, evs_cons, lcE]
      simp
    rw [z, toFl_ok, evVar_eq]
    simp only [List.getElem?_cons_zero, ofV_some, toFl_ok]
    rw [if_pos gi]
    simp
  have ini : d_Bonds___init__ [.ref h.length, .ref r] (h ++ [.ins "Bonds" []]) = .ok .non (h ++ [.sins "Bonds" [some (.tup (tabL n M))]]) := by
    have st0 : startE 3 [.ref h.length, .ref r] = [some (.ref h.length), some (.ref r), none] := rfl
    have f9 := fin_same (h := h ++ [AO.ins "Bonds" []]) (h2 := h ++ [AO.sins "Bonds" [some (.tup (tabL n M))]]) (d := .non) rfl (by simp)
    have t1 : svExpr (evCall d_need_rows [(evVar 1)]) [some (.ref h.length), some (.ref r), none] (h ++ [.ins "Bonds" []]) = .nx [some (.ref h.length), some (.ref r), none] (h ++ [.ins "Bonds" []]) := by
      simp [needRows_is R' T]
    rw [d_Bonds___init__, fnD_eq, st0, svSeq_eq, t1, seq_nx, sl, fin_nx, f9]
  unfold evMake
  simp only [evsV_cons, evsV_nil, hf, bind_ok, ini]
theorem make_is {h : AH} {r n : Nat} {M : Nat → Nat → Int} (R : RowsAt h r n M) (T : Tab n M) {f : Ev} {e : Env} {h0 : AH} (hf : f e h0 = .ok (.ref r) h) : evMake "Bonds" d_Bonds___init__ [f] e h0 = .ok (.ref h.length) (h ++ [.sins "Bonds" [some (.tup (tabL n M))]]) :=
  make_isP R T (by rw [pv_eq, hf]; rfl)
end BW

set_option Elab.async false
set_option linter.all false
set_option maxRecDepth 100000
set_option maxHeartbeats 4000000
namespace BW
open PySem
/-! ### the texts of deeds are short -/
def Deed.p : Deed → PyData
  | .ins k a => .tuple [.str "in", .int k, .int a]
  | .out k => .tuple [.str "out", .int k]
  | .turn k => .tuple [.str "turn", .int k]
theorem join_len (sep : Str) (B : Nat) : ∀ ts : List Str, (∀ t ∈ ts, t.length ≤ B) → (Str.join sep ts).length ≤ ts.length * (B + sep.length)
  | [], _ => by simp only [List.length_nil, Nat.zero_mul]; exact Nat.le_refl _
  | [x], h => by
    have := h x (List.mem_cons_self)
    show x.length ≤ 1 * (B + sep.length)
    omega
  | x :: y :: r, h => by
    show (x ++ sep ++ Str.join sep (y :: r)).length ≤ _
    rw [strLen_append, strLen_append]
    have h1 := join_len sep B (y :: r) fun t ht => h t (List.mem_cons_of_mem _ ht)
    have h2 := h x (List.mem_cons_self)
    rw [List.length_cons, Nat.add_mul]
    omega
theorem tupleText_len {ts : List Str} {B : Nat} (h : ∀ t ∈ ts, t.length ≤ B) : (tupleText ts).length ≤ ts.length * (B + 2) + 3 := by
  unfold tupleText
  rw [strLen_append, strLen_append]
  have h1 := join_len ", " B ts h
  have e1 : ((", " : Str)).length = 2 := by decide +kernel
  have e2 : (("(" : Str)).length = 1 := by decide +kernel
  rw [e1] at h1
  have e3 : ((if ts.length == 1 then ",)" else ")" : String) : Str).length ≤ 2 := by
    split <;> decide +kernel
  omega
theorem shownInt {i : Int} (h0 : 0 ≤ i) (h1 : i ≤ 100) : ((toString i : String) : Str).length ≤ 5 := by
  have all : ∀ k : Fin 101, ((toString ((k.val : Nat) : Int) : String) : Str).length ≤ 5 := by decide +kernel
  have := all ⟨i.toNat, by omega⟩
  rwa [show ((i.toNat : Nat) : Int) = i by omega] at this
theorem shownAll_length : ∀ l : List PyData, (PyData.shownAll l).length = l.length
  | [] => rfl
  | _ :: l => by simp only [PyData.shownAll, List.length_cons, shownAll_length l]
theorem mem_shownAll : ∀ {l : List PyData} {t : Str}, t ∈ PyData.shownAll l → ∃ d ∈ l, t = d.shown
  | [], _, h => by simp [PyData.shownAll] at h
  | x :: l, t, h => by
    simp only [PyData.shownAll, List.mem_cons] at h
    rcases h with rfl | h
    · exact ⟨x, List.mem_cons_self, rfl⟩
    · obtain ⟨d, h1, h2⟩ := mem_shownAll h
      exact ⟨d, List.mem_cons_of_mem _ h1, h2⟩
def Deed.sm : Deed → Prop
  | .ins k a => k ≤ 100 ∧ 0 ≤ a ∧ a ≤ 100
  | .out k => k ≤ 100
  | .turn k => k ≤ 100
theorem deed_shown {dd : Deed} (h : dd.sm) : dd.p.shown.length ≤ 100 := by
  have s1 : (reprText "in").length ≤ 10 := by decide +kernel
  have s2 : (reprText "out").length ≤ 10 := by decide +kernel
  have s3 : (reprText "turn").length ≤ 10 := by decide +kernel
  cases dd with
  | ins k a =>
    obtain ⟨z1, z2, z3⟩ := h
    show (tupleText (PyData.shownAll [.str "in", .int k, .int a])).length ≤ 100
    have := tupleText_len (ts := PyData.shownAll [.str "in", .int k, .int a]) (B := 10) (fun t ht => by
      simp only [PyData.shownAll, PyData.shown, List.mem_cons, List.not_mem_nil, or_false] at ht
      rcases ht with rfl | rfl | rfl
      · exact s1
      · exact Nat.le_trans (shownInt (by omega) (by omega)) (by decide)
      · exact Nat.le_trans (shownInt z2 z3) (by decide))
    rw [shownAll_length] at this
    exact Nat.le_trans this (by simp)
  | out k =>
    have z1 : k ≤ 100 := h
    show (tupleText (PyData.shownAll [.str "out", .int k])).length ≤ 100
    have := tupleText_len (ts := PyData.shownAll [.str "out", .int k]) (B := 10) (fun t ht => by
      simp only [PyData.shownAll, PyData.shown, List.mem_cons, List.not_mem_nil, or_false] at ht
      rcases ht with rfl | rfl
      · exact s2
      · exact Nat.le_trans (shownInt (by omega) (by omega)) (by decide))
    rw [shownAll_length] at this
    exact Nat.le_trans this (by simp)
  | turn k =>
    have z1 : k ≤ 100 := h
    show (tupleText (PyData.shownAll [.str "turn", .int k])).length ≤ 100
    have := tupleText_len (ts := PyData.shownAll [.str "turn", .int k]) (B := 10) (fun t ht => by
      simp only [PyData.shownAll, PyData.shown, List.mem_cons, List.not_mem_nil, or_false] at ht
      rcases ht with rfl | rfl
      · exact s3
      · exact Nat.le_trans (shownInt (by omega) (by omega)) (by decide))
    rw [shownAll_length] at this
    exact Nat.le_trans this (by simp)
theorem showInt {i : Int} (h0 : 0 ≤ i) (h1 : i ≤ 100) : PyData.showable (.int i) = true := by
  simp only [PyData.showable, decide_eq_true_eq]
  have : i.natAbs.log2 ≤ i.natAbs := Nat.log2_le_self _
  omega
theorem deed_showable {dd : Deed} (h : dd.sm) : dd.p.showable = true := by
  cases dd with
  | ins k a =>
    obtain ⟨z1, z2, z3⟩ := h
    have a1 := showInt (i := (k : Int)) (by omega) (by omega)
    have a2 := showInt z2 z3
    simp [Deed.p, PyData.showable, PyData.showableAll] at a1 a2 ⊢
    exact ⟨a1, a2⟩
  | out k =>
    have z1 : k ≤ 100 := h
    have a1 := showInt (i := (k : Int)) (by omega) (by omega)
    simp [Deed.p, PyData.showable, PyData.showableAll] at a1 ⊢
    exact a1
  | turn k =>
    have z1 : k ≤ 100 := h
    have a1 := showInt (i := (k : Int)) (by omega) (by omega)
    simp [Deed.p, PyData.showable, PyData.showableAll] at a1 ⊢
    exact a1
theorem deed_data (h : AH) (n : Nat) (dd : Deed) : dataK h (n + 1) dd.d = some dd.p := by
  have s1 : PyData.strOk "in" = true := by decide +kernel
  have s2 : PyData.strOk "out" = true := by decide +kernel
  have s3 : PyData.strOk "turn" = true := by decide +kernel
  cases dd <;> cases n <;> simp [Deed.d, Deed.p, dataK, allK, s1, s2, s3]
theorem repr_is (h : AH) {l : List Deed} (hs : ∀ dd ∈ l, dd.sm) (hl : l.length ≤ 1000) : ∃ z, bRepr h [.tup (l.map Deed.d)] = some (.str z) ∧ ∀ h', bRepr h' [.tup (l.map Deed.d)] = some (.str z) := by
  have e : ∀ h, dataK h 9 (.tup (l.map Deed.d)) = some (.tuple (l.map Deed.p)) := fun h => by
    have : allK (dataK h 8) (l.map Deed.d) = some (l.map Deed.p) := by
      clear hs hl
      induction l with
      | nil => rfl
      | cons x l ih => rw [List.map_cons, List.map_cons, allK, deed_data h 7, ih]
    show (allK (dataK h 8) (l.map Deed.d)).map PyData.tuple = _
    rw [this]; rfl
  have sh : (PyData.tuple (l.map Deed.p)).showable = true := by
    simp only [PyData.showable]
    clear hl e
    induction l with
    | nil => rfl
    | cons x l ih =>
      simp only [List.map_cons, PyData.showableAll, deed_showable (hs x List.mem_cons_self), Bool.true_and]
      exact ih fun d hd => hs d (List.mem_cons_of_mem _ hd)
  have ln : (PyData.tuple (l.map Deed.p)).shown.length ≤ sizeLine := by
    show (tupleText (PyData.shownAll (l.map Deed.p))).length ≤ sizeLine
    have := tupleText_len (ts := PyData.shownAll (l.map Deed.p)) (B := 100) (fun t ht => by
      obtain ⟨d, hd, rfl⟩ := mem_shownAll ht
      obtain ⟨dd, h1, rfl⟩ := List.mem_map.mp hd
      exact deed_shown (hs dd h1))
    rw [shownAll_length, List.length_map] at this
    refine Nat.le_trans this ?_
    rw [sizeLine_eq]
    omega
  have r : ∀ h, bRepr h [.tup (l.map Deed.d)] = some (.str (PyData.tuple (l.map Deed.p)).shown) := fun h => by
    simp only [bRepr]
    rw [e]
    have z : ((PyData.tuple (l.map Deed.p)).showable && decide ((PyData.tuple (l.map Deed.p)).shown.length ≤ sizeLine)) = true := by rw [sh, decide_eq_true ln]; rfl
    show (if _ then _ else _) = _
    rw [if_pos z]
  exact ⟨_, r h, r⟩
end BW

set_option Elab.async false
set_option linter.all false
set_option maxRecDepth 100000
set_option maxHeartbeats 4000000
namespace BW
open PySem
theorem strOk_app {x y : Str} (hx : PyData.strOk x = true) (hy : PyData.strOk y = true) : PyData.strOk (x ++ y) = true := by
  unfold PyData.strOk at *
  show (x.cps ++ y.cps).all (fun c => decide (c < 0x110000)) = true
  rw [Array.all_append, hx, hy]; rfl
theorem strOk_join {sep : Str} (hs : PyData.strOk sep = true) : ∀ ts : List Str, (∀ t ∈ ts, PyData.strOk t = true) → PyData.strOk (Str.join sep ts) = true
  | [], _ => by show PyData.strOk Str.empty = true; decide +kernel
  | [x], h => h x List.mem_cons_self
  | x :: y :: r, h => by
    show PyData.strOk (x ++ sep ++ Str.join sep (y :: r)) = true
    exact strOk_app (strOk_app (h x List.mem_cons_self) hs) (strOk_join hs (y :: r) fun t ht => h t (List.mem_cons_of_mem _ ht))
theorem strOk_tuple {ts : List Str} (h : ∀ t ∈ ts, PyData.strOk t = true) : PyData.strOk (tupleText ts) = true := by
  unfold tupleText
  refine strOk_app (strOk_app (by decide +kernel) (strOk_join (by decide +kernel) ts h)) ?_
  split <;> decide +kernel
theorem strOk_int {i : Int} (h0 : 0 ≤ i) (h1 : i ≤ 100) : PyData.strOk ((toString i : String) : Str) = true := by
  have all : ∀ k : Fin 101, PyData.strOk ((toString ((k.val : Nat) : Int) : String) : Str) = true := by decide +kernel
  have := all ⟨i.toNat, by omega⟩
  rwa [show ((i.toNat : Nat) : Int) = i by omega] at this
theorem deed_strOk {dd : Deed} (h : dd.sm) : PyData.strOk dd.p.shown = true := by
  have s1 : PyData.strOk (reprText "in") = true := by decide +kernel
  have s2 : PyData.strOk (reprText "out") = true := by decide +kernel
  have s3 : PyData.strOk (reprText "turn") = true := by decide +kernel
  cases dd with
  | ins k a =>
    obtain ⟨z1, z2, z3⟩ := h
    show PyData.strOk (tupleText (PyData.shownAll [.str "in", .int k, .int a])) = true
    refine strOk_tuple fun t ht => ?_
    simp only [PyData.shownAll, PyData.shown, List.mem_cons, List.not_mem_nil, or_false] at ht
    rcases ht with rfl | rfl | rfl
    · exact s1
    · exact strOk_int (by omega) (by omega)
    · exact strOk_int z2 z3
  | out k =>
    have z1 : k ≤ 100 := h
    show PyData.strOk (tupleText (PyData.shownAll [.str "out", .int k])) = true
    refine strOk_tuple fun t ht => ?_
    simp only [PyData.shownAll, PyData.shown, List.mem_cons, List.not_mem_nil, or_false] at ht
    rcases ht with rfl | rfl
    · exact s2
    · exact strOk_int (by omega) (by omega)
  | turn k =>
    have z1 : k ≤ 100 := h
    show PyData.strOk (tupleText (PyData.shownAll [.str "turn", .int k])) = true
    refine strOk_tuple fun t ht => ?_
    simp only [PyData.shownAll, PyData.shown, List.mem_cons, List.not_mem_nil, or_false] at ht
    rcases ht with rfl | rfl
    · exact s3
    · exact strOk_int (by omega) (by omega)
/-- the text of a tuple of deeds: the same in every heap, and one that == takes -/
theorem repr_ok {l : List Deed} (hs : ∀ dd ∈ l, dd.sm) (hl : l.length ≤ 1000) : ∃ z : Str, PyData.strOk z = true ∧ ∀ h, bRepr h [.tup (l.map Deed.d)] = some (.str z) := by
  obtain ⟨z, h1, h2⟩ := repr_is [] hs hl
  refine ⟨z, ?_, h2⟩
  have e : dataK [] 9 (.tup (l.map Deed.d)) = some (.tuple (l.map Deed.p)) := by
    have : allK (dataK [] 8) (l.map Deed.d) = some (l.map Deed.p) := by
      clear hs hl h1 h2
      induction l with
      | nil => rfl
      | cons x l ih => rw [List.map_cons, List.map_cons, allK, deed_data [] 7, ih]
    show (allK (dataK [] 8) (l.map Deed.d)).map PyData.tuple = _
    rw [this]; rfl
  simp only [bRepr] at h1
  rw [e] at h1
  simp only [Option.bind_some] at h1
  split at h1
  · have : z = (PyData.tuple (l.map Deed.p)).shown := by simpa using h1.symm
    rw [this]
    show PyData.strOk (tupleText (PyData.shownAll (l.map Deed.p))) = true
    refine strOk_tuple fun t ht => ?_
    obtain ⟨d, hd, rfl⟩ := mem_shownAll ht
    obtain ⟨dd, h1, rfl⟩ := List.mem_map.mp hd
    exact deed_strOk (hs dd h1)
  · cases h1
theorem opNe_str (h : AH) {z : Str} (hz : PyData.strOk z = true) : opNe h (.str z) (.str z) = some (.bl false) := by
  unfold opNe
  rw [eqD_str h hz hz]
  simp
theorem deeds_sm {n l : Nat} {M : Nat → Nat → Int} {w : List Int} (hn : n ≤ 6) (hl : l ≤ 60) : ∀ dd ∈ (allDeeds n l).filter (canB M w), dd.sm := by
  intro dd h
  have := allDeeds_ok (List.mem_filter.mp h).1
  cases dd with
  | ins k a => obtain ⟨z1, z2, z3⟩ := this; exact ⟨by omega, by omega, by omega⟩
  | out k => have z : k ≤ l := this; show k ≤ 100; omega
  | turn k => have z : k ≤ l := this; show k ≤ 100; omega
theorem deeds_len {n l : Nat} {M : Nat → Nat → Int} {w : List Int} (hn : n ≤ 6) (hl : l ≤ 60) : ((allDeeds n l).filter (canB M w)).length ≤ 1000 := by
  have h1 := List.length_filter_le (canB M w) (allDeeds n l)
  rw [allDeeds_length] at h1
  have : (l + 1) * n ≤ 61 * 6 := Nat.mul_le_mul (by omega) hn
  omega
/-- both texts of the deeds are one -/
theorem same_texts {b r n : Nat} {M : Nat → Nat → Int} {w : List Int} {h : AH} {fb fw fr fv : Ev} {e : Env} {h0 : AH} {dW : D} (T : Tab n M) (B : BondsAt h b n M) (W : WordAt h dW w) (R : RowsAt h r n M) (hw : Letters n w) (hl : w.length ≤ 60)
    (h1 : evsV [fb, fw] e h0 = .ok [.ref b, dW] h) (h2 : ∀ hh, evsV [fr, fv] e hh = .ok [.ref r, .tup (w.map .int)] hh) :
    ∃ t, evOp opNe (evB bRepr [evCall d_deeds_of [fb, fw]]) (evB bRepr [evB bTuple [evCall d__law_deeds [fr, fv]]]) e h0 = .ok (.bl false) (h ++ t) := by
  obtain ⟨z, hz, rz⟩ := repr_ok (deeds_sm (M := M) (w := w) T.n6 hl) (deeds_len (M := M) (w := w) T.n6 hl)
  obtain ⟨t, q, d1, d2⟩ := lawDeeds_is T R hw hl
  refine ⟨t, ?_⟩
  have a1 := deedsOf_is T B W hw hl
  have bt := bTuple_ref d2
  simp only [evOp_eq, evB_eq, evs_cons, evs_nil, evCall_eq, h1, h2, bind_ok, a1, rz, ofO_some2, d1, bt, opNe_str _ hz]
end BW

set_option Elab.async false
set_option linter.all false
set_option maxRecDepth 100000
set_option maxHeartbeats 4000000
namespace BW
open PySem
/-! ### exceptions: the end of a def, the law's class and told -/
theorem finX_at {h : AH} {x : D} (t : AH) (hx : x.lt h.length = true) : finX h x (h ++ t) = .exc x h := by
  unfold finX
  simp [hx, oldOk_self]
theorem finX_0 {h : AH} {x : D} (hx : x.lt h.length = true) : finX h x h = .exc x h := by
  have := finX_at (h := h) (x := x) [] hx
  rwa [List.append_nil] at this
@[simp] theorem lt_exc1 (n : Nat) (c : Str) (x : D) : D.lt n (.exc c [x]) = D.lt n x := by
  show D.lts n [x] = _
  simp
@[simp] theorem lt_exc0 (n : Nat) (c : Str) : D.lt n (.exc c []) = true := nrfl rfl
@[simp] theorem lt_non (n : Nat) : D.lt n .non = true := nrfl rfl
@[simp] theorem lt_bl (n : Nat) (b : Bool) : D.lt n (.bl b) = true := nrfl rfl
def D.isX (d : D) (t : Str → Bool) (h : AH) : Out D := match d with
  | .exc c _ => if c ∈ xNames then .ok (.bl (t c)) h else .stuck
  | _ => .stuck
@[simp] theorem evIsX_eq (t : Str → Bool) (f : Ev) (e : Env) (h : AH) : evIsX t f e h = (f e h).bind fun d h1 => d.isX t h1 := nrfl rfl
@[simp] theorem isX_exc (c : Str) (xs : List D) (t : Str → Bool) (h : AH) : (D.exc c xs).isX t h = if c ∈ xNames then .ok (.bl (t c)) h else .stuck := nrfl rfl
def D.fld (d : D) (f : Str) (h : AH) : Out D := match d with
  | .exc c [x] => if c ∈ xNames ∧ fieldOf c = some f then .ok x h else .stuck
  | _ => .stuck
@[simp] theorem evFld_eq (f : Str) (g : Ev) (e : Env) (h : AH) : evFld f g e h = (g e h).bind fun d h1 => d.fld f h1 := by
  unfold evFld D.fld; rfl
@[simp] theorem fld_exc (c : Str) (x : D) (f : Str) (h : AH) : (D.exc c [x]).fld f h = if c ∈ xNames ∧ fieldOf c = some f then .ok x h else .stuck := nrfl rfl
theorem opAdd_refs {h : AH} {n : Nat} {xs ys : List D} (e : h[n]? = some (.lst xs)) (hl : xs.length + ys.length ≤ 1000) : opAdd h (.ref n) (.tl ys) = some (.tl (xs ++ ys)) := by
  have z : xs.length + ys.length ≤ sizeLine := small_of hl
  show (match lstOf h (.ref n), lstOf h (.tl ys) with | some xs, some ys => if xs.length + ys.length ≤ sizeLine then some (D.tl (xs ++ ys)) else none | _, _ => none) = _
  rw [lstOf_ref e, lstOf_tl]
  simp only
  rw [if_pos z]
theorem seq_step {a b : Sv} {e e' : Env} {h h' : AH} (ha : a e h = .nx e' h') : svSeq a b e h = b e' h' := by
  rw [svSeq_eq, ha, seq_nx]
theorem seq_ret' {a b : Sv} {e : Env} {d : D} {h h' : AH} (ha : a e h = .ret d h') : svSeq a b e h = .ret d h' := by
  rw [svSeq_eq, ha, seq_ret]
theorem seq_exc' {a b : Sv} {e e' : Env} {x : D} {h h' : AH} (ha : a e h = .exc x e' h') : svSeq a b e h = .exc x e' h' := by
  rw [svSeq_eq, ha, seq_exc]
def kd (p : Str × Bool) : D := .tup [.str p.1, .bl p.2]
@[simp] theorem promote_kd (p : Str × Bool) (h : AH) : promote (kd p) h = .ok (kd p) h := nrfl rfl
theorem kinds_lc {g : Option (Nat × AO)} {e : Env} {h : AH} (hg : guardOk g h = true) (l : List (Str × Bool)) (hl : e.length = 5) :
    lcGo g (Tgt.gv (.two 3 4)) (tvOf (evVar 4)) (evVar 3) e (l.map kd) h = .ok ((l.filter (·.2)).map fun p => .str p.1) h := by
  refine lcGo_on kd (·.2) (fun p => .str p.1) l hg fun p hp => ?_
  refine ⟨(e.set 3 (some (.str p.1))).set 4 (some (.bl p.2)), rfl, ?_, fun _ => ?_⟩
  · simp [hl]
  · simp [hl]
theorem getE {h : AH} {n : Nat} {o : AO} (t : AH) (hn : n = h.length) : (h ++ (o :: t))[n]? = some o := by
  subst hn; simp
/-- what the law's class tells -/
theorem class_is (c : Str) (x : D) (h : AH) (hc : c = "BadBonds" ∨ c = "BadWord" ∨ c = "BadRow" ∨ c = "BadDeed" ∨ c = "BadNumber" ∨ c = "TooGreat") (hx : x.lt h.length = true) (hp : ∀ h', promote x h' = .ok x h') : d__law_class [.exc c [x]] h = .ok (.tup [.str c, x]) h := by
  have m : c ∈ xNames := by rcases hc with rfl | rfl | rfl | rfl | rfl | rfl <;> decide +kernel
  obtain ⟨p1, e1⟩ : ∃ p : Str × Bool, p = (("BadBonds" : Str), decide (c = "BadBonds")) := ⟨_, rfl⟩
  obtain ⟨p2, e2⟩ : ∃ p : Str × Bool, p = (("BadWord" : Str), decide (c = "BadWord")) := ⟨_, rfl⟩
  obtain ⟨p3, e3⟩ : ∃ p : Str × Bool, p = (("BadRow" : Str), decide (c = "BadRow")) := ⟨_, rfl⟩
  obtain ⟨p4, e4⟩ : ∃ p : Str × Bool, p = (("BadDeed" : Str), decide (c = "BadDeed")) := ⟨_, rfl⟩
  obtain ⟨p5, e5⟩ : ∃ p : Str × Bool, p = (("BadNumber" : Str), decide (c = "BadNumber")) := ⟨_, rfl⟩
  obtain ⟨p6, e6⟩ : ∃ p : Str × Bool, p = (("Unlike" : Str), decide (c = "Unlike")) := ⟨_, rfl⟩
  obtain ⟨p7, e7⟩ : ∃ p : Str × Bool, p = (("TooGreat" : Str), decide (c = "TooGreat")) := ⟨_, rfl⟩
  have lw : ([p1, p2, p3, p4, p5, p6, p7].filter (·.2)).map (fun p => D.str p.1) = [.str c] := by
    rw [e1, e2, e3, e4, e5, e6, e7]
    rcases hc with rfl | rfl | rfl | rfl | rfl | rfl <;> decide +kernel
  have k1 : D.tup [.str "BadBonds", .bl (decide (c = "BadBonds"))] = kd p1 := by rw [e1]; rfl
  have k2 : D.tup [.str "BadWord", .bl (decide (c = "BadWord"))] = kd p2 := by rw [e2]; rfl
  have k3 : D.tup [.str "BadRow", .bl (decide (c = "BadRow"))] = kd p3 := by rw [e3]; rfl
  have k4 : D.tup [.str "BadDeed", .bl (decide (c = "BadDeed"))] = kd p4 := by rw [e4]; rfl
  have k5 : D.tup [.str "BadNumber", .bl (decide (c = "BadNumber"))] = kd p5 := by rw [e5]; rfl
  have k6 : D.tup [.str "Unlike", .bl (decide (c = "Unlike"))] = kd p6 := by rw [e6]; rfl
  have k7 : D.tup [.str "TooGreat", .bl (decide (c = "TooGreat"))] = kd p7 := by rw [e7]; rfl
  rw [d__law_class, fnD_eq]
  rw [seq_step (e' := [some (.exc c [x]), some (.ref h.length), none, none, none]) (h' := h ++ [.lst [kd p1, kd p2]]) (by simp [m, k1, k2])]
  rw [seq_step (e' := [some (.exc c [x]), some (.ref (h.length + 1)), none, none, none]) (h' := h ++ [.lst [kd p1, kd p2], .lst [kd p1, kd p2, kd p3, kd p4]]) (by
    simp [m, k3, k4, opAdd_refs (getE (h := h) (o := .lst [kd p1, kd p2]) [] rfl)])]
  rw [seq_step (e' := [some (.exc c [x]), some (.ref (h.length + 2)), none, none, none]) (h' := h ++ [.lst [kd p1, kd p2], .lst [kd p1, kd p2, kd p3, kd p4], .lst [kd p1, kd p2, kd p3, kd p4, kd p5, kd p6]]) (by
    simp [m, k5, k6, opAdd_refs (get2b h (.lst [kd p1, kd p2]) (.lst [kd p1, kd p2, kd p3, kd p4]))])]
  generalize hA : AO.lst [kd p1, kd p2] = A
  generalize hB : AO.lst [kd p1, kd p2, kd p3, kd p4] = B
  have g3 : ∀ z, (h ++ [A, B, z])[h.length + 2]? = some z := fun z => by simp [List.getElem?_append_right]
  have s3 : ∀ y z, (h ++ [A, B, y]).set (h.length + 2) z = h ++ [A, B, z] := fun y z => by
    rw [List.set_append_right _ _ (by omega)]; simp
  rw [seq_step (e' := [some (.exc c [x]), some (.ref (h.length + 2)), none, none, none]) (h' := h ++ [A, B, .lst ([p1, p2, p3, p4, p5, p6, p7].map kd)]) (by
    rw [svExpr_eq, append_eq (n := h.length + 2) (d := kd p7) (xs0 := [kd p1, kd p2, kd p3, kd p4, kd p5, kd p6]) (xs := [kd p1, kd p2, kd p3, kd p4, kd p5, kd p6]) (h1 := h ++ [A, B, .lst [kd p1, kd p2, kd p3, kd p4, kd p5, kd p6]]) (h2 := h ++ [A, B, .lst [kd p1, kd p2, kd p3, kd p4, kd p5, kd p6]]) rfl (g3 _) (by simp [m, k7]) (g3 _) (by simp), s3]
    rfl)]
  have lc := kinds_lc (g := some (h.length + 2, .lst ([p1, p2, p3, p4, p5, p6, p7].map kd))) (e := [some (.exc c [x]), some (.ref (h.length + 2)), none, none, none]) (guardOk_some (g3 (.lst ([p1, p2, p3, p4, p5, p6, p7].map kd)))) [p1, p2, p3, p4, p5, p6, p7] rfl
  rw [lw] at lc
  rw [seq_step (e' := [some (.exc c [x]), some (.ref (h.length + 2)), some (.ref (h.length + 3)), none, none]) (h' := h ++ [A, B, .lst ([p1, p2, p3, p4, p5, p6, p7].map kd), .lst [.str c]]) (by
    simp [itsOf_ref (g3 (.lst ([p1, p2, p3, p4, p5, p6, p7].map kd))), Tgt.own, wipeE, -List.map_cons, -List.map_nil, lc])]
  generalize AO.lst ([p1, p2, p3, p4, p5, p6, p7].map kd) = Cc
  have g4 : (h ++ [A, B, Cc, .lst [D.str c]])[h.length + 3]? = some (.lst [.str c]) := by simp [List.getElem?_append_right]
  have ix : opIx (h ++ [A, B, Cc, .lst [D.str c]]) (.ref (h.length + 3)) (.int 0) = some (.str c) := by rw [opIx_ref g4]; simp
  rw [seq_step (e' := [some (.exc c [x]), some (.ref (h.length + 2)), some (.ref (h.length + 3)), none, none]) (h' := h ++ [A, B, Cc, .lst [.str c]]) (by
    simp [bLen_ref g4])]
  have fe := fin_pure (h := h) (d := .tup [.str c, x]) [A, B, Cc, .lst [D.str c]] rfl (by simp [hx])
  have i1 : ∀ h' : AH, inD false h' (.str c) (.tup [.str "BadBonds", .str "BadWord", .str "BadDeed"]) = some (.bl (decide (c = "BadBonds" ∨ c = "BadWord" ∨ c = "BadDeed"))) := fun h' => by
    rcases hc with rfl | rfl | rfl | rfl | rfl | rfl <;> rfl
  have i2 : ∀ h' : AH, inD false h' (.str c) (.tup [.str "BadRow", .str "BadNumber"]) = some (.bl (decide (c = "BadRow" ∨ c = "BadNumber"))) := fun h' => by
    rcases hc with rfl | rfl | rfl | rfl | rfl | rfl <;> rfl
  have q3 : ∀ h' : AH, opEq h' (.str "TooGreat") (.str "TooGreat") = some (.bl true) := fun h' => opEq_str h' (by decide +kernel) (by decide +kernel) (by decide +kernel)
  have f0 : fieldOf c = some "place" ∧ (c = "BadBonds" ∨ c = "BadWord" ∨ c = "BadDeed") ∨ fieldOf c = some "value" ∧ ¬ (c = "BadBonds" ∨ c = "BadWord" ∨ c = "BadDeed") ∧ (c = "BadRow" ∨ c = "BadNumber") ∨ fieldOf c = some "most" ∧ ¬ (c = "BadBonds" ∨ c = "BadWord" ∨ c = "BadDeed") ∧ ¬ (c = "BadRow" ∨ c = "BadNumber") ∧ c = "TooGreat" := by
    rcases hc with rfl | rfl | rfl | rfl | rfl | rfl <;> decide +kernel
  rcases f0 with ⟨f, z1⟩ | ⟨f, z1, z2⟩ | ⟨f, z1, z2, rfl⟩
  · rw [seq_ret' (d := .tup [.str c, x]) (h' := h ++ [A, B, Cc, .lst [.str c]]) (by simp only [svIf_eq, tvOf_eq, evOp_eq, evVar_eq, evC_eq]; simp [ix, i1, z1, m, f, hp])]
    rw [fin_ret, fe]
  · rw [seq_step (e' := [some (.exc c [x]), some (.ref (h.length + 2)), some (.ref (h.length + 3)), none, none]) (h' := h ++ [A, B, Cc, .lst [.str c]]) (by simp only [svIf_eq, tvOf_eq, evOp_eq, evVar_eq, evC_eq]; simp [ix, i1, z1])]
    rw [seq_ret' (d := .tup [.str c, x]) (h' := h ++ [A, B, Cc, .lst [.str c]]) (by simp only [svIf_eq, tvOf_eq, evOp_eq, evVar_eq, evC_eq]; simp [ix, i2, z2, m, f, hp])]
    rw [fin_ret, fe]
  · rw [seq_step (e' := [some (.exc "TooGreat" [x]), some (.ref (h.length + 2)), some (.ref (h.length + 3)), none, none]) (h' := h ++ [A, B, Cc, .lst [.str "TooGreat"]]) (by simp only [svIf_eq, tvOf_eq, evOp_eq, evVar_eq, evC_eq]; simp [ix, i1, z1])]
    rw [seq_step (e' := [some (.exc "TooGreat" [x]), some (.ref (h.length + 2)), some (.ref (h.length + 3)), none, none]) (h' := h ++ [A, B, Cc, .lst [.str "TooGreat"]]) (by simp only [svIf_eq, tvOf_eq, evOp_eq, evVar_eq, evC_eq]; simp [ix, i2, z2])]
    simp only [svRet_eq, evIf_eq, tvOf_eq, evOp_eq, evVar_eq, evC_eq]
    simp [ix, q3, m, f, hp, fe]
end BW

set_option Elab.async false
set_option linter.all false
set_option maxRecDepth 100000
set_option maxHeartbeats 4000000
namespace BW
open PySem
/-! ### what a lambda tells -/
theorem evTold_of {ix : List Nat} {dt : Fh} {fb : Ev} {e : Env} {h h' : AH} {d : D} (hd : dt (fun h' => fb (wipeE e ix) h') h = .ok d h') : evTold ix dt fb e h = .ok d h' := by
  unfold evTold
  rw [hd]
theorem told_exc {L : Lv} {h : AH} {c : Str} {x : D} (hL : L h = .exc (.exc c [x]) h) (hc : c = "BadBonds" ∨ c = "BadWord" ∨ c = "BadRow" ∨ c = "BadDeed" ∨ c = "BadNumber" ∨ c = "TooGreat") (hx : x.lt h.length = true) (hp : ∀ h', promote x h' = .ok x h') :
    d__law_told L h = .ok (.tup [.str c, x]) h := by
  have m : c ∈ xNames := by rcases hc with rfl | rfl | rfl | rfl | rfl | rfl <;> decide +kernel
  have t1 : svTryHold (svAsg (evAct L) (gvName 1)) 3 2 ([none, some .non, some .non] ++ List.replicate (4 - 3) none) h = .nx [none, some .non, some (.exc c [x]), none] h := by
    unfold svTryHold
    rw [svAsg_eq, pv_eq]
    unfold evAct
    rw [hL]
    simp only [bind_exc, toFl_exc]
    rw [if_pos m]
    rfl
  unfold d__law_told fnTold
  rw [seq_step t1]
  have fe := fin_pure0 (h := h) (d := .tup [.str c, x]) rfl (by simp [hx])
  have cl := class_is c x h hc hx hp
  have on : opIsN h (.exc c [x]) .non = some (.bl false) := rfl
  simp only [svRet_eq, evIf_eq, tvOf_eq, evOp_eq, evVar_eq, evC_eq]
  simp [on, cl]
  exact fe
theorem told_ok {L : Lv} {h h' : AH} {d : D} (hL : L h = .ok d h') (hp : promote d h' = .ok d h') (hl : h.length ≤ h'.length) : d__law_told L h = .ok (.ref h'.length) (h' ++ [.lst [d]]) := by
  have t1 : svTryHold (svAsg (evAct L) (gvName 1)) 3 2 ([none, some .non, some .non] ++ List.replicate (4 - 3) none) h = .nx [none, some d, some .non, none] h' := by
    unfold svTryHold
    rw [svAsg_eq, pv_eq]
    unfold evAct
    rw [hL]
    simp only [bind_ok, hp]
    rfl
  unfold d__law_told fnTold
  rw [seq_step t1]
  have on : ∀ h', opIsN h' .non .non = some (.bl true) := fun _ => rfl
  simp only [svRet_eq, evIf_eq, tvOf_eq, evOp_eq, evVar_eq, evC_eq]
  simp [on, hp]
  show BW.fin h (.tl [d]) h' = _
  unfold BW.fin
  rw [promote_tl]
  dsimp only
  have : D.lt h.length (.ref h'.length) = false := by simp [D.lt]; omega
  rw [this]
  rfl
/-! ### any value at all -/
def isIntD : D → Bool
  | .int _ => true
  | _ => false
def amongD (v : D) (a b : Int) : Bool := match v with
  | .int i => decide (a ≤ i) && decide (i ≤ b)
  | _ => false
theorem isWhole_any {v : D} {h : AH} {t : String} (hv : tyD h v = some t) : d_is_whole [v] h = .ok (.bl (isIntD v)) h := by
  have key : (isiD "int" t && !isiD "bool" t) = isIntD v := by
    cases v with
    | ref n =>
      simp only [tyD] at hv
      split at hv <;> first | (cases hv; rfl) | cases hv
    | exc c xs => cases hv
    | kt xs => cases hv
    | _ => cases hv; rfl
  have p : promote v h = .ok v h ∨ ∃ xs, v = .tl xs := by
    cases v <;> first | exact .inl rfl | exact .inr ⟨_, rfl⟩
  rw [d_is_whole, fnD_eq, svRet_eq, evAnd_eq]
  simp [hv]
  cases z1 : isiD "int" t <;> cases z2 : isiD "bool" t <;> rw [z1, z2] at key <;> simp [← key]
theorem isAmong_any {v : D} {h : AH} {t : String} (hv : tyD h v = some t) (hp : promote v h = .ok v h) (a b : Int) : d_is_among [v, .int a, .int b] h = .ok (.bl (amongD v a b)) h := by
  have w := isWhole_any hv
  rw [d_is_among, fnD_eq, svRet_eq, evAnd_eq]
  cases v with
  | int i =>
    simp
    by_cases h1 : a ≤ i <;> simp [h1, amongD]
  | _ => simp [hp, w, isIntD, amongD]
end BW

set_option Elab.async false
set_option linter.all false
set_option maxRecDepth 100000
set_option maxHeartbeats 4000000
namespace BW
open PySem
/-! ### deeds: any value -/
def decode (n l : Nat) : D → Option Deed
  | .tup [.str s, .int k] => if 0 ≤ k ∧ k ≤ (l : Int) then (if s = "out" then some (.out k.toNat) else if s = "turn" then some (.turn k.toNat) else none) else none
  | .tup [.str s, .int k, .int a] => if 0 ≤ k ∧ k ≤ (l : Int) ∧ s = "in" ∧ 1 ≤ a ∧ a ≤ (n : Int) then some (.ins k.toNat a) else none
  | _ => none
theorem decode_some {n l : Nat} {v : D} {dd : Deed} (h : decode n l v = some dd) : v = dd.d ∧ dd.ok n l := by
  unfold decode at h
  split at h
  · rename_i s k
    split at h
    · rename_i z
      split at h
      · cases h
        rename_i e
        subst e
        exact ⟨by simp only [Deed.d]; rw [Int.toNat_of_nonneg z.1], by show k.toNat ≤ l; omega⟩
      · split at h
        · cases h
          rename_i e
          subst e
          exact ⟨by simp only [Deed.d]; rw [Int.toNat_of_nonneg z.1], by show k.toNat ≤ l; omega⟩
        · cases h
    · cases h
  · rename_i s k a
    split at h
    · rename_i z
      obtain ⟨z1, z2, rfl, z3, z4⟩ := z
      cases h
      exact ⟨by simp only [Deed.d]; rw [Int.toNat_of_nonneg z1], by omega, z3, z4⟩
    · cases h
  · cases h
theorem decode_of {n l : Nat} {dd : Deed} (h : dd.ok n l) : decode n l dd.d = some dd := by
  cases dd with
  | ins k a =>
    obtain ⟨h1, h2, h3⟩ := h
    have : (0 : Int) ≤ (k : Int) ∧ (k : Int) ≤ (l : Int) ∧ ("in" : Str) = "in" ∧ 1 ≤ a ∧ a ≤ (n : Int) := ⟨by omega, by omega, rfl, h2, h3⟩
    show (if (0 : Int) ≤ (k : Int) ∧ (k : Int) ≤ (l : Int) ∧ ("in" : Str) = "in" ∧ 1 ≤ a ∧ a ≤ (n : Int) then some (Deed.ins (k : Int).toNat a) else none) = _
    rw [if_pos this, Int.toNat_natCast]
  | out k =>
    have h1 : k ≤ l := h
    simp only [Deed.d, decode]
    rw [if_pos ⟨by omega, by omega⟩]
    simp
  | turn k =>
    have h1 : k ≤ l := h
    have ne : (("turn" : Str) = "out") = False := eq_false (by decide +kernel)
    simp only [Deed.d, decode]
    rw [if_pos ⟨by omega, by omega⟩]
    simp [ne]
structure DeedV (h : AH) (v : D) : Prop where
  ty : ∃ t, tyD h v = some t
  pr : promote v h = .ok v h
  items : ∀ xs, v = .tup xs → ∀ x ∈ xs, (∃ t, tyD h x = some t) ∧ (∀ h', promote x h' = .ok x h') ∧ ∀ s, x = .str s → PyData.strOk s = true
theorem DeedV.deed (h : AH) (dd : Deed) : DeedV h dd.d := by
  cases dd <;> exact ⟨⟨_, rfl⟩, rfl, fun xs e x hx => by
    cases e
    simp at hx
    rcases hx with rfl | hx
    · exact ⟨⟨_, rfl⟩, fun _ => rfl, fun s e => by cases e; decide +kernel⟩
    · rcases hx with rfl | hx
      all_goals first | exact ⟨⟨_, rfl⟩, fun _ => rfl, fun s e => by cases e⟩ | (subst hx; exact ⟨⟨_, rfl⟩, fun _ => rfl, fun s e => by cases e⟩)⟩
theorem isTuple_any {v : D} {h : AH} {t : String} (hv : tyD h v = some t) : isiD "tuple" t = match v with | .tup _ => true | _ => false := by
  cases v with
  | ref n =>
    simp only [tyD] at hv
    split at hv <;> first | (cases hv; rfl) | cases hv
  | exc c xs => cases hv
  | kt xs => cases hv
  | _ => cases hv; rfl
theorem isStr_any {v : D} {h : AH} {t : String} (hv : tyD h v = some t) : isiD "str" t = match v with | .str _ => true | _ => false := by
  cases v with
  | ref n =>
    simp only [tyD] at hv
    split at hv <;> first | (cases hv; rfl) | cases hv
  | exc c xs => cases hv
  | kt xs => cases hv
  | _ => cases hv; rfl
theorem in23 (h : AH) (n : Nat) : inD true h (.int n) (.tup [.int 2, .int 3]) = some (.bl (!(decide (n = 2) || decide (n = 3)))) := by
  have : inD true h (.int n) (.tup [.int 2, .int 3]) = some (.bl (!L2.inV (.int n) [.int 2, .int 3])) := rfl
  rw [this]
  congr 3
  simp [L2.inV, L2.eqV]
  by_cases h2 : n = 2 <;> by_cases h3 : n = 3 <;> simp_all <;> omega
theorem inOT (h : AH) (s : Str) : inD false h (.str s) (.tup [.str "out", .str "turn"]) = some (.bl (decide (s = "out") || decide (s = "turn"))) := by
  have : inD false h (.str s) (.tup [.str "out", .str "turn"]) = some (.bl (L2.inV (.str s) [.str "out", .str "turn"])) := rfl
  rw [this]
  simp only [L2.inV, L2.eqV, List.any_cons, List.any_nil, Bool.or_false]
  have e : ∀ a b : Str, (a == b) = decide (b = a) := fun a b => by
    by_cases z : b = a
    · subst z; simp
    · simp [z, beq_eq_false_iff_ne.mpr (Ne.symm z)]
  rw [e, e]
theorem ixI {h : AH} {xs : List D} {x : D} {i : Int} {j : Nat} (hi : i = j) (e : xs[j]? = some x) : opIx h (.tup xs) (.int i) = some x := by
  rw [opIx_tup, hi]
  exact L2.atI_nat e
theorem isFormed_any {h : AH} {b n : Nat} {M : Nat → Nat → Int} (B : BondsAt h b n M) (hn : n ≤ 1000) {d : D} {w : List Int} (W : WordAt h d w) {v : D} (V : DeedV h v) : d_is_formed [.ref b, d, v] h = .ok (.bl (decode n w.length v).isSome) h := by
  obtain ⟨t, ht⟩ := V.ty
  have it := isTuple_any ht
  have lo := lenO_eq B hn (f := evVar 0) (e := [some (.ref b), some d, some v]) (h0 := h) rfl
  have pb : promote (.ref b) h = .ok (.ref b) h := rfl
  rw [d_is_formed, fnD_eq]
  by_cases hx : ∃ xs, v = .tup xs
  · obtain ⟨xs, rfl⟩ := hx
    have it2 : isiD "tuple" t = true := it
    have tt : t = "tuple" := by cases ht; rfl
    subst tt
    have items := V.items xs rfl
    by_cases h23 : xs.length = 2 ∨ xs.length = 3
    · have l23 : (decide (xs.length = 2) || decide (xs.length = 3)) = true := by simpa using h23
      obtain ⟨x0, x1, rest, rfl⟩ : ∃ x0 x1 rest, xs = x0 :: x1 :: rest := by
        rcases xs with _ | ⟨x0, _ | ⟨x1, rest⟩⟩
        · simp at h23
        · simp at h23
        · exact ⟨_, _, _, rfl⟩
      obtain ⟨⟨t0, e0⟩, p0, s0⟩ := items x0 (by simp)
      obtain ⟨⟨t1, e1⟩, p1, s1⟩ := items x1 (by simp)
      have is := isStr_any e0
      by_cases hs : ∃ s, x0 = .str s
      · obtain ⟨s, rfl⟩ := hs
        have is2 : isiD "str" t0 = true := is
        have so := s0 s rfl
        have am := isAmong_any e1 (p1 h) 0 w.length
        rw [seq_step (e' := [some (.ref b), some d, some (.tup (.str s :: x1 :: rest))]) (h' := h) (by
          simp only [svIf_eq, tvOr_eq, tvNot_eq, tvOf_eq, evIsi_eq, evVar_eq, evOp_eq, evB_eq]
          simp [ht, it2, e0, is2]
          rw [show (((rest.length : Nat) : Int) + 1 + 1) = ((rest.length + 2 : Nat) : Int) by omega, in23]
          have ll : (decide (rest.length + 2 = 2) || decide (rest.length + 2 = 3)) = true := by simpa using h23
          rw [ll]
          simp [e0, is2])]
        cases hk : amongD x1 0 w.length with
        | false =>
          rw [seq_ret' (d := .bl false) (h' := h) (by simp [p1, W.len, am, hk])]
          have : decode n w.length (.tup (.str s :: x1 :: rest)) = none := by
            cases x1 <;> cases rest with
            | nil => simp_all [decode, amongD] <;> omega
            | cons y r => cases r <;> cases y <;> simp_all [decode, amongD] <;> omega
          rw [this]
          simp
        | true =>
          obtain ⟨k, rfl⟩ : ∃ k, x1 = .int k := by cases x1 <;> first | exact ⟨_, rfl⟩ | cases hk
          have hk2 : 0 ≤ k ∧ k ≤ (w.length : Int) := by simpa [amongD] using hk
          rw [seq_step (e' := [some (.ref b), some d, some (.tup (.str s :: .int k :: rest))]) (h' := h) (by simp [W.len, hk2])]
          rcases rest with _ | ⟨x2, _ | ⟨x3, r⟩⟩
          · rw [seq_step (e' := [some (.ref b), some d, some (.tup [.str s, .int k])]) (h' := h) (by simp)]
            have : (decode n w.length (.tup [.str s, .int k])).isSome = (decide (s = "out") || decide (s = "turn")) := by
              simp only [decode]
              rw [if_pos hk2]
              by_cases z1 : s = "out"
              · simp [z1]
              · have ne : (Str.ofString "turn" = Str.ofString "out") = False := eq_false (by decide +kernel)
                by_cases z2 : s = "turn" <;> simp [z1, z2, ne]
            rw [this]
            simp [inOT]
          · obtain ⟨⟨t2, e2⟩, p2, s2⟩ := items x2 (by simp)
            have am2 := isAmong_any e2 (p2 h) 1 n
            have lo' := lenO_eq B hn (f := evVar 0) (e := [some (.ref b), some d, some (.tup [.str s, .int k, x2])]) (h0 := h) rfl
            have eq1 : opEq h (.str s) (.str "in") = some (.bl (s == "in")) := opEq_str h so (by decide +kernel) rfl
            have : (decode n w.length (.tup [.str s, .int k, x2])).isSome = ((s == "in") && amongD x2 1 n) := by
              by_cases z1 : s = "in"
              · subst z1
                cases x2 <;> simp [decode, amongD, hk2]
                rename_i i
                by_cases z2 : 1 ≤ i <;> by_cases z3 : i ≤ (n : Int) <;> simp [z2, z3]
              · have z2 : (s == ("in" : Str)) = false := beq_eq_false_iff_ne.mpr z1
                cases x2 <;> simp [decode, z1, z2]
            rw [this]
            rw [seq_ret' (d := .bl ((s == "in") && amongD x2 1 n)) (h' := h) (by
              simp only [svIf_eq, tvOf_eq, evOp_eq, evB_eq, evVar_eq, evC_eq]
              simp [eq1, lo', p2, am2]
              by_cases z : s = "in" <;> simp [z])]
            simp
          · exfalso
            simp at h23
      · have is2 : isiD "str" t0 = false := by
          rw [is]
          cases x0 <;> first | rfl | exact absurd ⟨_, rfl⟩ hs
        rw [seq_ret' (d := .bl false) (h' := h) (by
          simp only [svIf_eq, tvOr_eq, tvNot_eq, tvOf_eq, evIsi_eq, evVar_eq, evOp_eq, evB_eq]
          simp [ht, it2, e0, is2]
          rw [show (((rest.length : Nat) : Int) + 1 + 1) = ((rest.length + 2 : Nat) : Int) by omega, in23]
          have : (decide (rest.length + 2 = 2) || decide (rest.length + 2 = 3)) = true := by simpa using h23
          rw [this]
          simp [e0, is2])]
        have : decode n w.length (.tup (x0 :: x1 :: rest)) = none := by
          unfold decode
          split
          · rename_i e; cases e; exact absurd ⟨_, rfl⟩ hs
          · rename_i e; cases e; exact absurd ⟨_, rfl⟩ hs
          · rfl
        rw [this]
        simp
    · have l23 : (decide (xs.length = 2) || decide (xs.length = 3)) = false := by simpa using h23
      rw [seq_ret' (d := .bl false) (h' := h) (by
        simp only [svIf_eq, tvOr_eq, tvNot_eq, tvOf_eq, evIsi_eq, evVar_eq, evOp_eq, evB_eq]
        simp [ht, it2, in23]
        simp at h23
        simp [h23])]
      have : decode n w.length (.tup xs) = none := by
        unfold decode
        split
        · rename_i e; cases e; simp at h23
        · rename_i e; cases e; simp at h23
        · rfl
      rw [this]
      simp
  · have it2 : isiD "tuple" t = false := by
      rw [it]
      cases v <;> first | rfl | exact absurd ⟨_, rfl⟩ hx
    rw [seq_ret' (d := .bl false) (h' := h) (by simp [ht, it2])]
    have : decode n w.length v = none := by
      unfold decode
      split
      · exact absurd ⟨_, rfl⟩ hx
      · exact absurd ⟨_, rfl⟩ hx
      · rfl
    rw [this]
    simp
/-- what comes of any value -/
def doneL (n : Nat) (M : Nat → Nat → Int) (w : List Int) (v : D) : Option (List Int) := (decode n w.length v).bind (movedL M w)
theorem can_any {h : AH} {b n : Nat} {M : Nat → Nat → Int} (T : Tab n M) (B : BondsAt h b n M) {d : D} {w : List Int} (W : WordAt h d w) (hw : Letters n w) (hl : w.length ≤ 60) {v : D} (V : DeedV h v) :
    d_can [.ref b, d, v] h = .ok (.bl (match doneL n M w v with | some l => decide (l.length ≤ 60) | none => false)) h := by
  have hn : n ≤ 1000 := Nat.le_trans T.n6 (by decide)
  cases hv : decode n w.length v with
  | none =>
    have := isFormed_any B hn W V
    rw [hv] at this
    simp [d_can, fnD_eq, W.prom, V.pr, needWord B hn W hw hl, this, doneL, hv]
  | some dd =>
    obtain ⟨rfl, ok⟩ := decode_some hv
    rw [can_is T B W hw hl dd ok]
    simp only [doneL, hv, Option.bind_some, canB]
    try (cases movedL M w dd <;> rfl)
theorem doneAt_any {h : AH} {b n : Nat} {M : Nat → Nat → Int} (T : Tab n M) (B : BondsAt h b n M) {w : List Int} (hw : Letters n w) (hl : w.length ≤ 60) {v : D} (V : DeedV h v) (k : Int) :
    d_done_at [.ref b, .tup (w.map .int), v, .int k] h = match doneL n M w v with
      | some l => if l.length ≤ 60 then .ok (.tup (l.map .int)) h else .exc (.exc "TooGreat" [.int 60]) h
      | none => .exc (.exc "BadDeed" [.int k]) h := by
  have hn : n ≤ 1000 := Nat.le_trans T.n6 (by decide)
  have fo := isFormed_any B hn (.inl rfl : WordAt h (.tup (w.map .int)) w) V
  have on : ∀ l : List Int, opIsN h (.tup (l.map .int)) .non = some (.bl false) := fun l => rfl
  have on2 : opIsN h .non .non = some (.bl true) := rfl
  cases hv : decode n w.length v with
  | none =>
    rw [hv] at fo
    simp [d_done_at, fnD_eq, V.pr, fo, doneL, hv, on2, finX_0]
  | some dd =>
    rw [hv] at fo
    obtain ⟨rfl, ok⟩ := decode_some hv
    have md := made_is T B hw hl dd ok
    cases hm : movedL M w dd with
    | none =>
      rw [hm] at md
      simp [d_done_at, fnD_eq, V.pr, fo, md, doneL, hv, hm, optD, on2, finX_0]
    | some l =>
      rw [hm] at md
      by_cases hz : l.length ≤ 60
      · have : ¬ (60 < (l.length : Int)) := by omega
        simp [d_done_at, fnD_eq, V.pr, fo, md, doneL, hv, hm, optD, on, hz, this]
      · have : (60 < (l.length : Int)) := by omega
        simp [d_done_at, fnD_eq, V.pr, fo, md, doneL, hv, hm, optD, on, hz, this, finX_0]
theorem done_any {h : AH} {b n : Nat} {M : Nat → Nat → Int} (T : Tab n M) (B : BondsAt h b n M) {d : D} {w : List Int} (W : WordAt h d w) (hw : Letters n w) (hl : w.length ≤ 60) {v : D} (V : DeedV h v) :
    d_done [.ref b, d, v] h = match doneL n M w v with
      | some l => if l.length ≤ 60 then .ok (.tup (l.map .int)) h else .exc (.exc "TooGreat" [.int 60]) h
      | none => .exc (.exc "BadDeed" [.int 0]) h := by
  have hn : n ≤ 1000 := Nat.le_trans T.n6 (by decide)
  have da := doneAt_any T B hw hl V 0
  cases hv : doneL n M w v with
  | none =>
    rw [hv] at da
    simp [d_done, fnD_eq, W.prom, V.pr, needWord B hn W hw hl, W.tup, da, finX_0]
  | some l =>
    rw [hv] at da
    by_cases hz : l.length ≤ 60
    · simp only [hz, if_true] at da
      simp [d_done, fnD_eq, W.prom, V.pr, needWord B hn W hw hl, W.tup, da, hz]
    · simp only [hz, if_false] at da
      simp [d_done, fnD_eq, W.prom, V.pr, needWord B hn W hw hl, W.tup, da, hz, finX_0]
end BW

set_option Elab.async false
set_option linter.all false
set_option maxRecDepth 100000
set_option maxHeartbeats 4000000
namespace BW
open PySem
/-! ### repr of any plain data -/
theorem strOk_of (s : String) : PyData.strOk (Str.ofString s) = true := by
  rw [Str.ofString_eq_toList]
  unfold PyData.strOk
  simp only [List.all_toArray, List.all_map, List.all_eq_true, Function.comp, decide_eq_true_eq]
  intro c _
  have := c.valid
  simp only [UInt32.isValidChar, Nat.isValidChar] at this
  show c.val.toNat < 0x110000
  omega
theorem textFrom_ok : ∀ (ts : List Str) (k : Nat) (acc : Str), PyData.strOk acc = true → (∀ t ∈ ts, PyData.strOk t = true) → PyData.strOk (textFrom k acc ts) = true
  | [], _, acc, ha, _ => ha
  | t :: ts, k, acc, ha, h => by
    unfold textFrom
    refine textFrom_ok ts _ _ ?_ fun t ht => h t (List.mem_cons_of_mem _ ht)
    exact strOk_app (strOk_app ha (strOk_of _)) (h t List.mem_cons_self)
theorem strOk_list {ts : List Str} (h : ∀ t ∈ ts, PyData.strOk t = true) : PyData.strOk (listText ts) = true := by
  unfold listText
  exact strOk_app (textFrom_ok ts 0 _ (strOk_of _) h) (strOk_of _)
theorem textFrom_le {B : Nat} : ∀ (ts : List Str) (k : Nat) (acc : Str), (∀ t ∈ ts, t.length ≤ B) → (textFrom k acc ts).length ≤ acc.length + ts.length * (B + 2)
  | [], _, acc, _ => by simp [textFrom]
  | t :: ts, k, acc, h => by
    unfold textFrom
    refine Nat.le_trans (textFrom_le (B := B) ts _ _ fun t ht => h t (List.mem_cons_of_mem _ ht)) ?_
    have h1 := h t List.mem_cons_self
    have e1 : (((if k > 0 then ", " else "" : String)) : Str).length ≤ 2 := by split <;> decide +kernel
    rw [List.length_cons, Nat.add_mul, strLen_append, strLen_append]
    omega
theorem listText_len {ts : List Str} {B : Nat} (h : ∀ t ∈ ts, t.length ≤ B) : (listText ts).length ≤ ts.length * (B + 2) + 3 := by
  unfold listText
  have := textFrom_le (B := B) ts 0 "[" h
  have e1 : (("[" : String) : Str).length = 1 := by decide +kernel
  have e2 : (("]" : String) : Str).length = 1 := by decide +kernel
  rw [strLen_append, e2]
  omega
/-- data whose text is at most B long, of numbers that may be shown -/
inductive Shw : Nat → PyData → Prop
  | non {B : Nat} : 2000 ≤ B → Shw B .none
  | bl {B : Nat} (b : Bool) : 2000 ≤ B → Shw B (.bool b)
  | int {B : Nat} {i : Int} : i.natAbs.log2 < 1920 → 2000 ≤ B → Shw B (.int i)
  | str {B : Nat} {x : Str} : PyData.strOk (reprText x) = true → (reprText x).length ≤ B → Shw B (.str x)
  | tup {B C : Nat} {xs : List PyData} : (∀ x ∈ xs, Shw B x) → xs.length * (B + 2) + 3 ≤ C → Shw C (.tuple xs)
  | lst {B C : Nat} {xs : List PyData} : (∀ x ∈ xs, Shw B x) → xs.length * (B + 2) + 3 ≤ C → Shw C (.list xs)
theorem showableAll_of : ∀ {xs : List PyData}, (∀ x ∈ xs, x.showable = true) → PyData.showableAll xs = true
  | [], _ => by simp [PyData.showableAll]
  | x :: xs, h => by simp [PyData.showableAll, h x List.mem_cons_self, showableAll_of fun y hy => h y (List.mem_cons_of_mem _ hy)]
theorem Shw.ok {B : Nat} {p : PyData} (h : Shw B p) : p.showable = true ∧ PyData.strOk p.shown = true ∧ p.shown.length ≤ B := by
  induction h with
  | non hB => exact ⟨rfl, strOk_of _, Nat.le_trans (by decide +kernel) hB⟩
  | bl b hB => exact ⟨rfl, by cases b <;> exact strOk_of _, Nat.le_trans (by cases b <;> decide +kernel) hB⟩
  | int hi hB => exact ⟨by simp [PyData.showable, hi], strOk_of _, Nat.le_trans (PyProof.Rows.int_text_len_1921 hi) (Nat.le_trans (by decide) hB)⟩
  | str h1 h2 => exact ⟨rfl, h1, h2⟩
  | @tup B C xs h hC ih =>
    refine ⟨by simp only [PyData.showable]; exact showableAll_of fun x hx => (ih x hx).1, ?_, ?_⟩
    · simp only [PyData.shown]
      exact strOk_tuple fun t ht => by
        obtain ⟨d, hd, rfl⟩ := mem_shownAll ht
        exact (ih d hd).2.1
    · simp only [PyData.shown]
      refine Nat.le_trans (tupleText_len (B := B) fun t ht => ?_) (by rw [shownAll_length]; exact hC)
      obtain ⟨d, hd, rfl⟩ := mem_shownAll ht
      exact (ih d hd).2.2
  | @lst B C xs h hC ih =>
    refine ⟨by simp only [PyData.showable]; exact showableAll_of fun x hx => (ih x hx).1, ?_, ?_⟩
    · simp only [PyData.shown]
      exact strOk_list fun t ht => by
        obtain ⟨d, hd, rfl⟩ := mem_shownAll ht
        exact (ih d hd).2.1
    · simp only [PyData.shown]
      refine Nat.le_trans (listText_len (B := B) fun t ht => ?_) (by rw [shownAll_length]; exact hC)
      obtain ⟨d, hd, rfl⟩ := mem_shownAll ht
      exact (ih d hd).2.2
theorem repr_of {h : AH} {d : D} {p : PyData} {B : Nat} (hd : dataK h 9 d = some p) (hs : Shw B p) (hB : B ≤ 16777216) : bRepr h [d] = some (.str p.shown) := by
  obtain ⟨h1, h2, h3⟩ := hs.ok
  show (dataK h 9 d).bind _ = _
  rw [hd]
  have : p.shown.length ≤ sizeLine := Nat.le_trans h3 (by rw [sizeLine_eq]; exact hB)
  simp [h1, this]
theorem repr_eq {h h' : AH} {p : PyData} {B : Nat} (hs : Shw B p) : opEq h (.str p.shown) (.str p.shown) = some (.bl true) := opEq_str h hs.ok.2.1 hs.ok.2.1 (by simp)
theorem repr_ne {h h' : AH} {p : PyData} {B : Nat} (hs : Shw B p) : opNe h (.str p.shown) (.str p.shown) = some (.bl false) := opNe_str h hs.ok.2.1
end BW

set_option Elab.async false
set_option linter.all false
set_option maxRecDepth 100000
set_option maxHeartbeats 4000000
namespace BW
open PySem
theorem dataK_word (h : AH) (n : Nat) (w : List Int) : dataK h (n + 1) (.tup (w.map .int)) = some (.tuple (w.map .int)) := by
  show (allK (dataK h n) (w.map D.int)).map PyData.tuple = _
  rw [dataK_ints]; rfl
theorem dataK_ref {h : AH} {k : Nat} {xs : List D} {ps : List PyData} (n : Nat) (e : h[k]? = some (.lst xs)) (hx : allK (dataK h n) xs = some ps) : dataK h (n + 1) (.ref k) = some (.list ps) := by
  simp only [dataK, e, hx]; rfl
theorem eqvAll_self : ∀ w : List Int, PyData.eqvAll (w.map .int) (w.map .int) = true := fun w => by rw [eqvAll_ints]; simp
theorem opNe_list {h : AH} {k : Nat} {u v : List Int} (e : h[k]? = some (.lst (u.map .int))) : opNe h (.ref k) (.tl (v.map .int)) = some (.bl (!decide (u = v))) := by
  have e1 : dataK h 9 (.ref k) = some (.list (u.map .int)) := dataK_ref 8 e (dataK_ints h 8 u)
  have e2 : dataK h 9 (.tl (v.map .int)) = some (.list (v.map .int)) := by
    show (allK (dataK h 8) (v.map D.int)).map PyData.list = _
    rw [dataK_ints]; rfl
  unfold opNe eqD
  rw [e1, e2]
  simp only [PyData.eqv, eqvAll_ints]; rfl
@[simp] theorem bList_tup (h : AH) (xs : List D) : bList h [.tup xs] = some (.tl xs) := nrfl rfl
theorem eq_tell (h : AH) {c : Str} (hc : PyData.strOk c = true) (k : Int) : opEq h (.tup [.str c, .int k]) (.tup [.str c, .int k]) = some (.bl true) := by
  have e : dataK h 9 (.tup [.str c, .int k]) = some (.tuple [.str c, .int k]) := by
    show (allK (dataK h 8) [D.str c, .int k]).map PyData.tuple = _
    have e1 : dataK h 8 (.str c) = some (.str c) := by
      show (if PyData.strOk c = true then some (PyData.str c) else none) = _
      rw [if_pos hc]
    simp only [allK, e1]
    rfl
  unfold opEq eqD
  rw [e]
  simp [PyData.eqv, PyData.eqvAll]
theorem eq_bad (h : AH) : opEq h (.tup [.str "BadDeed", .int 0]) (.tup [.str "BadDeed", .int 0]) = some (.bl true) := eq_tell h (strOk_of _) 0
theorem eq_great (h : AH) : opEq h (.tup [.str "TooGreat", .int 60]) (.tup [.str "TooGreat", .int 60]) = some (.bl true) := eq_tell h (strOk_of _) 60
@[simp] theorem opIsB_bl (h : AH) (a b : Bool) : opIsB h (.bl a) (.bl b) = some (.bl (decide (a = b))) := nrfl rfl
@[simp] theorem wipeE_nil (e : Env) : wipeE e [] = e := nrfl rfl
theorem shw_word {w : List Int} (hw : ∀ a ∈ w, 0 ≤ a ∧ a ≤ 1000) (hl : w.length ≤ 100) : Shw 210000 (.tuple (w.map .int)) := by
  refine .tup (B := 2000) (fun x hx => ?_) (by rw [List.length_map]; omega)
  obtain ⟨a, ha, rfl⟩ := List.mem_map.mp hx
  obtain ⟨h0, h1⟩ := hw a ha
  refine .int ?_ (by decide)
  have : a.natAbs < 2 ^ 11 := by omega
  by_cases z : a.natAbs = 0
  · rw [z]; decide
  · exact Nat.lt_of_lt_of_le ((Nat.log2_lt z).mpr (by omega)) (by decide : 11 ≤ 1920)
theorem Letters.bd {n : Nat} {w : List Int} (hn : n ≤ 6) (hw : Letters n w) : ∀ a ∈ w, 0 ≤ a ∧ a ≤ 1000 := fun a ha => by
  obtain ⟨h1, h2⟩ := hw a ha
  omega
theorem eqv_deed (dd : Deed) : PyData.eqv dd.p dd.p = true := by
  cases dd <;> simp [Deed.p, PyData.eqv, PyData.eqvAll]
theorem eqvAll_deeds : ∀ l : List Deed, PyData.eqvAll (l.map Deed.p) (l.map Deed.p) = true
  | [] => rfl
  | x :: l => by simp only [List.map_cons, PyData.eqvAll, eqv_deed, eqvAll_deeds l]; rfl
end BW

set_option Elab.async false
set_option linter.all false
namespace Cox
/-! ### letters, rows, words: plain -/
/-- weights of two letters, by their bond -/
inductive Pr : Nat → Int → Int → Prop
  | b2 : Pr 2 0 0
  | b3 : Pr 3 1 1
  | b4 : Pr 4 1 2
  | b4' : Pr 4 2 1
  | b6 : Pr 6 1 3
  | b6' : Pr 6 3 1
  | b0 : Pr 0 2 2
structure Sys where
  m : Nat → Nat → Nat
  w : Nat → Nat → Int
  own : ∀ a, w a a = -2
  sym : ∀ a b, m a b = m b a
  pr : ∀ a b, a ≠ b → Pr (m a b) (w a b) (w b a)
abbrev Rw := Nat → Int
abbrev Wd := List Nat
namespace Sys
variable (S : Sys)
def press (a : Nat) (r : Rw) : Rw := fun b => r b + S.w a b * r a
def pw : Wd → Rw → Rw
  | [], r => r
  | a :: u, r => pw u (S.press a r)
end Sys
def alt (a b : Nat) : Nat → Wd
  | 0 => []
  | k + 1 => a :: alt b a k
@[simp] theorem alt_len : ∀ (k a b : Nat), (alt a b k).length = k
  | 0, _, _ => rfl
  | k + 1, a, b => by simp [alt, alt_len k b a]
inductive Alike (S : Sys) : Wd → Wd → Prop
  | refl (u : Wd) : Alike S u u
  | symm {u v : Wd} : Alike S u v → Alike S v u
  | trans {u v x : Wd} : Alike S u v → Alike S v x → Alike S u x
  | out (x y : Wd) (a : Nat) : Alike S (x ++ a :: a :: y) (x ++ y)
  | turn (x y : Wd) (a b : Nat) : a ≠ b → Alike S (x ++ alt a b (S.m a b) ++ y) (x ++ alt b a (S.m a b) ++ y)
section
open Sys
variable {S : Sys}
theorem pw_append (u v : Wd) (r : Rw) : S.pw (u ++ v) r = S.pw v (S.pw u r) := by
  induction u generalizing r with
  | nil => rfl
  | cons a u ih => exact ih _
theorem press_twice (a : Nat) (r : Rw) : S.press a (S.press a r) = r := by
  funext b
  simp only [Sys.press, S.own]
  grind
theorem braid (a b : Nat) (h : a ≠ b) (r : Rw) : S.pw (alt a b (S.m a b)) r = S.pw (alt b a (S.m a b)) r := by
  have p := S.pr a b h
  generalize hm : S.m a b = m at *
  generalize hx : S.w a b = x at *
  generalize hy : S.w b a = y at *
  funext c
  cases p <;> simp only [alt, Sys.pw, Sys.press, S.own, hx, hy] <;> grind
theorem Alike.pw {u v : Wd} (h : Alike S u v) (r : Rw) : S.pw u r = S.pw v r := by
  induction h generalizing r with
  | refl => rfl
  | symm _ ih => exact (ih r).symm
  | trans _ _ i j => exact (i r).trans (j r)
  | out x y a => rw [pw_append, pw_append]; show S.pw y (S.press a (S.press a _)) = _; rw [press_twice]
  | turn x y a b h => rw [pw_append, pw_append, pw_append, pw_append, braid a b h]
theorem Alike.par {u v : Wd} (h : Alike S u v) : u.length % 2 = v.length % 2 := by
  induction h with
  | refl => rfl
  | symm _ ih => exact ih.symm
  | trans _ _ i j => exact i.trans j
  | out x y a => simp; omega
  | turn x y a b h => simp
theorem Alike.left (x : Wd) {u v : Wd} (h : Alike S u v) : Alike S (x ++ u) (x ++ v) := by
  induction h with
  | refl => exact .refl _
  | symm _ ih => exact ih.symm
  | trans _ _ i j => exact i.trans j
  | out y z a => have := Alike.out (S := S) (x ++ y) z a; simpa using this
  | turn y z a b h => have := Alike.turn (S := S) (x ++ y) z a b h; simpa using this
theorem Alike.right (x : Wd) {u v : Wd} (h : Alike S u v) : Alike S (u ++ x) (v ++ x) := by
  induction h with
  | refl => exact .refl _
  | symm _ ih => exact ih.symm
  | trans _ _ i j => exact i.trans j
  | out y z a => have := Alike.out (S := S) y (z ++ x) a; simpa using this
  | turn y z a b h => have := Alike.turn (S := S) y (z ++ x) a b h; simpa using this
theorem Alike.app {u v x y : Wd} (h : Alike S u v) (g : Alike S x y) : Alike S (u ++ x) (v ++ y) := (h.right x).trans (g.left v)
theorem alt_snoc : ∀ (k a b : Nat), alt a b (k + 1) = alt a b k ++ [if k % 2 = 0 then a else b]
  | 0, a, b => rfl
  | k + 1, a, b => by
    rw [alt, alt_snoc k b a, alt]
    simp only [List.cons_append]
    congr 2
    by_cases h : k % 2 = 0 <;> simp [h] <;> omega
theorem alt_rev : ∀ (k a b : Nat), (alt a b k).reverse = if k % 2 = 0 then alt b a k else alt a b k
  | 0, a, b => by simp [alt]
  | k + 1, a, b => by
    rw [alt, List.reverse_cons, alt_rev k b a]
    by_cases h : k % 2 = 0
    · rw [if_pos h, if_neg (by omega)]
      show _ = alt a b (k + 1)
      rw [alt_snoc, if_pos h]
    · rw [if_neg h, if_pos (by omega)]
      rw [alt_snoc, if_neg h]
theorem Alike.rev {u v : Wd} (h : Alike S u v) : Alike S u.reverse v.reverse := by
  induction h with
  | refl => exact .refl _
  | symm _ ih => exact ih.symm
  | trans _ _ i j => exact i.trans j
  | out y z a => have := Alike.out (S := S) z.reverse y.reverse a; simpa using this
  | turn y z a b h =>
    simp only [List.reverse_append, alt_rev]
    by_cases e : S.m a b % 2 = 0
    · simp only [if_pos e]
      have := Alike.turn (S := S) z.reverse y.reverse b a (Ne.symm h)
      rw [S.sym b a] at this
      simpa using this
    · simp only [if_neg e]
      have := Alike.turn (S := S) z.reverse y.reverse a b h
      simpa using this
theorem undo_right : ∀ (u : Wd), Alike S (u ++ u.reverse) []
  | [] => .refl _
  | a :: u => by
    have h := (undo_right u).left [a]
    have g := h.right [a]
    have o := Alike.out (S := S) [] [] a
    simp only [List.reverse_cons, List.cons_append, List.nil_append, List.append_assoc] at *
    exact g.trans o
theorem undo_left (u : Wd) : Alike S (u.reverse ++ u) [] := by
  have := undo_right (S := S) u.reverse
  rwa [List.reverse_reverse] at this
/-! ### shortest words -/
def Short (S : Sys) (u : Wd) : Prop := ∀ v, Alike S u v → u.length ≤ v.length
theorem ex_short (S : Sys) (u : Wd) : ∃ v, Alike S u v ∧ Short S v := by
  suffices z : ∀ n (u : Wd), u.length ≤ n → ∃ v, Alike S u v ∧ Short S v from z u.length u (Nat.le_refl _)
  intro n
  induction n with
  | zero => exact fun u h => ⟨u, .refl _, fun v _ => by omega⟩
  | succ n ih =>
    intro u h
    by_cases s : Short S u
    · exact ⟨u, .refl _, s⟩
    · have ⟨v, s⟩ := Classical.not_forall.mp s
      have ⟨s1, s2⟩ := Classical.not_imp.mp s
      obtain ⟨x, a, b⟩ := ih v (by omega)
      exact ⟨x, s1.trans a, b⟩
noncomputable def ell (S : Sys) (u : Wd) : Nat := (Classical.choose (ex_short S u)).length
theorem ell_of {u v : Wd} (h : Alike S u v) (s : Short S v) : ell S u = v.length := by
  have ⟨a, b⟩ := Classical.choose_spec (ex_short S u)
  exact Nat.le_antisymm (b _ (a.symm.trans h)) (s _ (h.symm.trans a))
theorem ell_ex (S : Sys) (u : Wd) : ∃ v, Alike S u v ∧ Short S v ∧ v.length = ell S u :=
  have ⟨a, b⟩ := Classical.choose_spec (ex_short S u)
  ⟨_, a, b, rfl⟩
theorem ell_le (u : Wd) : ell S u ≤ u.length := by
  obtain ⟨v, a, b, c⟩ := ell_ex S u
  rw [← c]; exact b _ a.symm
theorem ell_short {u : Wd} (h : Short S u) : ell S u = u.length := ell_of (.refl _) h
theorem ell_congr {u v : Wd} (h : Alike S u v) : ell S u = ell S v := by
  obtain ⟨x, a, b, c⟩ := ell_ex S v
  rw [ell_of (h.trans a) b, c]
theorem short_of_ell {u : Wd} (h : ell S u = u.length) : Short S u := fun v a => by
  rw [← h, ell_congr a]; exact ell_le v
theorem ell_par (u : Wd) : ell S u % 2 = u.length % 2 := by
  obtain ⟨v, a, b, c⟩ := ell_ex S u
  rw [← c]; exact a.par.symm
theorem ell_app (u v : Wd) : ell S (u ++ v) ≤ ell S u + ell S v := by
  obtain ⟨x, a1, a2, a3⟩ := ell_ex S u
  obtain ⟨y, b1, b2, b3⟩ := ell_ex S v
  rw [ell_congr (a1.app b1), ← a3, ← b3, ← List.length_append]; exact ell_le _
theorem ell_rev (u : Wd) : ell S u.reverse = ell S u := by
  have le : ∀ u, ell S u.reverse ≤ ell S u := fun u => by
    obtain ⟨v, a, b, c⟩ := ell_ex S u
    rw [ell_congr a.rev, ← c, ← List.length_reverse (as := v)]; exact ell_le _
  have := le u.reverse
  rw [List.reverse_reverse] at this
  exact Nat.le_antisymm (le u) this
@[simp] theorem ell_nil : ell S [] = 0 := Nat.le_zero.mp (ell_le (S := S) [])
theorem ell_one_le (a : Nat) : ell S [a] ≤ 1 := ell_le (S := S) [a]
theorem out_end (u : Wd) (s : Nat) : Alike S (u ++ [s] ++ [s]) u := by
  have := Alike.out (S := S) u [] s
  simpa using this
/-- a letter more makes it one longer or one shorter -/
theorem ell_step (u : Wd) (s : Nat) : ell S (u ++ [s]) = ell S u + 1 ∨ ell S u = ell S (u ++ [s]) + 1 := by
  have h1 := ell_app (S := S) u [s]
  have h2 := ell_app (S := S) (u ++ [s]) [s]
  have h3 := ell_one_le (S := S) s
  rw [ell_congr (out_end u s)] at h2
  have p1 := ell_par (S := S) u
  have p2 := ell_par (S := S) (u ++ [s])
  simp at p2
  omega
theorem Short.pre {u v : Wd} (h : Short S (u ++ v)) : Short S u := fun x a => by
  have := h _ (a.right v)
  simp at this; omega
theorem Short.suf {u v : Wd} (h : Short S (u ++ v)) : Short S v := fun x a => by
  have := h _ (a.left u)
  simp at this; omega
theorem ell_zero {u : Wd} (h : ell S u = 0) : Alike S u [] := by
  obtain ⟨v, a, b, c⟩ := ell_ex S u
  rw [h] at c
  rw [List.length_eq_zero_iff.mp c] at a
  exact a
end
end Cox

set_option Elab.async false
set_option linter.all false
namespace Cox
section
open Sys
variable {S : Sys}
/-- the letter that goes on -/
def nxt (c d j : Nat) : Nat := if j % 2 = 0 then c else d
theorem nxt_succ (c d j : Nat) : nxt c d (j + 1) = nxt d c j := by
  unfold nxt
  by_cases h : j % 2 = 0 <;> simp [h] <;> omega
theorem alt_succ' (c d j : Nat) : alt c d (j + 1) = alt c d j ++ [nxt c d j] := alt_snoc j c d
theorem rank0 {c d : Nat} (h1 : S.w c d = 2) (h2 : S.w d c = 2) : ∀ (j : Nat) (r : Rw), S.pw (alt c d j) r (nxt c d j) = ((j : Int) + 1) * r c + j * r d
  | 0, r => by simp [alt, Sys.pw, nxt]
  | j + 1, r => by
    rw [alt, Sys.pw, nxt_succ, rank0 h2 h1 j]
    simp only [Sys.press, h1, S.own]
    grind
theorem rank2 {c d : Nat} (h : c ≠ d) (j : Nat) (hj : S.m c d = 0 ∨ j < S.m c d) (r : Rw) (hc : 0 < r c) (hd : 0 < r d) : 0 < S.pw (alt c d j) r (nxt c d j) := by
  have p := S.pr c d h
  generalize hm : S.m c d = m at *
  generalize hx : S.w c d = x at *
  generalize hy : S.w d c = y at *
  cases p with
  | b0 =>
    rw [rank0 hx hy]
    have : 0 ≤ (j : Int) * r d := Int.mul_nonneg (by omega) (by omega)
    have : 0 < ((j : Int) + 1) * r c := Int.mul_pos (by omega) hc
    omega
  | b2 =>
    have : j = 0 ∨ j = 1 := by omega
    rcases this with rfl | rfl <;> simp [alt, Sys.pw, Sys.press, nxt, S.own, hx, hy] <;> omega
  | b3 =>
    have : j = 0 ∨ j = 1 ∨ j = 2 := by omega
    rcases this with rfl | rfl | rfl <;> simp [alt, Sys.pw, Sys.press, nxt, S.own, hx, hy] <;> omega
  | b4 =>
    have : j = 0 ∨ j = 1 ∨ j = 2 ∨ j = 3 := by omega
    rcases this with rfl | rfl | rfl | rfl <;> simp [alt, Sys.pw, Sys.press, nxt, S.own, hx, hy] <;> omega
  | b4' =>
    have : j = 0 ∨ j = 1 ∨ j = 2 ∨ j = 3 := by omega
    rcases this with rfl | rfl | rfl | rfl <;> simp [alt, Sys.pw, Sys.press, nxt, S.own, hx, hy] <;> omega
  | b6 =>
    have : j = 0 ∨ j = 1 ∨ j = 2 ∨ j = 3 ∨ j = 4 ∨ j = 5 := by omega
    rcases this with rfl | rfl | rfl | rfl | rfl | rfl <;> simp [alt, Sys.pw, Sys.press, nxt, S.own, hx, hy] <;> omega
  | b6' =>
    have : j = 0 ∨ j = 1 ∨ j = 2 ∨ j = 3 ∨ j = 4 ∨ j = 5 := by omega
    rcases this with rfl | rfl | rfl | rfl | rfl | rfl <;> simp [alt, Sys.pw, Sys.press, nxt, S.own, hx, hy] <;> omega
theorem alt_add : ∀ (i j c d : Nat), alt c d (i + j) = alt c d i ++ (if i % 2 = 0 then alt c d j else alt d c j)
  | 0, j, c, d => by simp [alt]
  | i + 1, j, c, d => by
    rw [show i + 1 + j = (i + j) + 1 by omega, alt, alt, alt_add i j d c]
    by_cases h : i % 2 = 0
    · rw [if_pos h, if_neg (by omega)]; rfl
    · rw [if_neg h, if_pos (by omega)]; rfl
/-- a letter behind a word that ends with it -/
theorem undo_end (v : Wd) (s : Nat) : Alike S (v ++ [s] ++ [s]) v := out_end v s
theorem ex_max (Q : Nat → Prop) (k : Nat) (hb : ∀ j, Q j → j ≤ k) {i : Nat} (h : Q i) : ∃ j, i ≤ j ∧ Q j ∧ ¬ Q (j + 1) := by
  suffices z : ∀ n i, k - i = n → Q i → ∃ j, i ≤ j ∧ Q j ∧ ¬ Q (j + 1) from z _ i rfl h
  intro n
  induction n with
  | zero => exact fun i e q => ⟨i, Nat.le_refl _, q, fun z => by have := hb _ z; omega⟩
  | succ n ih =>
    intro i e q
    by_cases z : Q (i + 1)
    · obtain ⟨j, a, b, c⟩ := ih (i + 1) (by omega) z
      exact ⟨j, by omega, b, c⟩
    · exact ⟨i, Nat.le_refl _, q, z⟩
/-- THE THEOREM: a letter that makes a shortest word longer has a number above 0 -/
theorem pos : ∀ (k : Nat) (u : Wd) (s : Nat), u.length = k → Short S u → ell S (u ++ [s]) = k + 1 → ∀ r : Rw, (∀ a, 0 < r a) → 0 < S.pw u r s := by
  intro k
  induction k using Nat.strongRecOn with
  | ind k ih =>
  intro u s hk hu hs r hr
  by_cases hz : k = 0
  · subst hz
    rw [List.length_eq_zero_iff.mp hk]
    exact hr s
  have hne : u ≠ [] := fun z => by rw [z] at hk; simp at hk; omega
  obtain ⟨u0, t, rfl⟩ : ∃ u0 t, u = u0 ++ [t] := ⟨u.dropLast, u.getLast hne, (List.dropLast_concat_getLast hne).symm⟩
  have hts : t ≠ s := fun z => by
    subst z
    have := ell_congr (S := S) (undo_end u0 t)
    have := ell_le (S := S) u0
    simp at hk
    omega
  simp at hk
  -- the longest stretch of s and t at the end
  obtain ⟨j, hj1, ⟨v, c, d, hcd, hal, hvj⟩, hmax⟩ := ex_max (fun j => ∃ v c d, ((c = s ∧ d = t) ∨ (c = t ∧ d = s)) ∧ Alike S (u0 ++ [t]) (v ++ alt c d j) ∧ v.length + j = k) k (fun j ⟨v, c, d, _, _, h⟩ => by omega) (i := 1) ⟨u0, t, s, .inr ⟨rfl, rfl⟩, .refl _, by omega⟩
  obtain ⟨i, rfl⟩ : ∃ i, j = i + 1 := ⟨j - 1, by omega⟩
  have ne : c ≠ d := by rcases hcd with ⟨rfl, rfl⟩ | ⟨rfl, rfl⟩ <;> first | exact hts | exact Ne.symm hts
  have sh : Short S (v ++ alt c d (i + 1)) := fun x a => by
    have := hu x (hal.trans a)
    simp at this ⊢
    omega
  have sv : Short S v := sh.pre
  have up : ∀ e, e = c ∨ e = d → ell S (v ++ [e]) = v.length + 1 := by
    intro e he
    rcases ell_step (S := S) v e with z | z
    · rw [z, ell_short sv]
    · exfalso
      rw [ell_short sv] at z
      obtain ⟨v', a1, a2, a3⟩ := ell_ex S (v ++ [e])
      have av : Alike S v (v' ++ [e]) := (undo_end v e).symm.trans (a1.right [e])
      have au : Alike S (u0 ++ [t]) (v' ++ [e] ++ alt c d (i + 1)) := hal.trans (av.right _)
      rcases he with rfl | rfl
      · have o := Alike.out (S := S) v' (alt d e i) e
        have := hu _ (au.trans (by simpa [alt] using o))
        simp at this
        omega
      · refine hmax ⟨v', e, c, ?_, ?_, ?_⟩
        · rcases hcd with ⟨rfl, rfl⟩ | ⟨rfl, rfl⟩ <;> simp
        · rw [List.append_assoc] at au
          exact au
        · omega
  have pc := ih v.length (by omega) v c rfl sv (up c (.inl rfl)) r hr
  have pd := ih v.length (by omega) v d rfl sv (up d (.inr rfl)) r hr
  have last : ∀ x y : Wd, Alike S (v ++ alt c d (i + 1)) (x ++ [s]) → x.length < k → False := fun x y a hl => by
    have h1 := (hal.trans a).right [s]
    have h2 := ell_congr (h1.trans (undo_end x s))
    have h3 := ell_le (S := S) x
    omega
  have hn : nxt c d (i + 1) = s := by
    apply Classical.byContradiction
    intro z
    have e : nxt c d i = s := by
      unfold nxt at *
      by_cases h : i % 2 = 0
      · rw [if_neg (by omega)] at z
        rw [if_pos h]
        rcases hcd with ⟨e1, e2⟩ | ⟨e1, e2⟩
        · exact e1
        · exact absurd e2 z
      · rw [if_pos (by omega)] at z
        rw [if_neg h]
        rcases hcd with ⟨e1, e2⟩ | ⟨e1, e2⟩
        · exact absurd e1 z
        · exact e2
    refine last (v ++ alt c d i) [] ?_ (by simp; omega)
    rw [alt_succ', e, ← List.append_assoc]
    exact .refl _
  have hm : S.m c d = 0 ∨ i + 1 < S.m c d := by
    by_cases h0 : S.m c d = 0
    · exact .inl h0
    refine .inr (Nat.lt_of_not_le fun hle => ?_)
    obtain ⟨q, hq⟩ : ∃ q, S.m c d = q + 1 := ⟨S.m c d - 1, by omega⟩
    have e := alt_add (i + 1 - S.m c d) (S.m c d) c d
    rw [show i + 1 - S.m c d + S.m c d = i + 1 by omega] at e
    by_cases hp : (i + 1 - S.m c d) % 2 = 0
    · rw [if_pos hp] at e
      have tn := Alike.turn (S := S) (v ++ alt c d (i + 1 - S.m c d)) [] c d ne
      simp only [List.append_nil] at tn
      have el : nxt d c q = s := by
        rw [← hn]; unfold nxt
        by_cases h : q % 2 = 0
        · rw [if_pos h, if_neg (by omega)]
        · rw [if_neg h, if_pos (by omega)]
      have e2 : alt d c (S.m c d) = alt d c q ++ [s] := by rw [hq, alt_succ', el]
      refine last (v ++ alt c d (i + 1 - S.m c d) ++ alt d c q) [] ?_ (by simp; omega)
      rw [e2] at tn
      rw [e, ← List.append_assoc]
      simpa using tn
    · rw [if_neg hp] at e
      have tn := Alike.turn (S := S) (v ++ alt c d (i + 1 - S.m c d)) [] d c (Ne.symm ne)
      simp only [List.append_nil] at tn
      rw [S.sym d c] at tn
      have el : nxt c d q = s := by
        rw [← hn]; unfold nxt
        by_cases h : q % 2 = 0
        · rw [if_pos h, if_pos (by omega)]
        · rw [if_neg h, if_neg (by omega)]
      have e2 : alt c d (S.m c d) = alt c d q ++ [s] := by rw [hq, alt_succ', el]
      refine last (v ++ alt c d (i + 1 - S.m c d) ++ alt c d q) [] ?_ (by simp; omega)
      rw [e2] at tn
      rw [e, ← List.append_assoc]
      simpa using tn
  have fin := rank2 (S := S) ne (i + 1) hm (S.pw v r) pc pd
  rw [hn, ← pw_append] at fin
  rw [hal.pw r]
  exact fin
def ones : Rw := fun _ => 1
def row (S : Sys) (u : Wd) : Rw := S.pw u ones
theorem row_snoc (u : Wd) (s : Nat) : row S (u ++ [s]) = S.press s (row S u) := by
  unfold row; rw [pw_append]; rfl
theorem Alike.row {u v : Wd} (h : Alike S u v) : row S u = row S v := h.pw ones
theorem row_pos {u : Wd} {s : Nat} (h : ell S (u ++ [s]) = ell S u + 1) : 0 < row S u s := by
  obtain ⟨v, a, b, c⟩ := ell_ex S u
  rw [a.row]
  refine pos v.length v s rfl b ?_ ones fun _ => by unfold ones; omega
  rw [← ell_congr (a.right [s]), h, c]
theorem row_neg {u : Wd} {s : Nat} (h : ell S u = ell S (u ++ [s]) + 1) : row S u s < 0 := by
  have e : row S u s = - row S (u ++ [s]) s := by
    rw [row_snoc]; simp only [Sys.press, S.own]; omega
  have := row_pos (S := S) (u := u ++ [s]) (s := s) (by rw [ell_congr (undo_end u s), h])
  omega
theorem row_pos_iff (u : Wd) (s : Nat) : 0 < row S u s ↔ ell S (u ++ [s]) = ell S u + 1 := by
  refine ⟨fun h => ?_, row_pos⟩
  rcases ell_step (S := S) u s with z | z
  · exact z
  · have := row_neg z; omega
theorem row_neg_iff (u : Wd) (s : Nat) : row S u s < 0 ↔ ell S u = ell S (u ++ [s]) + 1 := by
  refine ⟨fun h => ?_, row_neg⟩
  rcases ell_step (S := S) u s with z | z
  · have := row_pos z; omega
  · exact z
theorem row_ne (u : Wd) (s : Nat) : row S u s ≠ 0 := by
  rcases ell_step (S := S) u s with z | z
  · have := row_pos z; omega
  · have := row_neg z; omega
/-- a word that is not alike to the empty one has a letter below 0 -/
theorem ex_neg {u : Wd} (h : ell S u ≠ 0) : ∃ s, row S u s < 0 := by
  obtain ⟨v, a, b, c⟩ := ell_ex S u
  have hne : v ≠ [] := fun z => by rw [z] at c; simp at c; omega
  obtain ⟨v0, t, rfl⟩ : ∃ v0 t, v = v0 ++ [t] := ⟨v.dropLast, v.getLast hne, (List.dropLast_concat_getLast hne).symm⟩
  refine ⟨t, row_neg ?_⟩
  rcases ell_step (S := S) u t with z | z
  · have h1 := ell_congr ((a.right [t]).trans (undo_end v0 t))
    have h2 := ell_le (S := S) v0
    simp at c
    omega
  · exact z
theorem row_ones_alike {u : Wd} (h : ∀ s, 0 < row S u s) : Alike S u [] := by
  apply ell_zero
  apply Classical.byContradiction
  intro z
  obtain ⟨s, hs⟩ := ex_neg z
  have := h s
  omega
theorem alike_of_row {u v : Wd} (h : row S u = row S v) : Alike S u v := by
  have e : row S (u ++ v.reverse) = row S (v ++ v.reverse) := by
    unfold row at *; rw [pw_append, pw_append, h]
  have e2 : row S (u ++ v.reverse) = ones := by rw [e, (undo_right v).row]; rfl
  have a := row_ones_alike (S := S) (u := u ++ v.reverse) fun s => by rw [e2]; unfold ones; omega
  have b := a.right v
  have c := (undo_left (S := S) v).left u
  simp only [List.append_assoc, List.append_nil, List.nil_append] at b c
  exact c.symm.trans b
theorem alike_iff (u v : Wd) : Alike S u v ↔ row S u = row S v := ⟨Alike.row, alike_of_row⟩
end
end Cox

set_option Elab.async false
set_option linter.all false
namespace Cox
section
open Sys
variable {S : Sys}
/-! ### rows of n numbers; going back to ones -/
def lst (n : Nat) (r : Rw) : List Int := (List.range n).map r
@[simp] theorem lst_length (n : Nat) (r : Rw) : (lst n r).length = n := by simp [lst]
theorem lst_get {n b : Nat} (r : Rw) (h : b < n) : (lst n r)[b]? = some (r b) := by simp [lst, h]
theorem lst_getD {n b : Nat} (r : Rw) (h : b < n) (d : Int) : (lst n r).getD b d = r b := by simp [lst, h]
theorem lst_inj {n : Nat} {r r' : Rw} : lst n r = lst n r' ↔ ∀ b, b < n → r b = r' b := by
  constructor
  · intro h b hb
    have := congrArg (fun l => l[b]?) h
    simpa [lst, hb] using this
  · intro h
    exact List.map_congr_left fun b hb => h b (List.mem_range.mp hb)
/-- beyond n a row is 1 -/
def Out1 (n : Nat) (r : Rw) : Prop := ∀ b, n ≤ b → r b = 1
theorem lst_inj1 {n : Nat} {r r' : Rw} (h : Out1 n r) (h' : Out1 n r') : lst n r = lst n r' ↔ r = r' := by
  rw [lst_inj]
  constructor
  · intro e
    funext b
    by_cases hb : b < n
    · exact e b hb
    · rw [h b (by omega), h' b (by omega)]
  · intro e b _; rw [e]
def rwOf (l : List Int) : Rw := fun b => l.getD b 1
theorem lst_rwOf {l : List Int} {n : Nat} (h : l.length = n) : lst n (rwOf l) = l := by
  subst h
  apply List.ext_getElem
  · simp
  · intro i h1 h2
    simp [lst, rwOf, h2]
theorem rwOf_out {l : List Int} {n : Nat} (h : l.length = n) : Out1 n (rwOf l) := fun b hb => by
  simp [rwOf, List.getD, List.getElem?_eq_none (show l.length ≤ b by omega)]
theorem ones_out (n : Nat) : Out1 n ones := fun _ _ => rfl
/-- the letters below n -/
def Sys.Fin (S : Sys) (n : Nat) : Prop := ∀ a b, a < n → n ≤ b → S.w a b = 0
def Lts (n : Nat) (u : Wd) : Prop := ∀ a ∈ u, a < n
theorem Lts.app {n : Nat} {u v : Wd} (h : Lts n u) (g : Lts n v) : Lts n (u ++ v) := fun a ha => (List.mem_append.mp ha).elim (h a) (g a)
theorem Lts.rev {n : Nat} {u : Wd} (h : Lts n u) : Lts n u.reverse := fun a ha => h a (List.mem_reverse.mp ha)
theorem Lts.left {n : Nat} {u v : Wd} (h : Lts n (u ++ v)) : Lts n u := fun a ha => h a (List.mem_append.mpr (.inl ha))
theorem Lts.right {n : Nat} {u v : Wd} (h : Lts n (u ++ v)) : Lts n v := fun a ha => h a (List.mem_append.mpr (.inr ha))
theorem lts_nil (n : Nat) : Lts n [] := fun _ h => nomatch h
theorem lts_cons {n a : Nat} {u : Wd} : Lts n (a :: u) ↔ a < n ∧ Lts n u := by simp [Lts]
theorem Out1.press {n a : Nat} {r : Rw} (F : S.Fin n) (h : Out1 n r) (ha : a < n) : Out1 n (S.press a r) := fun b hb => by
  simp only [Sys.press, F a b ha hb, h b hb]; omega
theorem Out1.pw {n : Nat} {r : Rw} (F : S.Fin n) (h : Out1 n r) {u : Wd} (hu : Lts n u) : Out1 n (S.pw u r) := by
  induction u generalizing r with
  | nil => exact h
  | cons a u ih =>
    rw [lts_cons] at hu
    exact ih (h.press F hu.1) hu.2
theorem Out1.row {n : Nat} (F : S.Fin n) {u : Wd} (hu : Lts n u) : Out1 n (row S u) := (ones_out n).pw F hu
def belowN (n : Nat) (r : Rw) : Wd := (List.range n).filter fun b => decide (r b < 0)
theorem mem_belowN {n : Nat} {r : Rw} {b : Nat} : b ∈ belowN n r ↔ b < n ∧ r b < 0 := by simp [belowN]
theorem belowN_congr {n : Nat} {r r' : Rw} (h : lst n r = lst n r') : belowN n r = belowN n r' := by
  rw [lst_inj] at h
  unfold belowN
  apply List.filter_congr
  intro b hb
  rw [h b (List.mem_range.mp hb)]
/-- one letter below 0 after another, as it is picked -/
def und (S : Sys) (n : Nat) (pk : Wd → Nat) : Nat → Rw → Wd × Rw
  | 0, r => ([], r)
  | k + 1, r => if belowN n r = [] then ([], r) else
    let a := pk (belowN n r)
    let q := und S n pk k (S.press a r)
    (a :: q.1, q.2)
def Pick (pk : Wd → Nat) : Prop := ∀ l, l ≠ [] → pk l ∈ l
def hd (l : Wd) : Nat := l.headD 0
def lt (l : Wd) : Nat := l.getLastD 0
theorem pick_hd : Pick hd := fun l h => by
  cases l with
  | nil => exact absurd rfl h
  | cons a l => simp [hd]
theorem pick_lt : Pick lt := fun l h => by
  unfold lt
  rw [List.getLastD_eq_getLast?, List.getLast?_eq_some_getLast h]
  exact List.getLast_mem h
theorem und_facts {n : Nat} {pk : Wd → Nat} (hp : Pick pk) : ∀ (k : Nat) (r : Rw), (und S n pk k r).2 = S.pw (und S n pk k r).1 r ∧ (und S n pk k r).1.length ≤ k ∧ Lts n (und S n pk k r).1
  | 0, r => ⟨rfl, Nat.le_refl _, lts_nil n⟩
  | k + 1, r => by
    unfold und
    by_cases h : belowN n r = []
    · rw [if_pos h]; exact ⟨rfl, Nat.zero_le _, lts_nil n⟩
    · rw [if_neg h]
      have ih := und_facts (n := n) hp k (S.press (pk (belowN n r)) r)
      refine ⟨ih.1, ?_, ?_⟩
      · simp; exact ih.2.1
      · rw [lts_cons]; exact ⟨(mem_belowN.mp (hp _ h)).1, ih.2.2⟩
theorem belowN_nil_ones {n : Nat} (F : S.Fin n) {u : Wd} (hu : Lts n u) (h : belowN n (row S u) = []) : Alike S u [] := by
  apply row_ones_alike
  intro s
  by_cases hs : s < n
  · have := row_ne (S := S) u s
    have : ¬ row S u s < 0 := fun z => by
      have : s ∈ belowN n (row S u) := mem_belowN.mpr ⟨hs, z⟩
      rw [h] at this
      exact nomatch this
    omega
  · rw [Out1.row F hu s (by omega)]; omega
theorem und_row {n : Nat} (F : S.Fin n) {pk : Wd → Nat} (hp : Pick pk) : ∀ (k : Nat) (u : Wd), Lts n u → ell S u ≤ k → (und S n pk k (row S u)).1.length = ell S u ∧ (und S n pk k (row S u)).2 = ones ∧ Alike S (u ++ (und S n pk k (row S u)).1) []
  | 0, u, hu, h => by
    have z := ell_zero (S := S) (u := u) (by omega)
    refine ⟨?_, ?_, ?_⟩
    · show 0 = _; omega
    · show row S u = ones; rw [z.row]; rfl
    · show Alike S (u ++ []) []; rw [List.append_nil]; exact z
  | k + 1, u, hu, h => by
    unfold und
    by_cases hb : belowN n (row S u) = []
    · rw [if_pos hb]
      have z := belowN_nil_ones F hu hb
      refine ⟨?_, ?_, ?_⟩
      · show 0 = _; rw [ell_congr z, ell_nil]
      · show row S u = ones; rw [z.row]; rfl
      · show Alike S (u ++ []) []; rw [List.append_nil]; exact z
    · rw [if_neg hb]
      have m := mem_belowN.mp (hp _ hb)
      generalize pk (belowN n (row S u)) = a at *
      have e := (row_neg_iff u a).mp m.2
      have ih := und_row F hp k (u ++ [a]) (hu.app (by simpa [Lts] using m.1)) (by omega)
      rw [row_snoc] at ih
      refine ⟨?_, ih.2.1, ?_⟩
      · simp [ih.1, e]
      · simpa using ih.2.2
/-- the least shortest word -/
def least (S : Sys) (n : Nat) (u : Wd) : Wd := (und S n hd 60 (row S u.reverse)).1
theorem least_facts {n : Nat} (F : S.Fin n) {u : Wd} (hu : Lts n u) (h : ell S u ≤ 60) : Alike S (least S n u) u ∧ Short S (least S n u) ∧ (least S n u).length = ell S u ∧ Lts n (least S n u) := by
  have z := und_row F pick_hd 60 u.reverse hu.rev (by rw [ell_rev]; exact h)
  have f := und_facts (S := S) (n := n) pick_hd 60 (row S u.reverse)
  have a : Alike S (least S n u) u := by
    have z1 := z.2.2.left u
    have z2 := (undo_right (S := S) u).right (least S n u)
    simp only [List.append_nil, List.nil_append, List.append_assoc] at z1 z2
    exact z2.symm.trans z1
  have l : (least S n u).length = ell S u := by rw [← ell_rev]; exact z.1
  exact ⟨a, short_of_ell (by rw [ell_congr a, l]), l, f.2.2⟩
theorem least_congr {n : Nat} {u v : Wd} (h : Alike S u v) : least S n u = least S n v := by
  unfold least; rw [h.rev.row]
theorem und_congr_fuel {n : Nat} (F : S.Fin n) {pk : Wd → Nat} (hp : Pick pk) : ∀ (k k' : Nat) (u : Wd), Lts n u → ell S u ≤ k → ell S u ≤ k' → und S n pk k (row S u) = und S n pk k' (row S u)
  | 0, k', u, hu, h, h' => by
    have z := ell_zero (S := S) (u := u) (by omega)
    have b : belowN n (row S u) = [] := by
      rw [z.row]; unfold belowN row Sys.pw ones; simp
    cases k' with
    | zero => rfl
    | succ k' => unfold und; rw [if_pos b]
  | k + 1, k', u, hu, h, h' => by
    by_cases hb : belowN n (row S u) = []
    · cases k' with
      | zero => unfold und; rw [if_pos hb]
      | succ k' => unfold und; rw [if_pos hb, if_pos hb]
    · have m := mem_belowN.mp (hp _ hb)
      have e := (row_neg_iff u (pk (belowN n (row S u)))).mp m.2
      cases k' with
      | zero => omega
      | succ k' =>
        have ih := und_congr_fuel F hp k k' (u ++ [pk (belowN n (row S u))]) (hu.app (by simpa [Lts] using m.1)) (by omega) (by omega)
        unfold und
        rw [if_neg hb, if_neg hb]
        rw [row_snoc] at ih
        simp only [ih]
end
end Cox

set_option Elab.async false
set_option linter.all false
set_option maxRecDepth 100000
set_option maxHeartbeats 4000000
namespace BW
open PySem
/-! ### a run, statement by statement -/
def Runs (s : Sv) (e : Env) (h : AH) (Q : Fl → Prop) : Prop := Q (s e h)
def Fl.go (o : Fl) (k : Env → AH → Prop) (Q : Fl → Prop) : Prop := match o with
  | .nx e h => k e h
  | o => Q o
@[simp] theorem go_nx (e : Env) (h : AH) (k : Env → AH → Prop) (Q : Fl → Prop) : (Fl.nx e h).go k Q = k e h := nrfl rfl
@[simp] theorem go_ret (d : D) (h : AH) (k : Env → AH → Prop) (Q : Fl → Prop) : (Fl.ret d h).go k Q = Q (.ret d h) := nrfl rfl
@[simp] theorem go_exc (x : D) (e : Env) (h : AH) (k : Env → AH → Prop) (Q : Fl → Prop) : (Fl.exc x e h).go k Q = Q (.exc x e h) := nrfl rfl
theorem go_seq (o : Fl) (b : Sv) (Q : Fl → Prop) : Q (o.seq b) = o.go (fun e h => Runs b e h Q) Q := by cases o <;> rfl
/-- the first statement is worked out, the rest stays closed -/
theorem Runs.step {a b : Sv} {e : Env} {h : AH} {Q : Fl → Prop} (k : ∀ (K : Sv) (Q' : Fl → Prop), K = b → Q' = Q → (a e h).go (fun e h => Runs K e h Q') Q') : Runs (svSeq a b) e h Q := by
  have := k b Q rfl rfl
  rw [← go_seq] at this
  unfold Runs
  rw [svSeq_eq]
  exact this
theorem Runs.last {a : Sv} {e : Env} {h : AH} {Q : Fl → Prop} (k : ∀ (Q' : Fl → Prop), Q' = Q → Q' (a e h)) : Runs a e h Q := k Q rfl
theorem Runs.seq {a b : Sv} {e e' : Env} {h h' : AH} {Q : Fl → Prop} (ha : a e h = .nx e' h') (k : Runs b e' h' Q) : Runs (svSeq a b) e h Q := by
  unfold Runs; rw [seq_step ha]; exact k
theorem Runs.seqR {a b : Sv} {e : Env} {h : AH} {Q : Fl → Prop} (ha : Runs a e h fun o => o.go (fun e h => Runs b e h Q) Q) : Runs (svSeq a b) e h Q := by
  have z : (a e h).go (fun e h => Runs b e h Q) Q := ha
  rw [← go_seq] at z
  unfold Runs
  rw [svSeq_eq]
  exact z
theorem Runs.mono {a : Sv} {e : Env} {h : AH} {Q Q' : Fl → Prop} (ha : Runs a e h Q) (k : ∀ o, Q o → Q' o) : Runs a e h Q' := k _ ha
theorem Runs.asg {f : Ev} {i : Nat} {b : Sv} {e : Env} {h h1 : AH} {d : D} {Q : Fl → Prop} (hf : pv f e h = .ok d h1) (k : Runs b (e.set i (some d)) h1 Q) : Runs (svSeq (svAsg f (gvName i)) b) e h Q :=
  Runs.seq (by rw [svAsg_eq, hf, toFl_ok, gvName_eq, nxE_ok]) k
/-- a loop by what stays -/
theorem Runs.loop {iv : Iv} {g : Gv} {body b : Sv} {e : Env} {h h1 : AH} {it : Its} {Q : Fl → Prop} (P : Nat → Env → AH → Prop) (hi : iv e h = .ok it h1) (h0 : P 0 e h1)
    (hg : ∀ i e h, i ≤ it.xs.length → P i e h → guardOk it.g h = true)
    (hs : ∀ i d e h, it.xs[i]? = some d → P i e h → ∃ e1 h1, g d e h = .ok e1 h1 ∧ Runs body e1 h1 fun o => ∃ e2 h2, o = .nx e2 h2 ∧ P (i + 1) e2 h2)
    (k : ∀ e h, P it.xs.length e h → Runs b e h Q) : Runs (svSeq (svFor iv g body) b) e h Q := by
  obtain ⟨e', h', a, p⟩ := forGo_inv (g := it.g) (gv := g) (body := body) P it.xs hg (fun i d e h hd hp => by
    obtain ⟨e1, h1, a1, e2, h2, a2, a3⟩ := hs i d e h hd hp
    exact ⟨e1, h1, e2, h2, a1, a2, a3⟩) h0
  exact Runs.seq (by rw [svFor_eq, hi, toFl_ok]; exact a) (k e' h' p)
theorem Runs.loop1 {iv : Iv} {g : Gv} {body : Sv} {e : Env} {h h1 : AH} {it : Its} {Q : Fl → Prop} (P : Nat → Env → AH → Prop) (hi : iv e h = .ok it h1) (h0 : P 0 e h1)
    (hg : ∀ i e h, i ≤ it.xs.length → P i e h → guardOk it.g h = true)
    (hs : ∀ i d e h, it.xs[i]? = some d → P i e h → ∃ e1 h1, g d e h = .ok e1 h1 ∧ Runs body e1 h1 fun o => ∃ e2 h2, o = .nx e2 h2 ∧ P (i + 1) e2 h2)
    (k : ∀ e h, P it.xs.length e h → Q (.nx e h)) : Runs (svFor iv g body) e h Q := by
  obtain ⟨e', h', a, p⟩ := forGo_inv (g := it.g) (gv := g) (body := body) P it.xs hg (fun i d e h hd hp => by
    obtain ⟨e1, h1, a1, e2, h2, a2, a3⟩ := hs i d e h hd hp
    exact ⟨e1, h1, e2, h2, a1, a2, a3⟩) h0
  unfold Runs
  rw [svFor_eq, hi, toFl_ok, a]
  exact k e' h' p
/-- while, by what is left -/
theorem Runs.while {t : Tv} {body b : Sv} {Q : Fl → Prop} (P : Nat → Env → AH → Prop) (hs : ∀ i e h, P i e h → (∃ h1, t e h = .ok false h1 ∧ Runs b e h1 Q) ∨ (∃ h1 j, j < i ∧ t e h = .ok true h1 ∧ Runs body e h1 fun o => ∃ e2 h2, o = .nx e2 h2 ∧ P j e2 h2)) :
    ∀ (n i : Nat) (e : Env) (h : AH), i < n → P i e h → Runs (svSeq (svWhile t body n) b) e h Q
  | 0, _, _, _, z, _ => absurd z (Nat.not_lt_zero _)
  | n + 1, i, e, h, hn, p => by
    rcases hs i e h p with ⟨h1, e1, k⟩ | ⟨h1, j, hj, e1, e2, h2, e3, p2⟩
    · exact Runs.seq (by unfold svWhile; rw [e1, toFl_ok]; rfl) k
    · have ih := Runs.while P hs n j e2 h2 (by omega) p2
      unfold Runs at *
      rw [svSeq_eq] at *
      have e4 : svWhile t body (n + 1) e h = svWhile t body n e2 h2 := by
        conv => lhs; unfold svWhile
        rw [e1, toFl_ok, if_pos rfl, e3]
      rw [e4]; exact ih
theorem Runs.call {n : Nat} {body : Sv} {ds : List D} {h : AH} {o : Out D} (k : Runs body (startE n ds) h fun f => f.fin h = o) : fnD n body ds h = o := by
  rw [fnD_eq]; exact k
theorem Runs.callE {n : Nat} {body : Sv} {ds : List D} {h : AH} {P : Out D → Prop} (k : Runs body (startE n ds) h fun f => P (f.fin h)) : P (fnD n body ds h) := by
  rw [fnD_eq]; exact k
/-! ### comprehensions that leave the heap as it is -/
theorem evLc_ix {iv : Iv} {own : List Nat} {gv : Gv} {elt : Ev} {e : Env} {h : AH} (it : Its) (ys : List D) (hi : iv e h = .ok it h) (hl : ys.length = it.xs.length) (hn : it.xs.length < 16777216) (hg : guardOk it.g h = true)
    (hs : ∀ (i : Nat) (d y : D), it.xs[i]? = some d → ys[i]? = some y → ∃ e1, gv d (wipeE e own) h = .ok e1 h ∧ pv elt e1 h = .ok y h) : evLc iv own gv tvYes elt e h = .ok (.tl ys) h := by
  obtain ⟨us, h', a, b, c⟩ := lcGo_inv (g := it.g) (gv := gv) (tt := tvYes) (elt := elt) (e := wipeE e own) (fun i l h' => l = ys.take i ∧ h' = h) it.xs (fun _ _ _ _ z => by rw [z.2]; exact hg) (fun i d l h' hd ⟨z1, z2⟩ => by
    subst z2
    have il : i < it.xs.length := (List.getElem?_eq_some_iff.mp hd).1
    have iy : i < ys.length := by omega
    obtain ⟨e1, a1, a2⟩ := hs i d ys[i] hd (List.getElem?_eq_getElem iy)
    refine ⟨e1, _, a1, .inr ⟨_, ys[i], _, rfl, a2, ?_, rfl⟩⟩
    rw [z1, List.take_add_one, List.getElem?_eq_getElem iy]; rfl) (h := h) ⟨by simp, rfl⟩
  subst c
  rw [evLc_eq, hi, bind_ok, if_pos hn, a, bind_ok, b, ← hl, List.take_length]
theorem evLc_filter {iv : Iv} {own : List Nat} {gv : Gv} {tt : Tv} {elt : Ev} {e : Env} {h : AH} (it : Its) (p : D → Bool) (f : D → D) (hi : iv e h = .ok it h) (hn : it.xs.length < 16777216) (hg : guardOk it.g h = true)
    (hs : ∀ d ∈ it.xs, ∃ e1, gv d (wipeE e own) h = .ok e1 h ∧ tt e1 h = .ok (p d) h ∧ (p d = true → pv elt e1 h = .ok (f d) h)) : evLc iv own gv tt elt e h = .ok (.tl ((it.xs.filter p).map f)) h := by
  rw [evLc_eq, hi, bind_ok, if_pos hn, lcGo_pure p f it.xs hg hs, bind_ok]
theorem evLc_range {iv : Iv} {own : List Nat} {gv : Gv} {tt : Tv} {elt : Ev} {e : Env} {h : AH} (a : Int) (n : Nat) (p : Nat → Bool) (f : Nat → D) (hi : iv e h = .ok { xs := rangeD a n } h) (hn : n < 16777216)
    (hs : ∀ i, i < n → ∃ e1, gv (.int (a + (i : Nat))) (wipeE e own) h = .ok e1 h ∧ tt e1 h = .ok (p i) h ∧ (p i = true → pv elt e1 h = .ok (f i) h)) : evLc iv own gv tt elt e h = .ok (.tl (((List.range n).filter p).map f)) h := by
  rw [evLc_eq, hi, bind_ok, if_pos (by rw [rangeD_length]; exact hn), lcGo_range p f a n rfl hs, bind_ok]
theorem evLc_rangeM {iv : Iv} {own : List Nat} {gv : Gv} {elt : Ev} {e : Env} {h : AH} (a : Int) (n : Nat) (f : Nat → D) (hi : iv e h = .ok { xs := rangeD a n } h) (hn : n < 16777216)
    (hs : ∀ i, i < n → ∃ e1, gv (.int (a + (i : Nat))) (wipeE e own) h = .ok e1 h ∧ pv elt e1 h = .ok (f i) h) : evLc iv own gv tvYes elt e h = .ok (.tl ((List.range n).map f)) h := by
  rw [evLc_eq, hi, bind_ok, if_pos (by rw [rangeD_length]; exact hn), lcGo_rangeM f a n rfl hs, bind_ok]
theorem evLc_on {α : Type} {iv : Iv} {own : List Nat} {gv : Gv} {tt : Tv} {elt : Ev} {e : Env} {h : AH} (g : Option (Nat × AO)) (q : α → D) (p : α → Bool) (f : α → D) (l : List α) (hi : iv e h = .ok { xs := l.map q, g := g } h) (hn : l.length < 16777216) (hg : guardOk g h = true)
    (hs : ∀ a ∈ l, ∃ e1, gv (q a) (wipeE e own) h = .ok e1 h ∧ tt e1 h = .ok (p a) h ∧ (p a = true → pv elt e1 h = .ok (f a) h)) : evLc iv own gv tt elt e h = .ok (.tl ((l.filter p).map f)) h := by
  rw [evLc_eq, hi, bind_ok, if_pos (by rw [List.length_map]; exact hn), lcGo_on q p f l hg hs, bind_ok]
theorem evLc_onM {α : Type} {iv : Iv} {own : List Nat} {gv : Gv} {elt : Ev} {e : Env} {h : AH} (g : Option (Nat × AO)) (q : α → D) (f : α → D) (l : List α) (hi : iv e h = .ok { xs := l.map q, g := g } h) (hn : l.length < 16777216) (hg : guardOk g h = true)
    (hs : ∀ a ∈ l, ∃ e1, gv (q a) (wipeE e own) h = .ok e1 h ∧ pv elt e1 h = .ok (f a) h) : evLc iv own gv tvYes elt e h = .ok (.tl (l.map f)) h := by
  rw [evLc_eq, hi, bind_ok, if_pos (by rw [List.length_map]; exact hn), lcGo_onM q f l hg hs, bind_ok]
theorem kEnum_tup (xs : List D) (h : AH) : kEnum [.tup xs] h = .ok { xs := enumD xs } h := rfl
theorem st0 (n : Nat) (ds : List D) : startE n ds = ds.map some ++ List.replicate (n - ds.length) none := rfl
theorem ivR1_of {f : Ev} {e : Env} {h h1 : AH} {n : Nat} (hf : f e h = .ok (.int n) h1) (hn : n ≤ 1000000) : ivBy [f] kR1 e h = .ok { xs := rangeD 0 n } h1 := by
  rw [ivBy_eq, evs_cons, hf, bind_ok, evs_nil, bind_ok, bind_ok, kR1_at h1 (by omega) (by omega), Int.toNat_natCast]
theorem ivR1_ofI {f : Ev} {e : Env} {h h1 : AH} {n : Int} (hf : f e h = .ok (.int n) h1) (h0 : 0 ≤ n) (hn : n ≤ 1000000) : ivBy [f] kR1 e h = .ok { xs := rangeD 0 n.toNat } h1 := by
  rw [ivBy_eq, evs_cons, hf, bind_ok, evs_nil, bind_ok, bind_ok, kR1_at h1 (by omega) (by omega)]
theorem ivR2_of {f g : Ev} {e : Env} {h h1 h2 : AH} {a c : Int} {n : Nat} (hf : f e h = .ok (.int a) h1) (hg : g e h1 = .ok (.int c) h2) (ha : -1000000 ≤ a ∧ a ≤ 1000000) (hc : -1000000 ≤ c ∧ c ≤ 1000000) (hn : (c - a).toNat = n) : ivBy [f, g] kR2 e h = .ok { xs := rangeD a n } h2 := by
  rw [ivBy_eq, evs_cons, hf, bind_ok, evs_cons, hg, bind_ok, evs_nil, bind_ok, bind_ok, bind_ok, kR2_at h2 (by omega) (by omega) (by omega) (by omega), hn]
theorem ivSeq_of {f : Ev} {e : Env} {h h1 : AH} {d : D} {it : Its} (hf : f e h = .ok d h1) (hi : itsOf h1 d = some it) : ivSeq f e h = .ok it h1 := by
  rw [ivSeq_eq, hf, bind_ok, hi, its_some]
end BW

set_option Elab.async false
set_option linter.all false
set_option maxRecDepth 100000
set_option maxHeartbeats 4000000
namespace BW
open PySem Cox
/-! ### bonds as a system of weights -/
def pairK (v : Int) : Int × Int := if v = 2 then (0, 0) else if v = 3 then (1, 1) else if v = 4 then (1, 2) else if v = 6 then (1, 3) else (2, 2)
def wtK (v : Int) (lt : Bool) : Int := if lt then (pairK v).1 else (pairK v).2
def sysOf {n : Nat} {M : Nat → Nat → Int} (T : Tab n M) : Sys where
  m := fun a b => if a < n ∧ b < n ∧ a ≠ b then (M a b).toNat else 2
  w := fun a b => if a = b then -2 else if a < n ∧ b < n then wtK (M a b) (decide (a < b)) else 0
  own := fun a => by simp
  sym := fun a b => by
    by_cases h : a < n ∧ b < n ∧ a ≠ b
    · rw [if_pos h, if_pos ⟨h.2.1, h.1, Ne.symm h.2.2⟩, T.sym a b h.1 h.2.1]
    · rw [if_neg h, if_neg fun z => h ⟨z.2.1, z.1, Ne.symm z.2.2⟩]
  pr := fun a b hab => by
    by_cases h : a < n ∧ b < n
    · have k := T.kind a b h.1 h.2 hab
      have sy := T.sym a b h.1 h.2
      rw [if_pos ⟨h.1, h.2, hab⟩, if_neg hab, if_pos h, if_neg (Ne.symm hab), if_pos ⟨h.2, h.1⟩, ← sy]
      generalize M a b = v at *
      by_cases lt : a < b
      · have lt' : ¬ b < a := by omega
        rcases k with rfl | rfl | rfl | rfl | rfl <;> simp [wtK, pairK, lt, lt'] <;> constructor
      · have lt' : b < a := by omega
        rcases k with rfl | rfl | rfl | rfl | rfl <;> simp [wtK, pairK, lt, lt'] <;> constructor
    · rw [if_neg fun z => h ⟨z.1, z.2.1⟩, if_neg hab, if_neg h, if_neg (Ne.symm hab), if_neg fun z => h ⟨z.2, z.1⟩]
      constructor
theorem sysOf_fin {n : Nat} {M : Nat → Nat → Int} (T : Tab n M) : (sysOf T).Fin n := fun a b ha hb => by
  show (if a = b then -2 else if a < n ∧ b < n then wtK (M a b) (decide (a < b)) else 0) = 0
  rw [if_neg (by omega), if_neg (by omega)]
theorem sysOf_w {n : Nat} {M : Nat → Nat → Int} (T : Tab n M) {a b : Nat} (ha : a < n) (hb : b < n) (h : a ≠ b) : (sysOf T).w a b = wtK (M a b) (decide (a < b)) := by
  show (if a = b then -2 else if a < n ∧ b < n then wtK (M a b) (decide (a < b)) else 0) = _
  rw [if_neg h, if_pos ⟨ha, hb⟩]
theorem sysOf_m {n : Nat} {M : Nat → Nat → Int} (T : Tab n M) {a b : Nat} (ha : a < n) (hb : b < n) (h : a ≠ b) : (sysOf T).m a b = (M a b).toNat := by
  show (if a < n ∧ b < n ∧ a ≠ b then (M a b).toNat else 2) = _
  rw [if_pos ⟨ha, hb, h⟩]
theorem wtK_bd (v : Int) (b : Bool) : 0 ≤ wtK v b ∧ wtK v b ≤ 3 := by
  unfold wtK pairK
  split <;> (repeat' split) <;> omega
theorem w_bd (S : Sys) (a b : Nat) : -3 ≤ S.w a b ∧ S.w a b ≤ 3 := by
  by_cases h : a = b
  · subst h; rw [S.own]; omega
  · have p := S.pr a b h
    generalize S.w a b = x at *
    generalize S.w b a = y at *
    generalize S.m a b = m at *
    cases p <;> omega
/-! ### words -/
def wd (w : List Int) : Wd := w.map fun a => a.toNat - 1
def up (u : Wd) : List Int := u.map fun (a : Nat) => (a : Int) + 1
@[simp] theorem up_length (u : Wd) : (up u).length = u.length := by simp [up]
@[simp] theorem wd_length (w : List Int) : (wd w).length = w.length := by simp [wd]
theorem up_wd {n : Nat} {w : List Int} (h : Letters n w) : up (wd w) = w := by
  unfold up wd
  rw [List.map_map]
  conv => rhs; rw [← List.map_id w]
  apply List.map_congr_left
  intro a ha
  have := h a ha
  show ((a.toNat - 1 : Nat) : Int) + 1 = a
  omega
theorem wd_up (u : Wd) : wd (up u) = u := by
  unfold up wd
  rw [List.map_map]
  conv => rhs; rw [← List.map_id u]
  apply List.map_congr_left
  intro a _
  show ((a : Int) + 1).toNat - 1 = a
  omega
theorem wd_lts {n : Nat} {w : List Int} (h : Letters n w) : Lts n (wd w) := fun a ha => by
  obtain ⟨x, hx, rfl⟩ := List.mem_map.mp ha
  have := h x hx
  omega
theorem up_letters {n : Nat} {u : Wd} (h : Lts n u) : Letters n (up u) := fun a ha => by
  obtain ⟨x, hx, rfl⟩ := List.mem_map.mp ha
  have := h x hx
  omega
theorem wd_append (u v : List Int) : wd (u ++ v) = wd u ++ wd v := by simp [wd]
theorem wd_reverse (u : List Int) : wd u.reverse = (wd u).reverse := by simp [wd]
theorem up_append (u v : Wd) : up (u ++ v) = up u ++ up v := by simp [up]
theorem up_reverse (u : Wd) : up u.reverse = (up u).reverse := by simp [up]
theorem up_inj {u v : Wd} (h : up u = up v) : u = v := by rw [← wd_up u, h, wd_up]
theorem Letters.rev {n : Nat} {w : List Int} (h : Letters n w) : Letters n w.reverse := fun a ha => h a (List.mem_reverse.mp ha)
theorem Letters.app {n : Nat} {w v : List Int} (h : Letters n w) (g : Letters n v) : Letters n (w ++ v) := fun a ha => (List.mem_append.mp ha).elim (h a) (g a)
theorem Letters.take {n : Nat} {w : List Int} (h : Letters n w) (k : Nat) : Letters n (w.take k) := fun a ha => h a (List.mem_of_mem_take ha)
theorem Letters.drop {n : Nat} {w : List Int} (h : Letters n w) (k : Nat) : Letters n (w.drop k) := fun a ha => h a (List.mem_of_mem_drop ha)
/-! ### rows as values -/
def rowT (n : Nat) (r : Rw) : D := .tup ((lst n r).map .int)
@[simp] theorem promote_rowT (n : Nat) (r : Rw) (h : AH) : promote (rowT n r) h = .ok (rowT n r) h := nrfl rfl
theorem at0_lst {n b : Nat} (r : Rw) (h : b < n) : at0 (lst n r) b = r b := lst_getD r h 0
theorem ix_row {n : Nat} {r : Rw} {h : AH} {k : Int} (h0 : 0 ≤ k) (h1 : k < n) : opIx h (rowT n r) (.int k) = some (.int (r k.toNat)) := by
  unfold rowT
  rw [opIx_tup, atI_word h0 (by rw [lst_length]; exact h1), at0_lst r (by omega)]
@[simp] theorem fin_rowT (h : AH) (n : Nat) (r : Rw) : BW.fin h (rowT n r) h = .ok (rowT n r) h := fin_ints h _
theorem bw_is {h : AH} {b n : Nat} {M : Nat → Nat → Int} (T : Tab n M) (B : BondsAt h b n M) {a c : Int} (h1 : 1 ≤ a) (h2 : a ≤ n) (h3 : 1 ≤ c) (h4 : c ≤ n) : d_Bonds_weight [.ref b, .int a, .int c] h = .ok (.int ((sysOf T).w (a.toNat - 1) (c.toNat - 1))) h := by
  have n6 := T.n6
  by_cases hac : a = c
  · subst hac
    have e : (sysOf T).w (a.toNat - 1) (a.toNat - 1) = -2 := (sysOf T).own _
    simp [d_Bonds_weight, fnD_eq, meth_eq B, needLetter B h1 h2, e, evNeg]
  · have i1 : L2.atI (tabL n M) (a - 1) = some (.tup (rowD n (M (a.toNat - 1)))) := by
      refine atI_get (by omega) ?_
      rw [show (a - 1).toNat = a.toNat - 1 by omega]
      exact tabL_get M (by omega)
    have i2 : L2.atI (rowD n (M (a.toNat - 1))) (c - 1) = some (.int (M (a.toNat - 1) (c.toNat - 1))) := by
      refine atI_get (by omega) ?_
      rw [show (c - 1).toNat = c.toNat - 1 by omega]
      exact rowD_get _ (by omega)
    have kd := T.kind (a.toNat - 1) (c.toNat - 1) (by omega) (by omega) (by omega)
    have e := sysOf_w T (a := a.toNat - 1) (b := c.toNat - 1) (by omega) (by omega) (by omega)
    rw [e, show decide (a.toNat - 1 < c.toNat - 1) = decide (a < c) by simp; omega]
    generalize M (a.toNat - 1) (c.toNat - 1) = v at *
    have wg : ∀ (f : Ev) (e : Env), f e h = .ok (.int v) h → evWg [(2, [0, 0]), (3, [1, 1]), (4, [1, 2]), (6, [1, 3]), (0, [2, 2])] f e h = .ok (.kt [(pairK v).1, (pairK v).2]) h := by
      intro f e hf
      unfold evWg
      rw [hf, bind_ok]
      rcases kd with rfl | rfl | rfl | rfl | rfl <;> rfl
    have k0 : ∀ x y : Int, opIxK h (.kt [x, y]) (.int 0) = some (.int x) := fun _ _ => rfl
    have k1 : ∀ x y : Int, opIxK h (.kt [x, y]) (.int 1) = some (.int y) := fun _ _ => rfl
    have sl : ∀ (e : Env), evVar 0 e h = .ok (.ref b) h → evSlot "Bonds" (evVar 0) e h = .ok (.tup (tabL n M)) h := fun e he => slot_eq B he
    unfold d_Bonds_weight
    refine Runs.call ?_
    simp only [startE_eq, List.map_cons, List.map_nil, List.length_cons, List.length_nil, List.replicate, List.cons_append, List.nil_append]
    (refine Runs.step fun K Q' hK hQ => ?_; simp [meth_eq B, needLetter B h1 h2]; subst hK hQ)
    (refine Runs.step fun K Q' hK hQ => ?_; simp [meth_eq B, needLetter B h3 h4]; subst hK hQ)
    (refine Runs.step fun K Q' hK hQ => ?_; simp [hac]; subst hK hQ)
    have ww := wg (evOp opIx (evOp opIx (evSlot "Bonds" (evVar 0)) (evOp opSub (evVar 1) (evC (.int 1)))) (evOp opSub (evVar 2) (evC (.int 1)))) [some (.ref b), some (.int a), some (.int c), none] (by simp [sl, i1, i2])
    refine Runs.asg (by rw [pv_eq, ww, bind_ok]; rfl) ?_
    by_cases lt : a < c <;> (refine Runs.last fun Q' hQ => ?_; simp [k0, k1, lt, wtK]; subst hQ; try dsimp only) <;> simp [lt, wtK]
/-- the row behind a letter -/
theorem pressed_is {h : AH} {b n : Nat} {M : Nat → Nat → Int} (T : Tab n M) (B : BondsAt h b n M) (r : Rw) {a : Int} (h1 : 1 ≤ a) (h2 : a ≤ n) : d_pressed [.ref b, rowT n r, .int a] h = .ok (rowT n ((sysOf T).press (a.toNat - 1) r)) h := by
  have n6 := T.n6
  unfold d_pressed
  refine Runs.call ?_
  have ix := ix_row (r := r) (h := h) (k := a - 1) (by omega) (by omega : a - 1 < n)
  rw [show (a - 1).toNat = a.toNat - 1 by omega] at ix
  (simp only [startE_eq, List.map_cons, List.map_nil, List.length_cons, List.length_nil, List.replicate, List.cons_append, List.nil_append])
  (refine Runs.step fun K Q' hK hQ => ?_; simp [ix]; subst hK hQ)
  refine Runs.last fun Q' hQ => ?_
  rw [svRet_eq, evB_eq, evs_cons, evLc_ix { xs := enumD ((lst n r).map .int) } ((lst n ((sysOf T).press (a.toNat - 1) r)).map .int) (by simp [rowT, kEnum_tup]) (by simp) (by simp; omega) rfl]
  · subst hQ; simp [rowT]
  · intro i d y hd hy
    obtain ⟨x, hx, rfl⟩ := enumD_get hd
    have hi : i < n := by simpa using (List.getElem?_eq_some_iff.mp hx).1
    rw [List.getElem?_map, lst_get _ hi] at hx hy
    cases hx; cases hy
    have bw := bw_is T B (a := a) (c := (i : Int) + 1) h1 h2 (by omega) (by omega)
    rw [show ((i : Int) + 1).toNat - 1 = i by omega] at bw
    have bd := w_bd (sysOf T) (a.toNat - 1) i
    refine ⟨_, rfl, ?_⟩
    have m := sm1 (h := h) (a := (sysOf T).w (a.toNat - 1) i) (b := r (a.toNat - 1)) (by omega) (by omega)
    simp [wipeE, Tgt.own, meth_eq B, bw, m, Sys.press]
end BW

set_option Elab.async false
set_option linter.all false
set_option maxRecDepth 100000
set_option maxHeartbeats 4000000
namespace BW
open PySem Cox
section
variable {h : AH} {b n : Nat} {M : Nat → Nat → Int}
theorem lst_ones (n : Nat) : lst n ones = List.replicate n 1 := by
  unfold lst ones
  apply List.ext_getElem <;> simp
theorem start_is (T : Tab n M) (B : BondsAt h b n M) : d_start [.ref b] h = .ok (rowT n ones) h := by
  have n6 := T.n6
  unfold d_start
  refine Runs.call ?_
  (simp only [startE_eq, List.map_cons, List.map_nil, List.length_cons, List.length_nil, List.replicate, List.cons_append, List.nil_append])
  have ln := fun e (he : evVar 0 e h = .ok (.ref b) h) => lenO_eq B (by omega) (f := evVar 0) (e := e) (h0 := h) he
  have o := rep_one (h := h) T.n1 T.n6
  rw [← lst_ones] at o
  (refine Runs.last fun Q' hQ => ?_; simp [ln, o]; subst hQ; try dsimp only)
  simp only [fin_ret]; exact fin_ints h _
/-- a word stays in sight -/
theorem WordAt.its {d : D} {w : List Int} (W : WordAt h d w) : ∃ g, itsOf h d = some { xs := w.map .int, g := g } ∧ guardOk g h = true := by
  rcases W with rfl | ⟨k, rfl, e⟩
  · exact ⟨none, rfl, rfl⟩
  · exact ⟨_, itsOf_ref e, guardOk_some e⟩
theorem wd_take_succ {w : List Int} {i : Nat} {a : Int} (h : w[i]? = some a) : wd (w.take (i + 1)) = wd (w.take i) ++ [a.toNat - 1] := by
  rw [List.take_add_one, h, wd_append]; rfl
theorem rowby_is (T : Tab n M) (B : BondsAt h b n M) {d : D} {w : List Int} (W : WordAt h d w) (hw : Letters n w) : d_row_by [.ref b, d] h = .ok (rowT n (row (sysOf T) (wd w))) h := by
  unfold d_row_by
  refine Runs.call ?_
  (simp only [startE_eq, List.map_cons, List.map_nil, List.length_cons, List.length_nil, List.replicate, List.cons_append, List.nil_append])
  have pd := W.prom
  obtain ⟨g, ig, gg⟩ := W.its
  (refine Runs.step fun K Q' hK hQ => ?_; simp [start_is T B]; subst hK hQ)
  refine Runs.loop (h1 := h) (it := { xs := w.map .int, g := g }) (fun i e h' => h' = h ∧ ∃ x3, e = [some (.ref b), some d, some (rowT n (row (sysOf T) (wd (w.take i)))), x3]) (by simp [ig]) ⟨rfl, none, by simp [wd, row, Sys.pw]⟩ (fun i e h' _ z => by rw [z.1]; exact gg) ?_ ?_
  · rintro i x e h' hx ⟨rfl, x3, rfl⟩
    simp only [List.getElem?_map, Option.map_eq_some_iff] at hx
    obtain ⟨a, ha, rfl⟩ := hx
    have la := hw a (List.mem_of_getElem? ha)
    have p := pressed_is T B (row (sysOf T) (wd (w.take i))) la.1 la.2
    refine ⟨_, _, rfl, ?_⟩
    (refine Runs.last fun Q' hQ => ?_; simp [p]; subst hQ; try dsimp only)
    exact ⟨_, _, rfl, rfl, some (.int a), by rw [wd_take_succ ha, row_snoc]⟩
  · rintro e h' ⟨rfl, x3, rfl⟩
    (refine Runs.last fun Q' hQ => ?_; simp; subst hQ; try dsimp only)
    simp
theorem rowof_is (T : Tab n M) (B : BondsAt h b n M) {d : D} {w : List Int} (W : WordAt h d w) (hw : Letters n w) (hl : w.length ≤ 60) : d_row_of [.ref b, d] h = .ok (rowT n (row (sysOf T) (wd w))) h := by
  have n6 := T.n6
  unfold d_row_of
  refine Runs.call ?_
  (simp only [startE_eq, List.map_cons, List.map_nil, List.length_cons, List.length_nil, List.replicate, List.cons_append, List.nil_append])
  (refine Runs.step fun K Q' hK hQ => ?_; simp [W.prom, needWord B (by omega) W hw hl]; subst hK hQ)
  (refine Runs.last fun Q' hQ => ?_; simp [W.prom, rowby_is T B W hw]; subst hQ; try dsimp only)
  simp
theorem needRow_is (T : Tab n M) (B : BondsAt h b n M) (r : Rw) : d_need_row [.ref b, rowT n r] h = .ok .non h := by
  have n6 := T.n6
  unfold d_need_row
  refine Runs.call ?_
  (simp only [startE_eq, List.map_cons, List.map_nil, List.length_cons, List.length_nil, List.replicate, List.cons_append, List.nil_append])
  have ln := fun e (he : evVar 0 e h = .ok (.ref b) h) => lenO_eq B (by omega) (f := evVar 0) (e := e) (h0 := h) he
  have ty : tyD h (rowT n r) = some "tuple" := rfl
  have ty2 : isiD "tuple" "tuple" = true := by decide
  have lb : bLen h [rowT n r] = some (.int n) := by unfold rowT; simp
  refine Runs.last fun Q' hQ => ?_
  rw [svIf_eq]
  have lc : evLc (ivSeq (evVar 1)) (Tgt.own (.one 2)) (Tgt.gv (.one 2)) tvYes (evCall d_is_whole [(evVar 2)]) [some (.ref b), some (rowT n r), none] h = .ok (.tl (List.replicate n (.bl true))) h := by
    rw [evLc_ix { xs := (lst n r).map .int } (List.replicate n (.bl true)) (by simp [rowT]) (by simp) (by simp; omega) rfl]
    intro i d y hd hy
    rw [List.getElem?_map, Option.map_eq_some_iff] at hd
    obtain ⟨a, _, rfl⟩ := hd
    have : y = .bl true := by
      rw [List.getElem?_replicate] at hy
      split at hy <;> cases hy; rfl
    subst this
    exact ⟨_, rfl, by simp [wipeE, Tgt.own, isWhole_int]⟩
  have al : bAll h [.tl (List.replicate n (.bl true))] = some (.bl true) := by
    have : ∀ k, blsOf (List.replicate k (.bl true)) = some (List.replicate k true) := fun k => by
      induction k with
      | zero => rfl
      | succ k ih => rw [List.replicate_succ, blsOf, ih]; rfl
    simp [bAll, this]
  subst hQ
  simp [ty, ty2, lb, ln, lc, al, -evLc_eq]
/-- press, of a right row and a letter -/
theorem pressP_is (T : Tab n M) (B : BondsAt h b n M) (r : Rw) {a : Int} (h1 : 1 ≤ a) (h2 : a ≤ n) : d_press [.ref b, rowT n r, .int a] h = .ok (rowT n ((sysOf T).press (a.toNat - 1) r)) h := by
  unfold d_press
  refine Runs.call ?_
  (simp only [startE_eq, List.map_cons, List.map_nil, List.length_cons, List.length_nil, List.replicate, List.cons_append, List.nil_append])
  (refine Runs.step fun K Q' hK hQ => ?_; simp [needRow_is T B r]; subst hK hQ)
  (refine Runs.step fun K Q' hK hQ => ?_; simp [meth_eq B, needLetter B h1 h2]; subst hK hQ)
  (refine Runs.last fun Q' hQ => ?_; simp [pressed_is T B r h1 h2]; subst hQ; try dsimp only)
  simp
def upT (u : Wd) : D := .tup ((up u).map .int)
@[simp] theorem promote_upT (u : Wd) (h : AH) : promote (upT u) h = .ok (upT u) h := nrfl rfl
@[simp] theorem fin_upT (h : AH) (u : Wd) : BW.fin h (upT u) h = .ok (upT u) h := fin_ints h _
theorem below_is (n : Nat) (hn : n ≤ 1000) (r : Rw) (h : AH) : d_below [rowT n r] h = .ok (upT (belowN n r)) h := by
  unfold d_below
  refine Runs.call ?_
  (simp only [startE_eq, List.map_cons, List.map_nil, List.length_cons, List.length_nil, List.replicate, List.cons_append, List.nil_append])
  refine Runs.last fun Q' hQ => ?_
  have e : enumD ((lst n r).map .int) = (List.range n).map fun i => .tup [.int (i : Nat), .int (r i)] := by
    apply List.ext_getElem?
    intro i
    simp only [enumD, lst, List.getElem?_mapIdx, List.getElem?_map]
    by_cases hi : i < n
    · simp [hi]
    · simp [hi]
  rw [svRet_eq, evB_eq, evs_cons, evLc_on none (fun (i : Nat) => .tup [.int (i : Nat), .int (r i)]) (fun i => decide (r i < 0)) (fun (i : Nat) => .int ((i : Int) + 1)) (List.range n) (by simp [rowT, kEnum_tup, e]) (by simp; omega) rfl]
  · subst hQ
    have : ((List.range n).filter fun i => decide (r i < 0)).map (fun (i : Nat) => D.int ((i : Int) + 1)) = (up (belowN n r)).map .int := by unfold up belowN; rw [List.map_map]; rfl
    rw [this]
    simp [upT]
  · intro i hi
    exact ⟨_, rfl, by simp [wipeE, Tgt.own], fun _ => by simp [wipeE, Tgt.own]⟩
theorem hd_cons (a : Nat) (u : Wd) : hd (a :: u) = a := rfl
theorem upT_cons (a : Nat) (u : Wd) : up (a :: u) = ((a : Int) + 1) :: up u := rfl
theorem ne_nil_tup (u : List Int) (h : AH) : opNe h (.tup (u.map .int)) (.tup []) = some (.bl (!decide (u = []))) := by
  have := eqD_ints h u []
  unfold opNe
  rw [List.map_nil] at this
  rw [this]; rfl
theorem atI_last (xs : List D) (d : D) : L2.atI (xs ++ [d]) (-1) = some d := by
  unfold L2.atI L2.ixN
  have e : (-1 + (((xs.length + 1 : Nat)) : Int)).toNat = xs.length := by omega
  rw [if_neg (by omega), List.length_append, List.length_singleton, if_pos (by omega), e]
  simp
theorem ne_upT (u : Wd) (h : AH) : opNe h (upT u) (.tup []) = some (.bl (!decide (u = []))) := by
  have := ne_nil_tup (up u) h
  unfold upT
  rw [this]
  congr 3
  cases u <;> simp [up]
/-- how a row is led back: the letters, and what is left -/
theorem und_split (S : Sys) (n : Nat) (pk : Wd → Nat) : ∀ (k : Nat) (r : Rw), belowN n r ≠ [] → und S n pk (k + 1) r = (pk (belowN n r) :: (und S n pk k (S.press (pk (belowN n r)) r)).1, (und S n pk k (S.press (pk (belowN n r)) r)).2) := fun k r h => by
  conv => lhs; unfold und
  rw [if_neg h]
theorem und_stop (S : Sys) (n : Nat) (pk : Wd → Nat) : ∀ (k : Nat) (r : Rw), belowN n r = [] → und S n pk k r = ([], r) := fun k r h => by
  cases k with
  | zero => rfl
  | succ k => unfold und; rw [if_pos h]
theorem lst_eq_ones (T : Tab n M) {r : Rw} : opEq h (rowT n r) (rowT n ones) = some (.bl (decide (lst n r = lst n ones))) := by
  unfold opEq rowT
  rw [eqD_ints]; rfl
theorem undone_is (T : Tab n M) (B : BondsAt h b n M) (r : Rw) : d_undone [.ref b, rowT n r] h = .ok (if lst n (und (sysOf T) n hd 60 r).2 = lst n ones then upT (und (sysOf T) n hd 60 r).1 else .non) h := by
  have n6 := T.n6
  unfold d_undone
  refine Runs.call ?_
  (simp only [startE_eq, List.map_cons, List.map_nil, List.length_cons, List.length_nil, List.replicate, List.cons_append, List.nil_append])
  have h0 : (h ++ [AO.lst []])[h.length]? = some (.lst []) := by simp
  (refine Runs.step fun K Q' hK hQ => ?_; simp [setAll]; subst hK hQ)
  -- found so far, and the row here
  refine Runs.while (fun i e h' => ∃ (x : Wd) (r' : Rw), x.length + i = 60 ∧ (und (sysOf T) n hd 60 r) = (x ++ (und (sysOf T) n hd i r').1, (und (sysOf T) n hd i r').2) ∧ h' = h ++ [AO.lst ((up x).map .int)] ∧ e = [some (.ref b), some (rowT n r), some (.ref h.length), some (rowT n r')]) ?_ 100000 60 _ _ (by omega) ⟨[], r, rfl, by simp, by simp [up], rfl⟩
  rintro i e h' ⟨x, r', hx, hu, rfl, rfl⟩
  have B' : BondsAt (h ++ [AO.lst ((up x).map .int)]) b n M := B.app _
  have gx : (h ++ [AO.lst ((up x).map .int)])[h.length]? = some (.lst ((up x).map .int)) := by simp
  have bl := below_is n (by omega) r' (h ++ [AO.lst ((up x).map .int)])
  have nn := ne_upT (belowN n r') (h ++ [AO.lst ((up x).map .int)])
  have ln : bLen (h ++ [AO.lst ((up x).map .int)]) [.ref h.length] = some (.int x.length) := by rw [bLen_ref gx]; simp
  have stop : (belowN n r' = [] ∨ i = 0) → Runs (svRet (evIf (tvOf (evOp opEq (evVar 3) (evCall d_start [(evVar 0)]))) (evB bTuple [(evVar 2)]) (evC .non))) [some (.ref b), some (rowT n r), some (.ref h.length), some (rowT n r')] (h ++ [AO.lst ((up x).map .int)]) fun f => f.fin h = .ok (if lst n (und (sysOf T) n hd 60 r).2 = lst n ones then upT (und (sysOf T) n hd 60 r).1 else .non) h := by
    intro hz
    have e2 : und (sysOf T) n hd 60 r = (x, r') := by
      rw [hu]
      rcases hz with z | z
      · rw [und_stop _ _ _ _ _ z]; simp
      · subst z; simp [und]
    rw [e2]
    have bt : bTuple (h ++ [AO.lst ((up x).map .int)]) [.ref h.length] = some (.tup ((up x).map .int)) := bTuple_ref gx
    by_cases c : lst n r' = lst n ones
    · (refine Runs.last fun Q' hQ => ?_; simp [start_is T B', lst_eq_ones T, c, bt]; subst hQ; try dsimp only)
      rw [if_pos c, fin_ret]
      exact fin_pure _ rfl (lts_ints _ _)
    · (refine Runs.last fun Q' hQ => ?_; simp [start_is T B', lst_eq_ones T, c]; subst hQ; try dsimp only)
      rw [if_neg c, fin_ret]
      exact fin_pure _ rfl rfl
  by_cases c : belowN n r' = []
  · left
    refine ⟨_, ?_, stop (.inl c)⟩
    rw [decide_eq_true c] at nn
    simp [bl, nn]
  · by_cases ci : i = 0
    · left
      refine ⟨_, ?_, stop (.inr ci)⟩
      have : ¬ ((x.length : Int) < 60) := by omega
      simp [bl, nn, c, ln, this]
    · right
      have lt : (x.length : Int) < 60 := by omega
      refine ⟨h ++ [AO.lst ((up x).map .int)], i - 1, by omega, by simp [bl, nn, c, ln, lt], ?_⟩
      obtain ⟨a, u, hau⟩ : ∃ a u, belowN n r' = a :: u := by
        cases hb : belowN n r' with
        | nil => exact absurd hb c
        | cons a u => exact ⟨a, u, rfl⟩
      have an : a < n := (mem_belowN.mp (show a ∈ belowN n r' by rw [hau]; exact List.mem_cons_self)).1
      have ix0 : opIx (h ++ [AO.lst ((up x).map .int)]) (upT (belowN n r')) (.int 0) = some (.int ((a : Int) + 1)) := by
        rw [hau, upT, opIx_tup]; exact atI_get (by omega) (by simp [up])
      have ap := append_eq (f := evVar 2) (g := evOp opIx (evCall d_below [(evVar 3)]) (evC (.int 0))) (e := [some (.ref b), some (rowT n r), some (.ref h.length), some (rowT n r')]) (h := h ++ [AO.lst ((up x).map .int)]) (h1 := h ++ [AO.lst ((up x).map .int)]) (h2 := h ++ [AO.lst ((up x).map .int)]) (n := h.length) (d := .int ((a : Int) + 1)) (by simp) gx (by simp [bl, ix0]) gx (by simp; omega)
      have es : (up x).map D.int ++ [.int ((a : Int) + 1)] = (up (x ++ [a])).map .int := by simp [up]
      have hs : (h ++ [AO.lst ((up x).map .int)]).set h.length (.lst ((up (x ++ [a])).map .int)) = h ++ [.lst ((up (x ++ [a])).map .int)] := by simp
      rw [es, hs] at ap
      refine Runs.seq (by rw [svExpr_eq, ap, toFl_ok]) ?_
      have B2 : BondsAt (h ++ [AO.lst ((up (x ++ [a])).map .int)]) b n M := B.app _
      have g2 : (h ++ [AO.lst ((up (x ++ [a])).map .int)])[h.length]? = some (.lst ((up (x ++ [a])).map .int)) := by simp
      have ixl : opIx (h ++ [AO.lst ((up (x ++ [a])).map .int)]) (.ref h.length) (.int (-1)) = some (.int ((a : Int) + 1)) := by
        rw [opIx_ref g2]
        rw [← es]; exact atI_last _ _
      have pr := pressed_is T B2 r' (a := (a : Int) + 1) (by omega) (by omega)
      rw [show ((a : Int) + 1).toNat - 1 = a by omega] at pr
      (refine Runs.last fun Q' hQ => ?_; simp [evNeg, ixl, pr]; subst hQ; try dsimp only)
      refine ⟨_, _, rfl, x ++ [a], (sysOf T).press a r', by simp; omega, ?_, rfl, rfl⟩
      rw [hu]
      obtain ⟨j, rfl⟩ : ∃ j, i = j + 1 := ⟨i - 1, by omega⟩
      rw [und_split _ _ _ _ _ c, hau]
      simp [hd]
end
end BW

set_option Elab.async false
set_option linter.all false
set_option maxRecDepth 100000
set_option maxHeartbeats 4000000
namespace BW
open PySem Cox
@[simp] theorem evRev_eq (f : Ev) (e : Env) (h : AH) : evRev f e h = (f e h).bind fun x h1 => ofO (revD h1 x) h1 := nrfl rfl
@[simp] theorem revD_tup (h : AH) (xs : List D) : revD h (.tup xs) = some (.tup xs.reverse) := nrfl rfl
theorem revD_ref {h : AH} {k : Nat} {xs : List D} (e : h[k]? = some (.lst xs)) : revD h (.ref k) = some (.tl xs.reverse) := by simp [revD, lstOfR_ref e]
@[simp] theorem revD_tl (h : AH) (xs : List D) : revD h (.tl xs) = some (.tl xs.reverse) := nrfl rfl
@[simp] theorem revD_upT (h : AH) (u : Wd) : revD h (upT u) = some (upT u.reverse) := by
  unfold upT; rw [revD_tup, up_reverse, List.map_reverse]
@[simp] theorem bLen_upT (h : AH) (u : Wd) : bLen h [upT u] = some (.int u.length) := by unfold upT; simp
theorem upT_wd {n : Nat} {w : List Int} (hw : Letters n w) : upT (wd w) = .tup (w.map .int) := by unfold upT; rw [up_wd hw]
section
variable {h : AH} {b n : Nat} {M : Nat → Nat → Int}
theorem wordT (h : AH) (w : List Int) : WordAt h (.tup (w.map .int)) w := .inl rfl
theorem wordU (h : AH) (u : Wd) : WordAt h (upT u) (up u) := .inl rfl
/-- the row of a word that is led back -/
theorem undoneRow_is (T : Tab n M) (B : BondsAt h b n M) {u : Wd} (hu : Lts n u) (hl : ell (sysOf T) u ≤ 60) : d_undone [.ref b, rowT n (row (sysOf T) u)] h = .ok (upT (und (sysOf T) n hd 60 (row (sysOf T) u)).1) h := by
  rw [undone_is T B, (und_row (sysOf_fin T) pick_hd 60 u hu hl).2.1, if_pos rfl]
theorem ell60 (T : Tab n M) {w : List Int} (hl : w.length ≤ 60) : ell (sysOf T) (wd w) ≤ 60 := Nat.le_trans (ell_le _) (by simpa using hl)
theorem shortestBy_is (T : Tab n M) (B : BondsAt h b n M) {d : D} {w : List Int} (W : WordAt h d w) (hw : Letters n w) (hl : ell (sysOf T) (wd w) ≤ 60) : d_shortest_by [.ref b, d] h = .ok (upT (least (sysOf T) n (wd w))) h := by
  unfold d_shortest_by
  refine Runs.call ?_
  (simp only [startE_eq, List.map_cons, List.map_nil, List.length_cons, List.length_nil, List.replicate, List.cons_append, List.nil_append])
  have rb := rowby_is T B (wordT h w.reverse) hw.rev
  rw [wd_reverse] at rb
  have ud := undoneRow_is T B (wd_lts hw).rev (by rw [ell_rev]; exact hl)
  (refine Runs.last fun Q' hQ => ?_; simp [W.tup, ← List.map_reverse, rb, ud, W.prom]; subst hQ; try dsimp only)
  simp [least]
theorem leastWord_is (T : Tab n M) (B : BondsAt h b n M) {d : D} {w : List Int} (W : WordAt h d w) (hw : Letters n w) (hl : w.length ≤ 60) : d_least_word [.ref b, d] h = .ok (upT (least (sysOf T) n (wd w))) h := by
  have n6 := T.n6
  unfold d_least_word
  refine Runs.call ?_
  (simp only [startE_eq, List.map_cons, List.map_nil, List.length_cons, List.length_nil, List.replicate, List.cons_append, List.nil_append])
  (refine Runs.step fun K Q' hK hQ => ?_; simp [W.prom, needWord B (by omega) W hw hl]; subst hK hQ)
  (refine Runs.last fun Q' hQ => ?_; simp [W.prom, shortestBy_is T B W hw (ell60 T hl)]; subst hQ; try dsimp only)
  simp
theorem length_is (T : Tab n M) (B : BondsAt h b n M) {d : D} {w : List Int} (W : WordAt h d w) (hw : Letters n w) (hl : w.length ≤ 60) : d_length [.ref b, d] h = .ok (.int (ell (sysOf T) (wd w))) h := by
  have n6 := T.n6
  unfold d_length
  refine Runs.call ?_
  (simp only [startE_eq, List.map_cons, List.map_nil, List.length_cons, List.length_nil, List.replicate, List.cons_append, List.nil_append])
  have ud := undoneRow_is T B (wd_lts hw) (ell60 T hl)
  have le := (und_row (sysOf_fin T) pick_hd 60 (wd w) (wd_lts hw) (ell60 T hl)).1
  (refine Runs.step fun K Q' hK hQ => ?_; simp [W.prom, needWord B (by omega) W hw hl]; subst hK hQ)
  (refine Runs.last fun Q' hQ => ?_; simp [W.prom, rowby_is T B W hw, ud, le]; subst hQ; try dsimp only)
  simp
theorem isShortestBy_is (T : Tab n M) (B : BondsAt h b n M) {d : D} {w : List Int} (W : WordAt h d w) (hw : Letters n w) (hl : w.length ≤ 60) : d_is_shortest_by [.ref b, d] h = .ok (.bl (decide (ell (sysOf T) (wd w) = w.length))) h := by
  unfold d_is_shortest_by
  refine Runs.call ?_
  (simp only [startE_eq, List.map_cons, List.map_nil, List.length_cons, List.length_nil, List.replicate, List.cons_append, List.nil_append])
  have ud := undoneRow_is T B (wd_lts hw) (ell60 T hl)
  have le := (und_row (sysOf_fin T) pick_hd 60 (wd w) (wd_lts hw) (ell60 T hl)).1
  (refine Runs.last fun Q' hQ => ?_; simp [W.prom, rowby_is T B W hw, ud, le, W.len, Int.natCast_inj]; subst hQ; try dsimp only)
  simp
theorem isShortest_is (T : Tab n M) (B : BondsAt h b n M) {d : D} {w : List Int} (W : WordAt h d w) (hw : Letters n w) (hl : w.length ≤ 60) : d_is_shortest [.ref b, d] h = .ok (.bl (decide (ell (sysOf T) (wd w) = w.length))) h := by
  have n6 := T.n6
  unfold d_is_shortest
  refine Runs.call ?_
  (simp only [startE_eq, List.map_cons, List.map_nil, List.length_cons, List.length_nil, List.replicate, List.cons_append, List.nil_append])
  (refine Runs.step fun K Q' hK hQ => ?_; simp [W.prom, needWord B (by omega) W hw hl]; subst hK hQ)
  (refine Runs.last fun Q' hQ => ?_; simp [W.prom, isShortestBy_is T B W hw hl]; subst hQ; try dsimp only)
  simp
theorem lasts_is (T : Tab n M) (B : BondsAt h b n M) {d : D} {w : List Int} (W : WordAt h d w) (hw : Letters n w) (hl : w.length ≤ 60) : d_lasts [.ref b, d] h = .ok (upT (belowN n (row (sysOf T) (wd w)))) h := by
  have n6 := T.n6
  unfold d_lasts
  refine Runs.call ?_
  (simp only [startE_eq, List.map_cons, List.map_nil, List.length_cons, List.length_nil, List.replicate, List.cons_append, List.nil_append])
  (refine Runs.last fun Q' hQ => ?_; simp [W.prom, rowof_is T B W hw hl, below_is n (by omega)]; subst hQ; try dsimp only)
  simp
theorem firsts_is (T : Tab n M) (B : BondsAt h b n M) {d : D} {w : List Int} (W : WordAt h d w) (hw : Letters n w) (hl : w.length ≤ 60) : d_firsts [.ref b, d] h = .ok (upT (belowN n (row (sysOf T) (wd w).reverse))) h := by
  have n6 := T.n6
  unfold d_firsts
  refine Runs.call ?_
  (simp only [startE_eq, List.map_cons, List.map_nil, List.length_cons, List.length_nil, List.replicate, List.cons_append, List.nil_append])
  have rb := rowby_is T B (wordT h w.reverse) hw.rev
  rw [wd_reverse] at rb
  (refine Runs.step fun K Q' hK hQ => ?_; simp [W.prom, needWord B (by omega) W hw hl]; subst hK hQ)
  (refine Runs.last fun Q' hQ => ?_; simp [W.prom, W.tup, ← List.map_reverse, rb, below_is n (by omega)]; subst hQ; try dsimp only)
  simp
theorem eq_rowT (h : AH) (n : Nat) (r r' : Rw) : opEq h (rowT n r) (rowT n r') = some (.bl (decide (lst n r = lst n r'))) := by
  unfold opEq rowT
  rw [eqD_ints]; rfl
theorem ne_rowT (h : AH) (n : Nat) (r r' : Rw) : opNe h (rowT n r) (rowT n r') = some (.bl (!decide (lst n r = lst n r'))) := by
  unfold opNe rowT
  rw [eqD_ints]; rfl
theorem row_eq_iff (T : Tab n M) {u v : Wd} (hu : Lts n u) (hv : Lts n v) : lst n (row (sysOf T) u) = lst n (row (sysOf T) v) ↔ Alike (sysOf T) u v := by
  rw [lst_inj1 (Out1.row (sysOf_fin T) hu) (Out1.row (sysOf_fin T) hv), alike_iff]
open Classical in
theorem alike_is (T : Tab n M) (B : BondsAt h b n M) {d d' : D} {w w' : List Int} (W : WordAt h d w) (hw : Letters n w) (hl : w.length ≤ 60) (W' : WordAt h d' w') (hw' : Letters n w') (hl' : w'.length ≤ 60) : d_alike [.ref b, d, d'] h = .ok (.bl (decide (Alike (sysOf T) (wd w) (wd w')))) h := by
  have n6 := T.n6
  unfold d_alike
  refine Runs.call ?_
  (simp only [startE_eq, List.map_cons, List.map_nil, List.length_cons, List.length_nil, List.replicate, List.cons_append, List.nil_append])
  (refine Runs.step fun K Q' hK hQ => ?_; simp [W.prom, W'.prom, needWord B (by omega) W hw hl]; subst hK hQ)
  (refine Runs.step fun K Q' hK hQ => ?_; simp [W.prom, W'.prom, needWord B (by omega) W' hw' hl']; subst hK hQ)
  (refine Runs.last fun Q' hQ => ?_; simp [W.prom, W'.prom, rowby_is T B W hw, rowby_is T B W' hw', eq_rowT]; subst hQ; try dsimp only)
  rw [fin_ret]
  have := row_eq_iff T (wd_lts hw) (wd_lts hw')
  by_cases c : Alike (sysOf T) (wd w) (wd w')
  · rw [decide_eq_true c, decide_eq_true (this.mpr c)]; simp
  · rw [decide_eq_false c, decide_eq_false fun z => c (this.mp z)]; simp
end
end BW

set_option Elab.async false
set_option linter.all false
set_option maxRecDepth 100000
set_option maxHeartbeats 4000000
namespace BW
open PySem Cox
section
variable {h : AH} {r n : Nat} {M : Nat → Nat → Int}
theorem wD_pair {v : Int} (kv : Kd v) (h : AH) : dgD (h ++ [wD]) (.ref h.length) (.int v) = some (.tup [.int (pairK v).1, .int (pairK v).2]) := by
  have g : (h ++ [wD])[h.length]? = some wD := by simp
  have z : ∀ v, dgD (h ++ [wD]) (.ref h.length) (.int v) = valD [(.inl 2, D.tup [.int 0, .int 0]), (.inl 3, .tup [.int 1, .int 1]), (.inl 4, .tup [.int 1, .int 2]), (.inl 6, .tup [.int 1, .int 3]), (.inl 0, .tup [.int 2, .int 2])] (Sum.inl v : L2.Key) := fun v => by
    simp only [dgD, g]; rfl
  rw [z]
  rcases kv with rfl | rfl | rfl | rfl | rfl <;> rfl
theorem lweight_is (T : Tab n M) (R : RowsAt h r n M) {a b : Int} (h1 : 1 ≤ a) (h2 : a ≤ n) (h3 : 1 ≤ b) (h4 : b ≤ n) : d__law_weight [.ref r, .int a, .int b] h = .ok (.int ((sysOf T).w (a.toNat - 1) (b.toNat - 1))) h := by
  by_cases hab : a = b
  · subst hab
    rw [(sysOf T).own]
    simp [d__law_weight, fnD_eq]
  · have R' := R.app [wD]
    obtain ⟨k, i1, i2⟩ := R'.ix (i := a - 1) (by omega) (by omega)
    have i3 := i2 (b - 1) (by omega) (by omega)
    have kv : Kd (M (a - 1).toNat (b - 1).toNat) := T.kind _ _ (by omega) (by omega) (by omega)
    have e := sysOf_w T (a := a.toNat - 1) (b := b.toNat - 1) (by omega) (by omega) (by omega)
    rw [e, show decide (a.toNat - 1 < b.toNat - 1) = decide (a < b) by simp; omega, show a.toNat - 1 = (a - 1).toNat by omega, show b.toNat - 1 = (b - 1).toNat by omega]
    generalize M (a - 1).toNat (b - 1).toNat = v at *
    have gd := wD_pair kv h
    have fn : ∀ x : Int, BW.fin h (.int x) (h ++ [wD]) = .ok (.int x) h := fun x => fin_pure [wD] rfl rfl
    have d0 := disp_is [some (.ref r), some (.int a), some (.int b), none, none] h
    by_cases lt : a < b
    · simp [d__law_weight, fnD_eq, hab, d0, i1, i3, gd, lt, fn, wtK]
    · simp [d__law_weight, fnD_eq, hab, d0, i1, i3, gd, lt, fn, wtK]
theorem lpress_is (T : Tab n M) (R : RowsAt h r n M) (x : Rw) {a : Int} (h1 : 1 ≤ a) (h2 : a ≤ n) : d__law_press [.ref r, rowT n x, .int a] h = .ok (rowT n ((sysOf T).press (a.toNat - 1) x)) h := by
  have n6 := T.n6
  unfold d__law_press
  refine Runs.call ?_
  (simp only [startE_eq, List.map_cons, List.map_nil, List.length_cons, List.length_nil, List.replicate, List.cons_append, List.nil_append])
  refine Runs.last fun Q' hQ => ?_
  rw [svRet_eq, evB_eq, evs_cons, evLc_rangeM 0 n (fun i => .int ((sysOf T).press (a.toNat - 1) x i)) (ivR1_of (by simp [R.len]) (by omega)) (by omega)]
  · subst hQ
    have : (List.range n).map (fun i => D.int ((sysOf T).press (a.toNat - 1) x i)) = (lst n ((sysOf T).press (a.toNat - 1) x)).map .int := by unfold lst; rw [List.map_map]; rfl
    rw [this]
    simp [rowT]
  · intro i hi
    have bw := lweight_is T R (a := a) (b := (i : Int) + 1) h1 h2 (by omega) (by omega)
    rw [show ((i : Int) + 1).toNat - 1 = i by omega] at bw
    have bd := w_bd (sysOf T) (a.toNat - 1) i
    have m := sm1 (h := h) (a := (sysOf T).w (a.toNat - 1) i) (b := x (a.toNat - 1)) (by omega) (by omega)
    have x1 := ix_row (r := x) (h := h) (k := (i : Int)) (by omega) (by omega : (i : Int) < n)
    have x2 := ix_row (r := x) (h := h) (k := a - 1) (by omega) (by omega : a - 1 < n)
    rw [Int.toNat_natCast] at x1
    rw [show (a - 1).toNat = a.toNat - 1 by omega] at x2
    refine ⟨_, rfl, ?_⟩
    simp [wipeE, Tgt.own, Tgt.gv, bw, m, x1, x2, Sys.press]
theorem rep_oneT (T : Tab n M) (h : AH) : opMul h (.tup [.int 1]) (.int n) = some (rowT n ones) := by
  have o := rep_one (h := h) T.n1 T.n6
  rw [← lst_ones] at o
  exact o
theorem lrow_is (T : Tab n M) (R : RowsAt h r n M) {d : D} {w : List Int} (W : WordAt h d w) (hw : Letters n w) : d__law_row [.ref r, d] h = .ok (rowT n (row (sysOf T) (wd w))) h := by
  unfold d__law_row
  refine Runs.call ?_
  (simp only [startE_eq, List.map_cons, List.map_nil, List.length_cons, List.length_nil, List.replicate, List.cons_append, List.nil_append])
  obtain ⟨g, ig, gg⟩ := W.its
  (refine Runs.step fun K Q' hK hQ => ?_; simp [R.len, rep_oneT T]; subst hK hQ)
  refine Runs.loop (h1 := h) (it := { xs := w.map .int, g := g }) (fun i e h' => h' = h ∧ ∃ x3, e = [some (.ref r), some d, some (rowT n (row (sysOf T) (wd (w.take i)))), x3]) (by simp [ig]) ⟨rfl, none, by simp [wd, row, Sys.pw]⟩ (fun i e h' _ z => by rw [z.1]; exact gg) ?_ ?_
  · rintro i x e h' hx ⟨rfl, x3, rfl⟩
    simp only [List.getElem?_map, Option.map_eq_some_iff] at hx
    obtain ⟨a, ha, rfl⟩ := hx
    have la := hw a (List.mem_of_getElem? ha)
    have p := lpress_is T R (row (sysOf T) (wd (w.take i))) la.1 la.2
    refine ⟨_, _, rfl, ?_⟩
    (refine Runs.last fun Q' hQ => ?_; simp [p]; subst hQ; try dsimp only)
    exact ⟨_, _, rfl, rfl, some (.int a), by rw [wd_take_succ ha, row_snoc]⟩
  · rintro e h' ⟨rfl, x3, rfl⟩
    (refine Runs.last fun Q' hQ => ?_; simp; subst hQ; try dsimp only)
    simp
def upL (u : Wd) : D := .tl ((up u).map .int)
theorem bLen_rowT (h : AH) (n : Nat) (x : Rw) : bLen h [rowT n x] = some (.int n) := by unfold rowT; simp
/-- the letters below 0, as a new list -/
theorem lbelow_is (n : Nat) (hn : n ≤ 1000) (x : Rw) (h : AH) : d__law_below [rowT n x] h = .ok (.ref h.length) (h ++ [.lst ((up (belowN n x)).map .int)]) := by
  unfold d__law_below
  refine Runs.call ?_
  (simp only [startE_eq, List.map_cons, List.map_nil, List.length_cons, List.length_nil, List.replicate, List.cons_append, List.nil_append])
  refine Runs.last fun Q' hQ => ?_
  rw [svRet_eq, evLc_range 0 n (fun i => decide (x i < 0)) (fun (i : Nat) => .int ((i : Int) + 1)) (ivR1_of (by simp [bLen_rowT]) (by omega)) (by omega)]
  · subst hQ
    have : ((List.range n).filter fun i => decide (x i < 0)).map (fun (i : Nat) => D.int ((i : Int) + 1)) = (up (belowN n x)).map .int := by unfold up belowN; rw [List.map_map]; rfl
    rw [this]
    simp [BW.fin, D.lt]
  · intro i hi
    have x1 := ix_row (r := x) (h := h) (k := (i : Int)) (by omega) (by omega : (i : Int) < n)
    rw [Int.toNat_natCast] at x1
    exact ⟨_, rfl, by simp [wipeE, Tgt.own, Tgt.gv, x1], fun _ => by simp [wipeE, Tgt.own, Tgt.gv]⟩
end
end BW

set_option Elab.async false
set_option linter.all false
set_option maxRecDepth 100000
set_option maxHeartbeats 4000000
namespace BW
open PySem Cox
section
variable {h : AH} {r n : Nat} {M : Nat → Nat → Int}
theorem ne_lst {h : AH} {k : Nat} {u : List Int} (e : h[k]? = some (.lst (u.map .int))) : opNe h (.ref k) (.tl []) = some (.bl (!decide (u = []))) := by
  have e1 : dataK h 9 (.ref k) = some (.list (u.map .int)) := by
    show (match h[k]? with | some (.lst xs) => (allK (dataK h 8) xs).map PyData.list | _ => none) = _
    rw [e]
    simp only [dataK_ints]; rfl
  have e2 : dataK h 9 (.tl []) = some (.list []) := rfl
  unfold opNe eqD
  rw [e1, e2]
  have e3 : PyData.eqv (.list (u.map .int)) (.list []) = decide (u = []) := by
    have := eqvAll_ints u []
    simp only [PyData.eqv]
    exact this
  simp only [e3]; rfl
theorem up_eq_nil {u : Wd} : up u = [] ↔ u = [] := by cases u <;> simp [up]
theorem RowsAt.appc {h : AH} {r n : Nat} {M : Nat → Nat → Int} (R : RowsAt h r n M) (t : AH) : RowsAt (h ++ t) r n M := R.app t
/-- the law's own way back, the greatest letter first -/
theorem lundone_is (T : Tab n M) (R : RowsAt h r n M) (x : Rw) : ∃ t, d__law_undone [.ref r, rowT n x] h = .ok (.ref h.length) (h ++ .lst ((up (und (sysOf T) n lt 61 x).1).map .int) :: t) := by
  have n6 := T.n6
  unfold d__law_undone
  refine Runs.callE (P := fun o => ∃ t, o = .ok (.ref h.length) (h ++ .lst ((up (und (sysOf T) n lt 61 x).1).map .int) :: t)) ?_
  (simp only [startE_eq, List.map_cons, List.map_nil, List.length_cons, List.length_nil, List.replicate, List.cons_append, List.nil_append])
  (refine Runs.step fun K Q' hK hQ => ?_; simp [setAll]; subst hK hQ)
  refine Runs.while (fun i e h' => ∃ (u : Wd) (x' : Rw) (t : AH), u.length + i = 61 ∧ (und (sysOf T) n lt 61 x) = (u ++ (und (sysOf T) n lt i x').1, (und (sysOf T) n lt i x').2) ∧ h' = h ++ AO.lst ((up u).map .int) :: t ∧ e = [some (.ref r), some (rowT n x), some (.ref h.length), some (rowT n x')]) ?_ 100000 61 _ _ (by omega) ⟨[], x, [], rfl, by simp, by simp [up], rfl⟩
  rintro i e h' ⟨u, x', t, hx, hu, rfl, rfl⟩
  have bl := below_is n (by omega) x' (h ++ AO.lst ((up u).map .int) :: t)
  have lb := lbelow_is n (by omega) x' (h ++ AO.lst ((up u).map .int) :: t)
  generalize hh : h ++ AO.lst ((up u).map .int) :: t ++ [AO.lst ((up (belowN n x')).map .int)] = h1 at lb
  have hh' : h1 = h ++ AO.lst ((up u).map .int) :: (t ++ [AO.lst ((up (belowN n x')).map .int)]) := by rw [← hh]; simp
  have g1 : h1[(h ++ AO.lst ((up u).map .int) :: t).length]? = some (.lst ((up (belowN n x')).map .int)) := by rw [← hh]; simp
  have gu : h1[h.length]? = some (.lst ((up u).map .int)) := by rw [hh']; simp
  generalize hq : (h ++ AO.lst ((up u).map .int) :: t).length = q at lb g1
  have nn := ne_lst g1
  have ln : bLen h1 [.ref h.length] = some (.int u.length) := by rw [bLen_ref gu]; simp
  have stop : (belowN n x' = [] ∨ i = 0) → Runs (svRet (evVar 2)) [some (.ref r), some (rowT n x), some (.ref h.length), some (rowT n x')] h1 fun f => ∃ t, f.fin h = .ok (.ref h.length) (h ++ .lst ((up (und (sysOf T) n lt 61 x).1).map .int) :: t) := by
    intro hz
    have e2 : und (sysOf T) n lt 61 x = (u, x') := by
      rw [hu]
      rcases hz with z | z
      · rw [und_stop _ _ _ _ _ z]; simp
      · subst z; simp [und]
    rw [e2]
    (refine Runs.last fun Q' hQ => ?_; simp; subst hQ; try dsimp only)
    refine ⟨t ++ [AO.lst ((up (belowN n x')).map .int)], ?_⟩
    rw [fin_ret, hh']
    simp [BW.fin, D.lt]
  by_cases c : belowN n x' = []
  · left
    refine ⟨h1, ?_, stop (.inl c)⟩
    rw [decide_eq_true (up_eq_nil.mpr c)] at nn
    simp [lb, nn]
  · rw [decide_eq_false fun z => c (up_eq_nil.mp z)] at nn
    by_cases ci : i = 0
    · left
      refine ⟨h1, ?_, stop (.inr ci)⟩
      have : ¬ ((u.length : Int) < 61) := by omega
      simp [lb, nn, ln, this]
    · right
      have lt' : (u.length : Int) < 61 := by omega
      refine ⟨h1, i - 1, by omega, ?_, ?_⟩
      · simp [lb, nn, ln, lt']
      have lb2 := lbelow_is n (by omega) x' h1
      have an : lt (belowN n x') < n := (mem_belowN.mp (pick_lt _ c)).1
      generalize ha : lt (belowN n x') = a at *
      obtain ⟨v, hv⟩ : ∃ v, belowN n x' = v ++ [a] := by
        have hl : belowN n x' = (belowN n x').dropLast ++ [(belowN n x').getLast c] := (List.dropLast_concat_getLast c).symm
        refine ⟨(belowN n x').dropLast, ?_⟩
        rw [← ha]
        unfold lt
        rw [List.getLastD_eq_getLast?, List.getLast?_eq_some_getLast c]
        exact hl
      have g2 : (h1 ++ [AO.lst ((up (belowN n x')).map .int)])[h1.length]? = some (.lst ((up (belowN n x')).map .int)) := by simp
      have ixl : opIx (h1 ++ [AO.lst ((up (belowN n x')).map .int)]) (.ref h1.length) (.int (-1)) = some (.int ((a : Int) + 1)) := by
        rw [opIx_ref g2, hv, up_append, List.map_append]; exact atI_last _ _
      have gu2 : (h1 ++ [AO.lst ((up (belowN n x')).map .int)])[h.length]? = some (.lst ((up u).map .int)) := by
        rw [List.getElem?_append_left (List.getElem?_eq_some_iff.mp gu).1]; exact gu
      have ap := append_eq (f := evVar 2) (g := evOp opIx (evCall d__law_below [(evVar 3)]) (evNeg (evC (.int 1)))) (e := [some (.ref r), some (rowT n x), some (.ref h.length), some (rowT n x')]) (h := h1) (h1 := h1) (h2 := h1 ++ [AO.lst ((up (belowN n x')).map .int)]) (n := h.length) (d := .int ((a : Int) + 1)) (by simp) gu (by simp [lb2, evNeg, ixl]) gu2 (by simp; omega)
      have es : (up u).map D.int ++ [.int ((a : Int) + 1)] = (up (u ++ [a])).map .int := by simp [up]
      have hs : (h1 ++ [AO.lst ((up (belowN n x')).map .int)]).set h.length (.lst ((up (u ++ [a])).map .int)) = h ++ .lst ((up (u ++ [a])).map .int) :: (t ++ [AO.lst ((up (belowN n x')).map .int), AO.lst ((up (belowN n x')).map .int)]) := by
        rw [hh']; simp
      rw [es, hs] at ap
      refine Runs.seq (by rw [svExpr_eq, ap, toFl_ok]) ?_
      generalize t ++ [AO.lst ((up (belowN n x')).map .int), AO.lst ((up (belowN n x')).map .int)] = t2 at *
      have R2 : RowsAt (h ++ AO.lst ((up (u ++ [a])).map .int) :: t2) r n M := R.app _
      have g3 : (h ++ AO.lst ((up (u ++ [a])).map .int) :: t2)[h.length]? = some (.lst ((up (u ++ [a])).map .int)) := by simp
      have ix3 : opIx (h ++ AO.lst ((up (u ++ [a])).map .int) :: t2) (.ref h.length) (.int (-1)) = some (.int ((a : Int) + 1)) := by
        rw [opIx_ref g3, ← es]; exact atI_last _ _
      have pr := lpress_is T R2 x' (a := (a : Int) + 1) (by omega) (by omega)
      rw [show ((a : Int) + 1).toNat - 1 = a by omega] at pr
      (refine Runs.last fun Q' hQ => ?_; simp [evNeg, ix3, pr]; subst hQ; try dsimp only)
      refine ⟨_, _, rfl, u ++ [a], (sysOf T).press a x', t2, by simp; omega, ?_, rfl, rfl⟩
      rw [hu]
      obtain ⟨j, rfl⟩ : ∃ j, i = j + 1 := ⟨i - 1, by omega⟩
      rw [und_split _ _ _ _ _ c, ha]
      simp
end
end BW

set_option Elab.async false
set_option linter.all false
set_option maxRecDepth 100000
set_option maxHeartbeats 4000000
namespace BW
open PySem Cox
section
variable {h : AH} {r n : Nat} {M : Nat → Nat → Int}
theorem llength_is (T : Tab n M) (R : RowsAt h r n M) {d : D} {w : List Int} (W : WordAt h d w) (hw : Letters n w) (hl : w.length ≤ 60) : d__law_length [.ref r, d] h = .ok (.int (ell (sysOf T) (wd w))) h := by
  obtain ⟨t, ud⟩ := lundone_is T R (row (sysOf T) (wd w))
  have e := (und_row (sysOf_fin T) pick_lt 61 (wd w) (wd_lts hw) (Nat.le_succ_of_le (ell60 T hl))).1
  generalize (und (sysOf T) n lt 61 (row (sysOf T) (wd w))).1 = u at *
  have g : (h ++ AO.lst ((up u).map .int) :: t)[h.length]? = some (.lst ((up u).map .int)) := by simp
  have bl : bLen (h ++ AO.lst ((up u).map .int) :: t) [.ref h.length] = some (.int u.length) := by rw [bLen_ref g]; simp
  unfold d__law_length
  refine Runs.call ?_
  (simp only [startE_eq, List.map_cons, List.map_nil, List.length_cons, List.length_nil, List.replicate, List.cons_append, List.nil_append])
  (refine Runs.last fun Q' hQ => ?_; simp [W.prom, lrow_is T R W hw, ud, bl, e]; subst hQ; try dsimp only)
  rw [fin_ret]
  exact fin_pure _ rfl rfl
theorem ones_below (n : Nat) : belowN n ones = [] := by unfold belowN ones; simp
/-- the law's own least word -/
theorem lleast_is (T : Tab n M) (R : RowsAt h r n M) {w : List Int} (hw : Letters n w) (hl : w.length ≤ 1000) (he : ell (sysOf T) (wd w) ≤ 60) : d__law_least [.ref r, .tup (w.map .int)] h = .ok (upT (least (sysOf T) n (wd w))) h := by
  have n6 := T.n6
  have R0 := R.app [.lst []]
  have rw0 := lrow_is T R0 (wordT (h ++ [.lst []]) w.reverse) hw.rev
  rw [wd_reverse] at rw0
  have ur := und_row (sysOf_fin T) pick_hd (ell (sysOf T) (wd w)) (wd w).reverse (wd_lts hw).rev (by rw [ell_rev]; exact Nat.le_refl _)
  have cg := und_congr_fuel (sysOf_fin T) pick_hd (ell (sysOf T) (wd w)) 60 (wd w).reverse (wd_lts hw).rev (by rw [ell_rev]; exact Nat.le_refl _) (by rw [ell_rev]; exact he)
  have fin0 : least (sysOf T) n (wd w) = (und (sysOf T) n hd (ell (sysOf T) (wd w)) (row (sysOf T) (wd w).reverse)).1 := by unfold least; rw [cg]
  rw [fin0]
  generalize hK : ell (sysOf T) (wd w) = K at *
  generalize row (sysOf T) (wd w).reverse = x at *
  unfold d__law_least
  refine Runs.call ?_
  (simp only [startE_eq, List.map_cons, List.map_nil, List.length_cons, List.length_nil, List.replicate, List.cons_append, List.nil_append])
  (refine Runs.step fun K Q' hK hQ => ?_; simp [setAll, ← List.map_reverse, rw0]; subst hK hQ)
  refine Runs.while (fun i e h' => ∃ (u : Wd) (x' : Rw) (t : AH), u.length + i = K ∧ (und (sysOf T) n hd K x) = (u ++ (und (sysOf T) n hd i x').1, (und (sysOf T) n hd i x').2) ∧ h' = h ++ AO.lst ((up u).map .int) :: t ∧ e = [some (.ref r), some (.tup (w.map .int)), some (.ref h.length), some (rowT n x')]) ?_ 100000 K _ _ (by omega) ⟨[], x, [], by simp, by simp, by simp [up], rfl⟩
  rintro i e h' ⟨u, x', t, hx, hu, rfl, rfl⟩
  have lb := lbelow_is n (by omega) x' (h ++ AO.lst ((up u).map .int) :: t)
  generalize hh : h ++ AO.lst ((up u).map .int) :: t ++ [AO.lst ((up (belowN n x')).map .int)] = h1 at lb
  have hh' : h1 = h ++ AO.lst ((up u).map .int) :: (t ++ [AO.lst ((up (belowN n x')).map .int)]) := by rw [← hh]; simp
  have g1 : h1[(h ++ AO.lst ((up u).map .int) :: t).length]? = some (.lst ((up (belowN n x')).map .int)) := by rw [← hh]; simp
  have gu : h1[h.length]? = some (.lst ((up u).map .int)) := by rw [hh']; simp
  generalize hq : (h ++ AO.lst ((up u).map .int) :: t).length = q at lb g1
  have nn := ne_lst g1
  by_cases c : belowN n x' = []
  · left
    have e2 : und (sysOf T) n hd K x = (u, x') := by rw [hu, und_stop _ _ _ _ _ c]; simp
    rw [decide_eq_true (up_eq_nil.mpr c)] at nn
    refine ⟨h1, by simp [lb, nn], ?_⟩
    rw [e2]
    have bt : bTuple h1 [.ref h.length] = some (.tup ((up u).map .int)) := bTuple_ref gu
    (refine Runs.last fun Q' hQ => ?_; simp [bt]; subst hQ; try dsimp only)
    rw [fin_ret, hh']
    exact fin_pure _ rfl (lts_ints _ _)
  · rw [decide_eq_false fun z => c (up_eq_nil.mp z)] at nn
    have ci : i ≠ 0 := fun z => by
      subst z
      have : x' = ones := by have := ur.2.1; rw [hu] at this; simpa [und] using this
      rw [this] at c
      exact c (ones_below n)
    right
    refine ⟨h1, i - 1, by omega, by simp [lb, nn], ?_⟩
    have lb2 := lbelow_is n (by omega) x' h1
    have an : hd (belowN n x') < n := (mem_belowN.mp (pick_hd _ c)).1
    generalize ha : hd (belowN n x') = a at *
    obtain ⟨v, hv⟩ : ∃ v, belowN n x' = a :: v := by
      cases hb : belowN n x' with
      | nil => exact absurd hb c
      | cons z v => rw [hb] at ha; exact ⟨v, by rw [← ha]; rfl⟩
    have g2 : (h1 ++ [AO.lst ((up (belowN n x')).map .int)])[h1.length]? = some (.lst ((up (belowN n x')).map .int)) := by simp
    have ix0 : opIx (h1 ++ [AO.lst ((up (belowN n x')).map .int)]) (.ref h1.length) (.int 0) = some (.int ((a : Int) + 1)) := by
      rw [opIx_ref g2, hv]; exact atI_get (by omega) (by simp [up])
    have gu2 : (h1 ++ [AO.lst ((up (belowN n x')).map .int)])[h.length]? = some (.lst ((up u).map .int)) := by
      rw [List.getElem?_append_left (List.getElem?_eq_some_iff.mp gu).1]; exact gu
    have ap := append_eq (f := evVar 2) (g := evOp opIx (evCall d__law_below [(evVar 3)]) (evC (.int 0))) (e := [some (.ref r), some (.tup (w.map .int)), some (.ref h.length), some (rowT n x')]) (h := h1) (h1 := h1) (h2 := h1 ++ [AO.lst ((up (belowN n x')).map .int)]) (n := h.length) (d := .int ((a : Int) + 1)) (by simp) gu (by simp [lb2, ix0]) gu2 (by simp; omega)
    have es : (up u).map D.int ++ [.int ((a : Int) + 1)] = (up (u ++ [a])).map .int := by simp [up]
    have hs : (h1 ++ [AO.lst ((up (belowN n x')).map .int)]).set h.length (.lst ((up (u ++ [a])).map .int)) = h ++ .lst ((up (u ++ [a])).map .int) :: (t ++ [AO.lst ((up (belowN n x')).map .int), AO.lst ((up (belowN n x')).map .int)]) := by
      rw [hh']; simp
    rw [es, hs] at ap
    refine Runs.seq (by rw [svExpr_eq, ap, toFl_ok]) ?_
    generalize t ++ [AO.lst ((up (belowN n x')).map .int), AO.lst ((up (belowN n x')).map .int)] = t2 at *
    have R2 : RowsAt (h ++ AO.lst ((up (u ++ [a])).map .int) :: t2) r n M := R.app _
    have g3 : (h ++ AO.lst ((up (u ++ [a])).map .int) :: t2)[h.length]? = some (.lst ((up (u ++ [a])).map .int)) := by simp
    have ix3 : opIx (h ++ AO.lst ((up (u ++ [a])).map .int) :: t2) (.ref h.length) (.int (-1)) = some (.int ((a : Int) + 1)) := by
      rw [opIx_ref g3, ← es]; exact atI_last _ _
    have pr := lpress_is T R2 x' (a := (a : Int) + 1) (by omega) (by omega)
    rw [show ((a : Int) + 1).toNat - 1 = a by omega] at pr
    (refine Runs.last fun Q' hQ => ?_; simp [evNeg, ix3, pr]; subst hQ; try dsimp only)
    refine ⟨_, _, rfl, u ++ [a], (sysOf T).press a x', t2, by simp; omega, ?_, rfl, rfl⟩
    rw [hu]
    obtain ⟨j, rfl⟩ : ∃ j, i = j + 1 := ⟨i - 1, by omega⟩
    rw [und_split _ _ _ _ _ c, ha]
    simp
end
end BW

set_option Elab.async false
set_option linter.all false
set_option maxRecDepth 100000
set_option maxHeartbeats 4000000
namespace BW
open PySem Cox
/-! ### both ways give a value -/
theorem ite_okI (c : Prop) [Decidable c] (x y : Int) (h : AH) : (if c then Out.ok (D.int x) h else Out.ok (D.int y) h) = Out.ok (D.int (if c then x else y)) h := by split <;> rfl
theorem ite_ok (c : Prop) [Decidable c] (x y : D) (h : AH) : (if c then Out.ok x h else Out.ok y h) = Out.ok (if c then x else y) h := by split <;> rfl
/-! ### equal data -/
theorem allK_self {f : D → Option PyData} (hf : ∀ d p, f d = some p → PyData.eqv p p = true) : ∀ {xs : List D} {ps : List PyData}, allK f xs = some ps → PyData.eqvAll ps ps = true
  | [], _, e => by cases e; rfl
  | x :: xs, _, e => by
    unfold allK at e
    split at e
    · rename_i a as h1 h2
      cases e
      simp only [PyData.eqvAll, hf x a h1, allK_self hf h2, Bool.and_self]
    · cases e
theorem eqv_data {h : AH} : ∀ (n : Nat) (d : D) (p : PyData), dataK h n d = some p → PyData.eqv p p = true := by
  intro n
  induction n with
  | zero =>
    intro d p e
    cases d <;> simp only [dataK] at e <;> first | (cases e; simp [PyData.eqv]) | (split at e <;> cases e; simp [PyData.eqv]) | cases e
  | succ n ih =>
    intro d p e
    cases d <;> simp only [dataK] at e
    case non => cases e; simp [PyData.eqv]
    case bl => cases e; simp [PyData.eqv]
    case int => cases e; simp [PyData.eqv]
    case str => split at e <;> cases e; simp [PyData.eqv]
    case tup xs =>
      obtain ⟨ps, h1, rfl⟩ := Option.map_eq_some_iff.mp e
      simp only [PyData.eqv]; exact allK_self ih h1
    case tl xs =>
      obtain ⟨ps, h1, rfl⟩ := Option.map_eq_some_iff.mp e
      simp only [PyData.eqv]; exact allK_self ih h1
    case rl xs =>
      obtain ⟨ps, h1, rfl⟩ := Option.map_eq_some_iff.mp e
      simp only [PyData.eqv]; exact allK_self ih h1
    case ref k =>
      split at e
      · obtain ⟨ps, h1, rfl⟩ := Option.map_eq_some_iff.mp e
        simp only [PyData.eqv]; exact allK_self ih h1
      · cases e
    all_goals cases e
theorem eq_same {h : AH} {a b : D} {p : PyData} (ha : dataK h 9 a = some p) (hb : dataK h 9 b = some p) : opEq h a b = some (.bl true) := by
  unfold opEq eqD
  rw [ha, hb]
  simp [eqv_data _ _ _ ha]
theorem ne_same {h : AH} {a b : D} {p : PyData} (ha : dataK h 9 a = some p) (hb : dataK h 9 b = some p) : opNe h a b = some (.bl false) := by
  unfold opNe eqD
  rw [ha, hb]
  simp [eqv_data _ _ _ ha]
/-- two texts of the same data -/
theorem repr_same {h : AH} {a b : D} {p : PyData} {B : Nat} (ha : dataK h 9 a = some p) (hb : dataK h 9 b = some p) (hs : Shw B p) (hB : B ≤ 16777216) : ∃ s, bRepr h [a] = some (.str s) ∧ bRepr h [b] = some (.str s) ∧ ∀ h', opNe h' (.str s) (.str s) = some (.bl false) :=
  ⟨_, repr_of ha hs hB, repr_of hb hs hB, fun h' => repr_ne (h' := h') hs⟩
@[simp] theorem dataK_int (h : AH) (n : Nat) (i : Int) : dataK h n (.int i) = some (.int i) := by cases n <;> rfl
@[simp] theorem dataK_bl (h : AH) (n : Nat) (i : Bool) : dataK h n (.bl i) = some (.bool i) := by cases n <;> rfl
@[simp] theorem dataK_non (h : AH) (n : Nat) : dataK h n .non = some .none := by cases n <;> rfl
def wdP (u : Wd) : PyData := .tuple ((up u).map .int)
@[simp] theorem dataK_upT (h : AH) (n : Nat) (u : Wd) : dataK h (n + 1) (upT u) = some (wdP u) := dataK_word h n (up u)
theorem allK_two {f : D → Option PyData} {a b : D} {p q : PyData} (ha : f a = some p) (hb : f b = some q) : allK f [a, b] = some [p, q] := by
  simp [allK, ha, hb]
theorem dataK_tl (h : AH) (n : Nat) (xs : List D) : dataK h (n + 1) (.tl xs) = (allK (dataK h n) xs).map .list := rfl
theorem dataK_tp (h : AH) (n : Nat) (xs : List D) : dataK h (n + 1) (.tup xs) = (allK (dataK h n) xs).map .tuple := rfl
theorem log2_small {i : Int} {k : Nat} (h : i.natAbs < 2 ^ k) (hk : k ≤ 1920) (h0 : 0 < k) : i.natAbs.log2 < 1920 := by
  by_cases z : i.natAbs = 0
  · rw [z]; decide
  · exact Nat.lt_of_lt_of_le ((Nat.log2_lt z).mpr h) hk
theorem shw_int {i : Int} (h0 : -1000000 ≤ i) (h1 : i ≤ 1000000) : Shw 2000 (.int i) := .int (log2_small (k := 20) (by have : (2 : Nat) ^ 20 = 1048576 := rfl; omega) (by decide) (by decide)) (Nat.le_refl _)
theorem shw_wd {n : Nat} (hn : n ≤ 6) {u : Wd} (hu : Lts n u) (hl : u.length ≤ 100) : Shw 210000 (wdP u) := shw_word ((up_letters hu).bd hn) (by simpa using hl)
theorem Shw.two {B C : Nat} {p q : PyData} (hp : Shw B p) (hq : Shw B q) (hC : 2 * (B + 2) + 3 ≤ C) : Shw C (.list [p, q]) := .lst (B := B) (fun x hx => by
  simp only [List.mem_cons, List.not_mem_nil, or_false] at hx
  rcases hx with rfl | rfl <;> assumption) hC
/-! ### letters among letters -/
theorem allK_flat : ∀ w : List Int, allK flatD (w.map .int) = some (w.map .int)
  | [] => rfl
  | a :: w => by simp [allK, flatD, allK_flat w]
theorem in_word (h : AH) (a : Int) (w : List Int) : inD false h (.int a) (.tup (w.map .int)) = some (.bl (decide (a ∈ w))) := by
  unfold inD
  simp only [flatD, seqOf_tup, Option.bind_some, allK_flat]
  simp only [L2.inV, Bool.false_eq_true, if_false]
  congr 2
  rw [List.any_map]
  have : ((fun y => L2.eqV y (.int a)) ∘ L2.V.int) = fun b => b == a := by funext b; rfl
  rw [this]
  by_cases c : a ∈ w
  · rw [decide_eq_true c]; exact List.any_eq_true.mpr ⟨a, c, by simp⟩
  · rw [decide_eq_false c]
    rw [Bool.eq_false_iff]
    intro z
    obtain ⟨x, hx, e⟩ := List.any_eq_true.mp z
    have : x = a := by simpa using e
    exact c (this ▸ hx)
theorem mem_up {a : Int} {u : Wd} (h : 1 ≤ a) : a ∈ up u ↔ a.toNat - 1 ∈ u := by
  unfold up
  rw [List.mem_map]
  constructor
  · rintro ⟨x, hx, rfl⟩; rw [show ((x : Int) + 1).toNat - 1 = x by omega]; exact hx
  · intro hx; exact ⟨_, hx, by omega⟩
theorem in_upT (h : AH) {a : Int} (ha : 1 ≤ a) (u : Wd) : inD false h (.int a) (upT u) = some (.bl (decide (a.toNat - 1 ∈ u))) := by
  unfold upT
  rw [in_word]
  congr 3
  simp only [mem_up ha]
/-! ### how a turn begins -/
theorem Runs.par2 {f g : Ev} {i j : Nat} {b : Sv} {e : Env} {h h1 h2 : AH} {d d' : D} {Q : Fl → Prop} (hf : pv f e h = .ok d h1) (hg : pv g e h1 = .ok d' h2) (k : Runs b ((e.set i (some d)).set j (some d')) h2 Q) : Runs (svSeq (svPar [f, g] [i, j]) b) e h Q :=
  Runs.seq (by rw [svPar_eq, evsV_cons, hf, bind_ok, evsV_cons, hg, bind_ok, evsV_nil, bind_ok, bind_ok, toFl_ok]; rfl) k
theorem pv_call {d : Fd} {fs : List Ev} {e : Env} {h h1 h2 : AH} {ds : List D} {v : D} (ev : evsV fs e h = .ok ds h1) (hd : d ds h1 = .ok v h2) (hp : promote v h2 = .ok v h2) : pv (evCall d fs) e h = .ok v h2 := by
  rw [pv_eq, evCall_eq, ev, bind_ok, hd, bind_ok, hp]
/-- a table, its bonds and a word -/
theorem Runs.begin {rest : Sv} {x0 x3 x4 x5 : Option D} {ys : List (Option D)} {N most : Int} {h : AH} {Q : Fl → Prop} (I : MInv 2 0 3 N h) (hN : N ≤ 800000) (hl : 4 ≤ h.length) (m0 : 0 ≤ most) (m1 : most ≤ 60)
    (k : ∀ n M r b w h', (T : Tab n M) → RowsF 4 h' r n M → BondsAt h' b n M → 4 ≤ b → Letters n w → (w.length : Int) ≤ most → MInv 2 0 3 (N + 600) h' → 4 ≤ h'.length → Runs rest (x0 :: some (.ref 2) :: some (.int most) :: some (.ref r) :: some (.ref b) :: some (.tup (w.map .int)) :: ys) h' Q) :
    Runs (svSeq (svAsg (evCall d__law_table [(evVar 1), (evC (.int 6))]) (gvName 3)) (svSeq (svPar [(evMake "Bonds" d_Bonds___init__ [(evVar 3)]), (evCall d__law_word [(evVar 1), (evVar 3), (evVar 2)])] [4, 5]) rest)) (x0 :: some (.ref 2) :: some (.int most) :: x3 :: x4 :: x5 :: ys) h Q := by
  obtain ⟨r, n, M, hA, r1, T, nm, RA, IA, FA⟩ := table_is (most := 6) (lo := 4) I (by omega) (by omega) (by omega) (by omega) (by omega) (by omega) hl
  have lA : 4 ≤ hA.length := Nat.le_trans hl FA.len
  have mk := make_is RA.at_ T (f := evVar 3) (e := x0 :: some (.ref 2) :: some (.int most) :: some (.ref r) :: x4 :: x5 :: ys) (h0 := hA) (by simp)
  generalize hhB : hA ++ [AO.sins "Bonds" [some (.tup (tabL n M))]] = hB at *
  have FB : Frame 4 hA hB := by rw [← hhB]; exact Frame.app _ _ _
  have IB : MInv 2 0 3 (N + 100) hB := by rw [← hhB]; exact IA.app _
  have BB : BondsAt hB hA.length n M := by unfold BondsAt; rw [← hhB]; simp
  have RB := RA.frame FB (Nat.le_refl _)
  have lB : 4 ≤ hB.length := Nat.le_trans lA FB.len
  obtain ⟨w, hC, r2, Lw, wl, IC, FC⟩ := word_is (lo := 4) (most := most) IB (by omega) (by omega) (by omega) (by omega) lB RB T m0 (by omega)
  have RC := RB.frame FC (Nat.le_refl _)
  have BC : BondsAt hC hA.length n M := FC.at_ lA BB
  have lC : 4 ≤ hC.length := Nat.le_trans lB FC.len
  refine Runs.asg (pv_call (by simp) r1 rfl) ?_
  refine Runs.par2 (h1 := hB) (by simp only [List.set_cons_succ, List.set_cons_zero]; rw [pv_eq, mk, bind_ok]; rfl) (pv_call (by simp only [List.set_cons_succ, List.set_cons_zero]; simp) r2 rfl) ?_
  simp only [List.set_cons_succ, List.set_cons_zero]
  exact k n M r hA.length w hC T RC BC lA Lw wl (IC.mono (by omega)) lC
/-- the law's own frame: what is drawn from, the turns, and what comes behind -/
theorem Runs.law {n : Nat} {mosts : List Int} {fm : Ev} {body rest : Sv} {ns : List Int} (hn : ns.length ≤ 63) (n2 : 3 ≤ n) (hm : ∀ e h, fm e h = .ok (.tup (mosts.map .int)) h) (hl : mosts.length ≤ 100)
    (hb : ∀ (i : Nat) (most : Int) (ys : List (Option D)) (h : AH), mosts[i]? = some most → ys.length = n - 3 → MInv 2 0 3 (1000 * (i : Int)) h → 4 ≤ h.length →
      Runs body (some (.rl (ns.map .int)) :: some (.ref 2) :: some (.int most) :: ys) h fun o => ∃ y2 ys' h', o = .nx (some (.rl (ns.map .int)) :: some (.ref 2) :: y2 :: ys') h' ∧ ys'.length = n - 3 ∧ MInv 2 0 3 (1000 * (i : Int) + 1000) h' ∧ 4 ≤ h'.length)
    (hr : ∀ (y2 : Option D) (ys : List (Option D)) (h : AH), ys.length = n - 3 → MInv 2 0 3 (1000 * (mosts.length : Int)) h → 4 ≤ h.length → Runs rest (some (.rl (ns.map .int)) :: some (.ref 2) :: y2 :: ys) h fun o => ∃ h', o.fin [] = .ok (.bl true) h') :
    ∃ h', fnD n (svSeq (svAsg (evCall d__law_begun [(evVar 0)]) (gvName 1)) (svSeq (svFor (ivSeq fm) (gvName 2) body) rest)) [.rl (ns.map .int)] [] = .ok (.bl true) h' := by
  obtain ⟨h0, b1, I0, l0⟩ := begun_is ns hn
  refine Runs.callE (P := fun o => ∃ h', o = .ok (.bl true) h') ?_
  have es : startE n [.rl (ns.map .int)] = some (.rl (ns.map .int)) :: none :: none :: List.replicate (n - 3) none := by
    obtain ⟨k, rfl⟩ : ∃ k, n = k + 3 := ⟨n - 3, by omega⟩
    rw [startE_eq]
    simp [List.replicate_succ]
  rw [es]
  have pr : promote (D.rl (ns.map .int)) [] = .ok (D.rl (ns.map .int)) [] := rfl
  refine Runs.asg (pv_call (by simp [pr]) b1 rfl) ?_
  simp only [List.set_cons_succ, List.set_cons_zero]
  refine Runs.loop (fun i e h => ∃ y2 ys, e = some (.rl (ns.map .int)) :: some (.ref 2) :: y2 :: ys ∧ ys.length = n - 3 ∧ MInv 2 0 3 (1000 * (i : Int)) h ∧ 4 ≤ h.length) (ivSeq_of (hm _ _) (itsOf_tup _ _)) ⟨none, _, rfl, by simp, by simpa using I0, by omega⟩ (fun _ _ _ _ _ => rfl) ?_ ?_
  · rintro i d e h hd ⟨y2, ys, rfl, hy, I, l⟩
    simp only [List.getElem?_map, Option.map_eq_some_iff] at hd
    obtain ⟨most, hm', rfl⟩ := hd
    refine ⟨_, _, rfl, ?_⟩
    simp only [List.set_cons_succ, List.set_cons_zero]
    refine (hb i most ys h hm' hy I l).mono ?_
    rintro o ⟨y2', ys', h', rfl, hy', I', l'⟩
    exact ⟨_, _, rfl, y2', ys', rfl, hy', by rw [show 1000 * ((i + 1 : Nat) : Int) = 1000 * (i : Int) + 1000 by omega]; exact I', l'⟩
  · rintro e h ⟨y2, ys, rfl, hy, I, l⟩
    rw [List.length_map] at I
    exact hr y2 ys h hy I l
/-! ### a table that is written out -/
def litM (L : List (List Int)) : Nat → Nat → Int := fun i j => (L.getD i []).getD j 0
theorem litRows (L : List (List Int)) {n : Nat} (h : AH) (hL : L.length = n) (hr : ∀ row ∈ L, row.length = n) : RowsAt (h ++ (L.map (fun row => AO.lst (row.map .int)) ++ [.lst ((List.range n).map fun i => .ref (h.length + i))])) (h.length + n) n (litM L) := by
  refine ⟨(List.range n).map fun i => h.length + i, by simp, ?_, ?_, ?_, ?_⟩
  · rw [List.nodup_iff_pairwise_ne, List.pairwise_map]
    exact List.Pairwise.imp (fun {a b} (z : a ≠ b) e => z (Nat.add_left_cancel e)) (List.nodup_iff_pairwise_ne.mp List.nodup_range)
  · intro z
    obtain ⟨i, hi, e⟩ := List.mem_map.mp z
    have := List.mem_range.mp hi
    omega
  · rw [List.getElem?_append_right (by omega), List.getElem?_append_right (by simp; omega)]
    have : h.length + n - h.length - (L.map (fun row => AO.lst (row.map .int))).length = 0 := by simp; omega
    rw [this, List.map_map]; rfl
  · intro i k e
    rw [List.getElem?_map, Option.map_eq_some_iff] at e
    obtain ⟨j, hj, rfl⟩ := e
    obtain ⟨h1, h2⟩ := List.getElem?_eq_some_iff.mp hj
    simp at h1 h2
    subst h2
    have il : i < L.length := by omega
    rw [List.getElem?_append_right (by omega), List.getElem?_append_left (by simp; omega), show h.length + i - h.length = i by omega]
    rw [List.getElem?_map, List.getElem?_eq_getElem il]
    simp only [Option.map_some, Option.some.injEq, AO.lst.injEq]
    have rl := hr L[i] (List.getElem_mem il)
    unfold rowD litM
    apply List.ext_getElem
    · simp [rl]
    · intro j h3 h4
      simp at h3
      simp [il, h3]
theorem Tab.lit {n : Nat} {M : Nat → Nat → Int} (n1 : 1 ≤ n) (n6 : n ≤ 6) (k : ∀ i, i < n → ∀ j, j < n → (if i = j then M i j = 1 else M i j = 2 ∨ M i j = 3 ∨ M i j = 4 ∨ M i j = 6 ∨ M i j = 0) ∧ M i j = M j i) : Tab n M :=
  ⟨n1, n6, fun i hi => by have := (k i hi i hi).1; rwa [if_pos rfl] at this, fun i j hi hj h => by have := (k i hi j hj).1; rwa [if_neg h] at this, fun i j hi hj => (k i hi j hj).2⟩
end BW

set_option Elab.async false
set_option linter.all false
set_option maxRecDepth 100000
set_option maxHeartbeats 4000000
namespace BW
open PySem Cox
/-! ### deeds keep words alike -/
theorem stretch_in {a b x : Int} {k : Nat} (h : x ∈ stretchL a b k) : x = a ∨ x = b := by
  unfold stretchL at h
  obtain ⟨i, _, rfl⟩ := List.mem_map.mp h
  split
  · exact .inr rfl
  · exact .inl rfl
theorem moved_lets {n : Nat} {M : Nat → Nat → Int} {w l : List Int} {dd : Deed} (hw : Letters n w) (ok : dd.ok n w.length) (hm : movedL M w dd = some l) : Letters n l := by
  have tk : ∀ k, ∀ a ∈ w.take k, 1 ≤ a ∧ a ≤ (n : Int) := fun k a ha => hw a (List.mem_of_mem_take ha)
  have dr : ∀ k, ∀ a ∈ w.drop k, 1 ≤ a ∧ a ≤ (n : Int) := fun k a ha => hw a (List.mem_of_mem_drop ha)
  cases dd with
  | ins k a =>
    simp only [movedL, Option.some.injEq] at hm
    subst hm
    intro x hx
    simp only [List.mem_append, List.mem_cons, List.not_mem_nil, or_false] at hx
    rcases hx with (hx | hx) | hx
    · exact tk _ x hx
    · have : x = a := by rcases hx with hx | hx <;> exact hx
      subst this
      exact ok.2
    · exact dr _ x hx
  | out k =>
    simp only [movedL] at hm
    split at hm
    · cases hm
      intro x hx
      rcases List.mem_append.mp hx with hx | hx
      · exact tk _ x hx
      · exact dr _ x hx
    · cases hm
  | turn k =>
    simp only [movedL] at hm
    split at hm
    · rename_i hk
      split at hm
      · cases hm
        intro x hx
        rcases List.mem_append.mp hx with hx | hx
        · rcases List.mem_append.mp hx with hx | hx
          · exact tk _ x hx
          · rcases stretch_in hx with rfl | rfl
            · exact getD_letter hw hk.1
            · exact getD_letter hw (by omega)
        · exact dr _ x hx
      · cases hm
    · cases hm

theorem alt_get : ∀ (k a b i : Nat), i < k → (alt a b k)[i]? = some (if i % 2 = 1 then b else a)
  | 0, _, _, _, h => absurd h (Nat.not_lt_zero _)
  | k + 1, a, b, 0, _ => by simp [alt]
  | k + 1, a, b, i + 1, h => by
    rw [alt, List.getElem?_cons_succ, alt_get k b a i (by omega)]
    by_cases z : i % 2 = 1
    · rw [if_pos z, if_neg (by omega)]
    · rw [if_neg z, if_pos (by omega)]
theorem wd_stretch (a b : Int) (k : Nat) : wd (stretchL a b k) = alt (a.toNat - 1) (b.toNat - 1) k := by
  apply List.ext_getElem?
  intro i
  by_cases hi : i < k
  · rw [alt_get k _ _ i hi]
    unfold wd stretchL
    simp [hi]
    split <;> rfl
  · rw [List.getElem?_eq_none (by simp [stretchL]; omega), List.getElem?_eq_none (by simp; omega)]
theorem split_at {w : List Int} {k : Nat} (h : k + 1 < w.length) : w = w.take k ++ at0 w k :: at0 w (k + 1) :: w.drop (k + 2) := by
  have e1 : at0 w k = w[k] := by simp [at0, List.getD, show k < w.length by omega]
  have e2 : at0 w (k + 1) = w[k + 1] := by simp [at0, List.getD, h]
  rw [e1, e2]
  have h1 : w.drop k = w[k] :: w.drop (k + 1) := List.drop_eq_getElem_cons (by omega)
  have h2 : w.drop (k + 1) = w[k + 1] :: w.drop (k + 2) := List.drop_eq_getElem_cons h
  rw [← h2, ← h1, List.take_append_drop]
theorem moved_alike {n : Nat} {M : Nat → Nat → Int} (T : Tab n M) {w l : List Int} {dd : Deed} (hw : Letters n w) (ok : dd.ok n w.length) (hm : movedL M w dd = some l) : Alike (sysOf T) (wd w) (wd l) := by
  cases dd with
  | ins k a =>
    simp only [movedL, Option.some.injEq] at hm
    subst hm
    have o := Alike.out (S := sysOf T) (wd (w.take k)) (wd (w.drop k)) (a.toNat - 1)
    rw [← wd_append, List.take_append_drop] at o
    rw [wd_append, wd_append]
    simpa [wd] using o.symm
  | out k =>
    simp only [movedL] at hm
    split at hm
    · rename_i c
      cases hm
      have e := split_at c.1
      rw [← c.2] at e
      conv => arg 2; rw [e]
      rw [wd_append, wd_append]
      exact Alike.out (S := sysOf T) _ _ _
    · cases hm
  | turn k =>
    simp only [movedL] at hm
    split at hm
    · rename_i hk
      split at hm
      · rename_i c
        cases hm
        have l1 := getD_letter hw (k := k) (by omega)
        have l2 := getD_letter hw (k := k + 1) (by omega)
        generalize at0 w k = a at *
        generalize at0 w (k + 1) = b at *
        have ne : a.toNat - 1 ≠ b.toNat - 1 := by omega
        have m1 := sysOf_m T (a := a.toNat - 1) (b := b.toNat - 1) (by omega) (by omega) ne
        have tn := Alike.turn (S := sysOf T) (wd (w.take k)) (wd (w.drop (k + (M (a.toNat - 1) (b.toNat - 1)).toNat))) (a.toNat - 1) (b.toNat - 1) ne
        rw [m1] at tn
        generalize (M (a.toNat - 1) (b.toNat - 1)).toNat = m at *
        rw [wd_append, wd_append, wd_stretch]
        have e : w = w.take k ++ stretchL a b m ++ w.drop (k + m) := by
          rw [← c.2, List.append_assoc, ← List.drop_drop, List.take_append_drop, List.take_append_drop]
        conv => arg 2; rw [e]
        rw [wd_append, wd_append, wd_stretch]
        exact tn
      · cases hm
    · cases hm
/-! ### drawn items of a list -/
theorem draw4 {N : Int} {h : AH} {limit : Int} (I : MInv 2 0 3 N h) (hN : N ≤ 1000000) (h1 : 1 ≤ limit) (h2 : limit ≤ 10000000000000000000000000000000000000000) :
    ∃ d h', d__law_draw [.ref 2, .int limit] h = .ok (.int d) h' ∧ 0 ≤ d ∧ d < limit ∧ MInv 2 0 3 (N + 1) h' ∧ Frame 4 h h' ∧ h'.length = h.length := draw_is I hN h1 h2 (by omega) (by omega) (by omega)
theorem sample_is {N : Int} {h : AH} {K i m a : Nat} {Ki : Int} {q : Nat} {xs : List D} {e : Env} (I : MInv 2 0 3 N h) (hN : N + K ≤ 900000) (hq : 4 ≤ q) (g : h[q]? = some (.lst xs)) (hx : 0 < xs.length) (hl : xs.length ≤ 100000) (hK : K ≤ 1000) (hKi : Ki = K) (hm : e[m]? = some (some (.ref 2))) (ha : e[a]? = some (some (.ref q))) (im : i ≠ m) (ia : i ≠ a) (px : ∀ x ∈ xs, ∀ h', promote x h' = .ok x h') :
    ∃ ys h', evLc (ivBy [(evC (.int Ki))] kR1) (Tgt.own (.one i)) (Tgt.gv (.one i)) tvYes (evOp opIx (evVar a) (evCall d__law_draw [(evVar m), (evB bLen [(evVar a)])])) e h = .ok (.tl ys) h' ∧ ys.length = K ∧ (∀ y ∈ ys, y ∈ xs) ∧ MInv 2 0 3 (N + K) h' ∧ Frame 4 h h' ∧ h'.length = h.length := by
  subst hKi
  obtain ⟨ys, h', r, y1, y2, I', F', l'⟩ := lcGo_inv (g := none) (gv := Tgt.gv (.one i)) (tt := tvYes) (elt := evOp opIx (evVar a) (evCall d__law_draw [(evVar m), (evB bLen [(evVar a)])])) (e := wipeE e (Tgt.own (.one i))) (h := h)
    (fun j l h' => l.length = j ∧ (∀ y ∈ l, y ∈ xs) ∧ MInv 2 0 3 (N + j) h' ∧ Frame 4 h h' ∧ h'.length = h.length) (rangeD 0 K) (fun _ _ _ _ _ => rfl) (fun j d l h' hd ⟨z1, z2, z3, z4, z5⟩ => by
      obtain ⟨hj, rfl⟩ := rangeD_get hd
      have g' := z4.at_ hq g
      obtain ⟨dr, h2, r2, p1, p2, I2, F2, l2⟩ := draw4 (limit := xs.length) z3 (by omega) (by omega) (by omega)
      have g2 := F2.at_ hq g'
      have dl : dr.toNat < xs.length := by omega
      have ix : opIx h2 (.ref q) (.int dr) = some xs[dr.toNat] := by
        rw [opIx_ref g2]; exact atI_get p1 (List.getElem?_eq_getElem dl)
      have lb : bLen h' [.ref q] = some (.int xs.length) := bLen_ref g'
      refine ⟨_, _, rfl, .inr ⟨_, xs[dr.toNat], h2, rfl, ?_, by simp [z1], ?_, by rw [show N + ((j + 1 : Nat) : Int) = N + j + 1 by omega]; exact I2, z4.trans F2, by omega⟩⟩
      · have em : ((e.set i none).set i (some (D.int (0 + (j : Int)))))[m]? = some (some (.ref 2)) := by
          rw [List.getElem?_set_ne im, List.getElem?_set_ne im]; exact hm
        have ea : ((e.set i none).set i (some (D.int (0 + (j : Int)))))[a]? = some (some (.ref q)) := by
          rw [List.getElem?_set_ne ia, List.getElem?_set_ne ia]; exact ha
        have pr := px xs[dr.toNat] (List.getElem_mem dl) h2
        simp only [Tgt.own, wipeE, Tgt.gv, gvName_eq, pv_eq, evOp_eq, evVar_eq, ea, em, ofV_some, bind_ok, evCall_eq, evsV_cons, evsV_nil, evB_eq, evs_cons, evs_nil, lb, ofO_some2, promote_ref, promote_int, r2, ix, pr]
      · intro y hy
        rcases List.mem_append.mp hy with z | z
        · exact z2 y z
        · rw [List.mem_singleton.mp z]; exact List.getElem_mem dl) ⟨rfl, (by intro y hy; simp at hy), (by simpa using I), Frame.refl _ _, rfl⟩
  rw [rangeD_length] at y1 I'
  refine ⟨ys, h', ?_, y1, y2, I', F', l'⟩
  rw [evLc_eq, ivR1_of (n := K) (h1 := h) (by simp) (by omega), bind_ok, if_pos (by rw [rangeD_length]; omega), r, bind_ok]
end BW

set_option Elab.async false
set_option linter.all false
set_option maxRecDepth 100000
set_option maxHeartbeats 4000000
namespace BW
open PySem Cox
/-! ### drawn numbers in a row -/
theorem evLc_ints {iv : Iv} {own : List Nat} {gv : Gv} {elt : Ev} {e : Env} {h h0 : AH} {N : Int} (c : Nat) (P : Int → Prop) (it : Its) (hi : iv e h0 = .ok it h) (hn : it.xs.length ≤ 1000) (hc : c ≤ 100) (hg : ∀ h', Frame 4 h h' → guardOk it.g h' = true) (I : MInv 2 0 3 N h) (hN : N ≤ 700000)
    (hs : ∀ d ∈ it.xs, ∀ h' N', MInv 2 0 3 N' h' → N' ≤ 900000 → Frame 4 h h' → ∃ e1 v h2, gv d (wipeE e own) h' = .ok e1 h' ∧ pv elt e1 h' = .ok (.int v) h2 ∧ MInv 2 0 3 (N' + c) h2 ∧ Frame 4 h' h2 ∧ P v) :
    ∃ (vs : List Int) (h' : AH), evLc iv own gv tvYes elt e h0 = .ok (.tl (vs.map .int)) h' ∧ vs.length = it.xs.length ∧ MInv 2 0 3 (N + c * it.xs.length) h' ∧ Frame 4 h h' ∧ ∀ v ∈ vs, P v := by
  have cl : ∀ j, j ≤ it.xs.length → c * j ≤ 100000 := fun j hj => Nat.le_trans (Nat.mul_le_mul hc (Nat.le_trans hj hn)) (by decide)
  obtain ⟨ys, h', r, vs, rfl, y1, I', F', pv'⟩ := lcGo_inv (g := it.g) (gv := gv) (tt := tvYes) (elt := elt) (e := wipeE e own) (h := h)
    (fun j l h' => ∃ vs : List Int, l = vs.map .int ∧ vs.length = j ∧ MInv 2 0 3 (N + ((c * j : Nat) : Int)) h' ∧ Frame 4 h h' ∧ ∀ v ∈ vs, P v) it.xs (fun j l h' _ ⟨_, _, _, _, F, _⟩ => hg h' F) (fun j d l h' hd ⟨vs, z1, z2, z3, z4, z5⟩ => by
      have hj : j < it.xs.length := (List.getElem?_eq_some_iff.mp hd).1
      have := cl j (by omega)
      obtain ⟨e1, v, h2, a1, a2, a3, a4, a5⟩ := hs d (List.mem_of_getElem? hd) h' _ z3 (by omega) z4
      refine ⟨e1, h', a1, .inr ⟨h', .int v, h2, rfl, a2, vs ++ [v], by simp [z1], by simp [z2], ?_, z4.trans a4, ?_⟩⟩
      · have e : ((c * (j + 1) : Nat) : Int) = ((c * j : Nat) : Int) + c := by rw [Nat.mul_succ]; omega
        rw [e, ← Int.add_assoc]; exact a3
      · intro x hx
        rcases List.mem_append.mp hx with q | q
        · exact z5 x q
        · rw [List.mem_singleton.mp q]; exact a5) ⟨[], rfl, rfl, by simpa using I, Frame.refl _ _, by intro v hv; simp at hv⟩
  refine ⟨vs, h', ?_, y1, by simpa using I', F', pv'⟩
  rw [evLc_eq, hi, bind_ok, if_pos (by omega), r, bind_ok]
theorem rowT_of {n : Nat} {vs : List Int} (h : vs.length = n) : D.tup (vs.map .int) = rowT n (rwOf vs) := by
  unfold rowT; rw [lst_rwOf h]
theorem RowsF.its {L : Nat} {h : AH} {r n : Nat} {M : Nat → Nat → Int} (R : RowsF L h r n M) : ∃ xs, xs.length = n ∧ h[r]? = some (.lst xs) ∧ L ≤ r := by
  obtain ⟨ks, a1, _, _, a4, _, a6, _⟩ := R
  exact ⟨_, by simp [a1], a6, a4⟩
theorem pow_10 (h : AH) (k : Nat) (hk : k ≤ 1000) {ki : Int} (e : ki = k) : opPow h (.int 10) (.int ki) = some (.int (10 ^ k)) := by
  subst e
  show (if (0 : Int) ≤ (k : Int) ∧ (k : Int) ≤ 1000 ∧ (10 : Int).natAbs < 2 ^ 1000 then some (D.int (10 ^ (k : Int).toNat)) else none) = _
  rw [if_pos ⟨by omega, by omega, by decide⟩, Int.toNat_natCast]
end BW

set_option Elab.async false
set_option linter.all false
set_option maxRecDepth 100000
set_option maxHeartbeats 4000000
namespace BW
open PySem Cox
/-- a stretch that is too short is not the other one -/
theorem stretch_ne {S : Sys} {c d : Nat} (h : c ≠ d) {j : Nat} (hj : S.m c d = 0 ∨ j + 1 < S.m c d) : row S (alt c d (j + 1)) (nxt c d j) ≠ row S (alt d c (j + 1)) (nxt c d j) := by
  have p1 := rank2 (S := S) h j (by omega) ones (by unfold ones; omega) (by unfold ones; omega)
  have p2 := rank2 (S := S) (Ne.symm h) (j + 1) (by rw [S.sym d c]; exact hj) ones (by unfold ones; omega) (by unfold ones; omega)
  rw [nxt_succ] at p2
  have e : row S (alt c d (j + 1)) (nxt c d j) = - S.pw (alt c d j) ones (nxt c d j) := by
    rw [alt_succ', row_snoc]
    simp only [Sys.press, S.own, row]; omega
  unfold row at *
  omega
section
variable {h : AH} {b r n : Nat} {M : Nat → Nat → Int}
theorem lpressed_is (T : Tab n M) (B : BondsAt h b n M) (x : Rw) {d : D} {w : List Int} (W : WordAt h d w) (hw : Letters n w) : d__law_pressed [.ref b, rowT n x, d] h = .ok (rowT n ((sysOf T).pw (wd w) x)) h := by
  unfold d__law_pressed
  refine Runs.call ?_
  (simp only [startE_eq, List.map_cons, List.map_nil, List.length_cons, List.length_nil, List.replicate, List.cons_append, List.nil_append])
  obtain ⟨g, ig, gg⟩ := W.its
  refine Runs.loop (h1 := h) (it := { xs := w.map .int, g := g }) (fun i e h' => h' = h ∧ ∃ x3, e = [some (.ref b), some (rowT n ((sysOf T).pw (wd (w.take i)) x)), some d, x3]) (ivSeq_of (by simp) ig) ⟨rfl, none, by simp [wd, Sys.pw]⟩ (fun i e h' _ z => by rw [z.1]; exact gg) ?_ ?_
  · rintro i y e h' hy ⟨rfl, x3, rfl⟩
    simp only [List.getElem?_map, Option.map_eq_some_iff] at hy
    obtain ⟨a, ha, rfl⟩ := hy
    have la := hw a (List.mem_of_getElem? ha)
    have p := pressP_is T B ((sysOf T).pw (wd (w.take i)) x) la.1 la.2
    refine ⟨_, _, rfl, ?_⟩
    (refine Runs.last fun Q' hQ => ?_; simp [p]; subst hQ; try dsimp only)
    exact ⟨_, _, rfl, rfl, some (.int a), by rw [wd_take_succ ha, pw_append]; rfl⟩
  · rintro e h' ⟨rfl, x3, rfl⟩
    (refine Runs.last fun Q' hQ => ?_; simp; subst hQ; try dsimp only)
    simp
theorem stretch_letters {a c : Int} (ha : 1 ≤ a ∧ a ≤ (n : Int)) (hc : 1 ≤ c ∧ c ≤ (n : Int)) (k : Nat) : Letters n (stretchL a c k) := fun z hz => by
  rcases stretch_in hz with rfl | rfl <;> assumption
theorem pair_is (T : Tab n M) (B : BondsAt h b n M) (R : RowsAt h r n M) (x : Rw) {a c : Int} (ha : 1 ≤ a ∧ a ≤ (n : Int)) (hc : 1 ≤ c ∧ c ≤ (n : Int)) (hac : a ≠ c) : d__law_pair_right [.ref b, .ref r, rowT n x, .int a, .int c] h = .ok (.bl true) h := by
  obtain ⟨k, i1, i2⟩ := R.ix (i := a - 1) (by omega) (by omega)
  have i3 := i2 (c - 1) (by omega) (by omega)
  have ne : a.toNat - 1 ≠ c.toNat - 1 := by omega
  have m1 := sysOf_m T (a := a.toNat - 1) (b := c.toNat - 1) (by omega) (by omega) ne
  rw [show (a - 1).toNat = a.toNat - 1 by omega, show (c - 1).toNat = c.toNat - 1 by omega] at i3
  have bd := T.bd (i := a.toNat - 1) (j := c.toNat - 1) (by omega) (by omega)
  generalize M (a.toNat - 1) (c.toNat - 1) = m at *
  have pr := fun (x : Rw) (k : Nat) => lpressed_is T B x (wordT h (stretchL a c k)) (stretch_letters ha hc k)
  have pr' := fun (x : Rw) (k : Nat) => lpressed_is T B x (wordT h (stretchL c a k)) (stretch_letters hc ha k)
  simp only [wd_stretch] at pr pr'
  unfold d__law_pair_right
  refine Runs.call ?_
  (simp only [startE_eq, List.map_cons, List.map_nil, List.length_cons, List.length_nil, List.replicate, List.cons_append, List.nil_append])
  (refine Runs.step fun K Q' hK hQ => ?_; simp [i1, i3, R.len, rep_oneT T, setAll]; subst hK hQ)
  refine Runs.seq (e' := [some (.ref b), some (.ref r), some (rowT n x), some (.int a), some (.int c), some (.int m), some (rowT n ones), none, none, none]) (h' := h) ?_ ?_
  · by_cases c0 : 0 < m
    · have ls := lawStretch_is (a := a) (b := c) (m := m) h (by omega) (by omega)
      have ls' := lawStretch_is (a := c) (b := a) (m := m) h (by omega) (by omega)
      have br := braid (S := sysOf T) (a.toNat - 1) (c.toNat - 1) ne x
      rw [m1] at br
      simp [c0, ls, ls', pr, pr', br, ne_rowT]
    · simp [c0]
  · have iv : ivBy [(evC (.int 1)), (evIf (tvOf (evOp opGt (evVar 5) (evC (.int 0)))) (evVar 5) (evC (.int 9)))] kR2 [some (.ref b), some (.ref r), some (rowT n x), some (.int a), some (.int c), some (.int m), some (rowT n ones), none, none, none] h = .ok { xs := rangeD 1 ((if 0 < m then m else 9) - 1).toNat } h := by
      refine ivR2_of (h1 := h) (c := if 0 < m then m else 9) (by simp) ?_ (by omega) (by split <;> omega) rfl
      by_cases c0 : 0 < m <;> simp [c0]
    refine Runs.loop (fun i e h' => h' = h ∧ ∃ x7 x8 x9, e = [some (.ref b), some (.ref r), some (rowT n x), some (.int a), some (.int c), some (.int m), some (rowT n ones), x7, x8, x9]) iv ⟨rfl, _, _, _, rfl⟩ (fun _ _ _ _ _ => rfl) ?_ ?_
    · rintro i d e h' hd ⟨rfl, x7, x8, x9, rfl⟩
      obtain ⟨hi, rfl⟩ := rangeD_get hd
      have i9 : (i : Int) < 9 := by split at hi <;> omega
      have ls := lawStretch_is (a := a) (b := c) (m := 1 + (i : Int)) h' (by omega) (by omega)
      have ls' := lawStretch_is (a := c) (b := a) (m := 1 + (i : Int)) h' (by omega) (by omega)
      rw [show (1 + (i : Int)).toNat = i + 1 by omega] at ls ls'
      refine ⟨_, _, rfl, ?_⟩
      simp only [List.set_cons_succ, List.set_cons_zero]
      (refine Runs.step fun K Q' hK hQ => ?_; simp [ls, ls', setAll]; subst hK hQ)
      have sn := stretch_ne (S := sysOf T) ne (j := i) (by rw [m1]; split at hi <;> omega)
      have lt : nxt (a.toNat - 1) (c.toNat - 1) i < n := by unfold nxt; split <;> omega
      have er : ¬ lst n ((sysOf T).pw (alt (a.toNat - 1) (c.toNat - 1) (i + 1)) ones) = lst n ((sysOf T).pw (alt (c.toNat - 1) (a.toNat - 1) (i + 1)) ones) := fun z => sn (lst_inj.mp z _ lt)
      (refine Runs.last fun Q' hQ => ?_; simp [pr, pr', eq_rowT, er]; subst hQ; try dsimp only)
      exact ⟨_, _, rfl, rfl, _, _, _, rfl⟩
    · rintro e h' ⟨rfl, x7, x8, x9, rfl⟩
      (refine Runs.last fun Q' hQ => ?_; simp; subst hQ; try dsimp only)
      simp
end
theorem plain (ns : List Int) (hn : ns.length ≤ 63) (_ : ∀ z ∈ ns, Builtin.Int.intBits z ≤ 1048576) : ∃ h, d_law [.rl (ns.map .int)] [] = .ok (.bl true) h := by
  unfold d_law
  refine Runs.law (mosts := [6, 20, 40]) hn (by omega) (fun e h => by simp) (by decide) ?_ ?_
  · intro i most ys h hm hy I l
    obtain ⟨m0, m1⟩ : 0 ≤ most ∧ most ≤ 40 := by
      match i, hm with
      | 0, hm => cases hm; omega
      | 1, hm => cases hm; omega
      | 2, hm => cases hm; omega
    match ys, hy with
    | [x3, x4, x5, x6, x7, x8, x9], _ =>
    have i3 : i < 3 := (List.getElem?_eq_some_iff.mp hm).1
    refine Runs.begin I (by omega) l m0 (by omega) ?_
    intro n M r b w h0 T R B b4 Lw wl I' l'
    have n6 := T.n6
    obtain ⟨xs, xl, gr, r4⟩ := R.its
    obtain ⟨vs, h1, e1, vl, I1, F1, _⟩ := evLc_ints (iv := ivSeq (evVar 3)) (own := Tgt.own (.one 8)) (gv := Tgt.gv (.one 8)) (elt := evOp opSub (evCall d__law_draw [(evVar 1), (evOp opPow (evC (.int 10)) (evC (.int 20)))]) (evOp opPow (evC (.int 10)) (evC (.int 19))))
      (e := [some (.rl (ns.map .int)), some (.ref 2), some (.int most), some (.ref r), some (.ref b), some (.tup (w.map .int)), x6, x7, x8, x9]) (h0 := h0) 1 (fun _ => True) { xs := xs, g := some (r, .lst xs) } (ivSeq_of (by simp) (itsOf_ref gr)) (by simp; omega) (by omega) (fun h' F => guardOk_some (F.at_ r4 gr)) I' (by omega) (fun d hd h' N' J hN F => by
        obtain ⟨v, h2, r2, _, _, J2, F2, _⟩ := draw4 (limit := 100000000000000000000) J (by omega) (by decide) (by decide)
        refine ⟨_, v - 10000000000000000000, h2, rfl, ?_, J2, F2, trivial⟩
        simp [wipeE, Tgt.own, pow_10 _ 20 (by decide) (ki := 20) rfl, pow_10 _ 19 (by decide) (ki := 19) rfl, r2])
    have F0 := F1
    have R1 := R.frame F1 (Nat.le_refl _)
    have B1 : BondsAt h1 b n M := F1.at_ b4 B
    have l1 : 4 ≤ h1.length := Nat.le_trans l' F1.len
    refine Runs.asg (d := rowT n (rwOf vs)) (h1 := h1) ?_ ?_
    · rw [pv_eq, evB_eq, evs_cons, e1]
      simp [rowT_of (vl.trans xl)]
    simp only [List.set_cons_succ, List.set_cons_zero]
    have iv : ∀ y7 y8 y9, ivBy [(evC (.int 1)), (evOp opAdd (evB bLen [(evVar 3)]) (evC (.int 1)))] kR2 [some (.rl (ns.map .int)), some (.ref 2), some (.int most), some (.ref r), some (.ref b), some (.tup (w.map .int)), some (rowT n (rwOf vs)), y7, y8, y9] h1 = .ok { xs := rangeD 1 n } h1 := fun _ _ _ =>
      ivR2_of (h1 := h1) (h2 := h1) (c := (n : Int) + 1) (by simp) (by simp [R1.at_.len]) (by omega) (by omega) (by omega)
    refine Runs.loop (fun _ e h2 => h2 = h1 ∧ ∃ x7 x8, e = [some (.rl (ns.map .int)), some (.ref 2), some (.int most), some (.ref r), some (.ref b), some (.tup (w.map .int)), some (rowT n (rwOf vs)), x7, x8, x9]) (iv _ _ _) ⟨rfl, _, _, rfl⟩ (fun _ _ _ _ _ => rfl) ?_ ?_
    · rintro j d e h2 hd ⟨rfl, x7, x8, rfl⟩
      obtain ⟨hj, rfl⟩ := rangeD_get hd
      refine ⟨_, _, rfl, ?_⟩
      simp only [List.set_cons_succ, List.set_cons_zero]
      refine Runs.loop1 (fun _ e h3 => h3 = h2 ∧ ∃ x8, e = [some (.rl (ns.map .int)), some (.ref 2), some (.int most), some (.ref r), some (.ref b), some (.tup (w.map .int)), some (rowT n (rwOf vs)), some (.int (1 + (j : Int))), x8, x9]) (iv _ _ _) ⟨rfl, _, rfl⟩ (fun _ _ _ _ _ => rfl) ?_ ?_
      · rintro k d e h3 hd ⟨rfl, x8, rfl⟩
        obtain ⟨hk, rfl⟩ := rangeD_get hd
        refine ⟨_, _, rfl, ?_⟩
        simp only [List.set_cons_succ, List.set_cons_zero]
        by_cases c : (1 + (j : Int)) = 1 + (k : Int)
        · (refine Runs.last fun Q' hQ => ?_; simp [c]; subst hQ; try dsimp only)
          exact ⟨_, _, rfl, rfl, _, by rw [c]⟩
        · have pr := pair_is T B1 R1.at_ (rwOf vs) (a := 1 + (j : Int)) (c := 1 + (k : Int)) (by omega) (by omega) c
          have c' : ¬ ((j : Int) = k) := by omega
          have c2 : ¬ (j = k) := by omega
          (refine Runs.last fun Q' hQ => ?_; simp [c', c2, pr]; subst hQ; try dsimp only)
          exact ⟨_, _, rfl, rfl, _, rfl⟩
      · rintro e h3 ⟨rfl, x8, rfl⟩
        exact ⟨_, _, rfl, rfl, _, _, rfl⟩
    · rintro e h2 ⟨rfl, x7, x8, rfl⟩
      refine Runs.loop1 (h1 := h2) (it := { xs := rangeD 0 (w.length + 1) }) (fun _ e h3 => h3 = h2 ∧ ∃ x9, e = [some (.rl (ns.map .int)), some (.ref 2), some (.int most), some (.ref r), some (.ref b), some (.tup (w.map .int)), some (rowT n (rwOf vs)), x7, x8, x9]) (ivR1_of (by simp) (by omega)) ⟨rfl, _, rfl⟩ (fun _ _ _ _ _ => rfl) ?_ ?_
      · rintro k d e h3 hd ⟨rfl, x9, rfl⟩
        obtain ⟨hk, rfl⟩ := rangeD_get hd
        have k0 : (0 : Int) ≤ 0 + (k : Int) := by omega
        have ro := rowof_is T B1 (wordT h3 (w.take k)) (Lw.take _) (by simp; omega)
        have nin : inD false h3 (.int 0) (rowT n (row (sysOf T) (wd (w.take k)))) = some (.bl false) := by
          unfold rowT
          rw [in_word, decide_eq_false]
          intro z
          obtain ⟨s, hs, e⟩ := List.mem_map.mp z
          exact row_ne _ s e
        rw [List.map_take] at ro
        refine ⟨_, _, rfl, ?_⟩
        simp only [List.set_cons_succ, List.set_cons_zero]
        have ct := cut_to (w := w) k0
        rw [show (0 + (k : Int)).toNat = k by omega, List.map_take] at ct
        rw [Int.zero_add] at ct ⊢
        (refine Runs.last fun Q' hQ => ?_; simp [D.pvI, ct, ro, nin]; subst hQ; try dsimp only)
        exact ⟨_, _, rfl, rfl, _, rfl⟩
      · rintro e h3 ⟨rfl, x9, rfl⟩
        exact ⟨_, _, _, rfl, rfl, I1.mono (by simp; omega), l1⟩
  · intro y2 ys h hy I l
    (refine Runs.last fun Q' hQ => ?_; simp; subst hQ; try dsimp only)
    exact ⟨_, by simp [BW.fin, D.lt, oldOk]; rfl⟩
end BW

set_option Elab.async false
set_option linter.all false
set_option maxRecDepth 100000
set_option maxHeartbeats 4000000
namespace BW
open PySem PySem.Spec PyProof.Rows L2
variable [Tb]
def topS (i : Nat) : Stmt := PySem.Challenge.pw_bondwords_k04_whole_bonds_kept.main.body.getD i (.Pass ⟨0, 0, 0, 0⟩)
theorem sc_is_whole : FnScope ["value"] ["value"] (defScope (topS 13)) := ⟨rfl, rfl, rfl, by decide +kernel, rfl, by decide +kernel, by decide +kernel⟩
theorem ok_is_whole {P : Program} {w : World} {K : PySem.W.Frag} {mg : Str → Option Value} {base : Heap} {f : Addr} {fd : FuncData} (F : Fun K "is_whole" "is_whole" (topS 13) f fd) (m : mg "is_whole" = some (.ref f)) (B : Bi mg) : Fn P w K mg base "is_whole" 1 1 d_is_whole :=
  fn_mk 0 F m sc_is_whole (F.binds fun _ _ _ _ _ _ us hl => match us, hl with | [_], _ => rfl) fun cdv A outer s H E hr =>
    have tk := takes_of (X := cxOf (L2.CX P w) P w K mg base ["value"] "is_whole" (defScope (topS 13)) f cdv A outer s H E) rfl rfl rfl rfl
    have po := passes_of (X := cxOf (L2.CX P w) P w K mg base ["value"] "is_whole" (defScope (topS 13)) f cdv A outer s H E) rfl
    (den_bone (den_ret (den_vand (den_isi rfl B.isinstance rfl B.int (by decide +kernel) (dv 0)) (den_vone (den_vnot (den_isi rfl B.isinstance rfl B.bool (by decide +kernel) (dv 0)))))))

theorem sc_is_among : FnScope ["value", "least", "most"] ["value", "least", "most"] (defScope (topS 14)) := ⟨rfl, rfl, rfl, by decide +kernel, rfl, by decide +kernel, by decide +kernel⟩
theorem ok_is_among {P : Program} {w : World} {K : PySem.W.Frag} {mg : Str → Option Value} {base : Heap} {f : Addr} {fd : FuncData} (F : Fun K "is_among" "is_among" (topS 14) f fd) (m : mg "is_among" = some (.ref f)) (B : Bi mg) (c_is_whole : Fn P w K mg base "is_whole" 1 1 d_is_whole) : Fn P w K mg base "is_among" 2 3 d_is_among :=
  fn_mk 1 F m sc_is_among (F.binds fun _ _ _ _ _ _ us hl => match us, hl with | [_, _, _], _ => rfl) fun cdv A outer s H E hr =>
    have tk := takes_of (X := cxOf (L2.CX P w) P w K mg base ["value", "least", "most"] "is_among" (defScope (topS 14)) f cdv A outer s H E) rfl rfl rfl rfl
    have po := passes_of (X := cxOf (L2.CX P w) P w K mg base ["value", "least", "most"] "is_among" (defScope (topS 14)) f cdv A outer s H E) rfl
    (den_bone (den_ret (den_vand (den_callF c_is_whole hr tk (den_consV (dv 0) den_nilV)) (den_vone (den_chain opd_le opd_le (dv 1) (dv 0) (dv 2))))))

theorem sc_is_list : FnScope ["value"] ["value"] (defScope (topS 15)) := ⟨rfl, rfl, rfl, by decide +kernel, rfl, by decide +kernel, by decide +kernel⟩
theorem ok_is_list {P : Program} {w : World} {K : PySem.W.Frag} {mg : Str → Option Value} {base : Heap} {f : Addr} {fd : FuncData} (F : Fun K "is_list" "is_list" (topS 15) f fd) (m : mg "is_list" = some (.ref f)) (B : Bi mg) : Fn P w K mg base "is_list" 1 1 d_is_list :=
  fn_mk 0 F m sc_is_list (F.binds fun _ _ _ _ _ _ us hl => match us, hl with | [_], _ => rfl) fun cdv A outer s H E hr =>
    have tk := takes_of (X := cxOf (L2.CX P w) P w K mg base ["value"] "is_list" (defScope (topS 15)) f cdv A outer s H E) rfl rfl rfl rfl
    have po := passes_of (X := cxOf (L2.CX P w) P w K mg base ["value"] "is_list" (defScope (topS 15)) f cdv A outer s H E) rfl
    (den_bone (den_ret (den_isiLT rfl B.isinstance rfl B.list rfl B.tuple (dv 0))))

theorem sc_is_bond : FnScope ["rows", "one", "other", "value"] ["rows", "one", "other"] (defScope (topS 16)) := ⟨rfl, rfl, rfl, by decide +kernel, rfl, by decide +kernel, by decide +kernel⟩
theorem ok_is_bond {P : Program} {w : World} {K : PySem.W.Frag} {mg : Str → Option Value} {base : Heap} {f : Addr} {fd : FuncData} (F : Fun K "is_bond" "is_bond" (topS 16) f fd) (m : mg "is_bond" = some (.ref f)) (B : Bi mg) (g_KINDS : TupG K mg "KINDS" [.int 2, .int 3, .int 4, .int 6, .int 0]) (c_is_among : Fn P w K mg base "is_among" 2 3 d_is_among) (c_is_whole : Fn P w K mg base "is_whole" 1 1 d_is_whole) : Fn P w K mg base "is_bond" 3 3 d_is_bond :=
  fn_mk 2 F m sc_is_bond (F.binds fun _ _ _ _ _ _ us hl => match us, hl with | [_, _, _], _ => rfl) fun cdv A outer s H E hr =>
    have tk := takes_of (X := cxOf (L2.CX P w) P w K mg base ["rows", "one", "other", "value"] "is_bond" (defScope (topS 16)) f cdv A outer s H E) rfl rfl rfl rfl
    have po := passes_of (X := cxOf (L2.CX P w) P w K mg base ["rows", "one", "other", "value"] "is_bond" (defScope (topS 16)) f cdv A outer s H E) rfl
    (den_bcons (den_set (i := 3) sc_is_bond.nd rfl (by first | exact Or.inl rfl | exact Or.inr rfl) (den_ix (den_ix (dv 0) (dv 1)) (dv 2)))
      (den_bcons (den_ifS (den_tcmp (opd_eq hr.units) (dv 1) (dv 2)) (den_bone (den_ret (den_callF c_is_among hr tk (den_consV (dv 3) (den_consV den_int (den_consV den_int den_nilV)))))) den_bnil)
      (den_bone (den_ret (den_vand (den_callF c_is_whole hr tk (den_consV (dv 3) den_nilV)) (den_vand (den_inG g_KINDS rfl rfl (dv 3)) (den_vone (den_vor (den_cmp opd_lt (dv 1) (dv 2)) (den_vone (den_cmp (opd_eq hr.units) (dv 3) (den_ix (den_ix (dv 0) (dv 2)) (dv 1))))))))))))

theorem sc_need_rows : FnScope ["rows", "row", "one", "other"] ["rows"] (defScope (topS 17)) := ⟨rfl, rfl, rfl, by decide +kernel, rfl, by decide +kernel, by decide +kernel⟩
theorem ok_need_rows {P : Program} {w : World} {K : PySem.W.Frag} {mg : Str → Option Value} {base : Heap} {f : Addr} {fd : FuncData} (F : Fun K "need_rows" "need_rows" (topS 17) f fd) (m : mg "need_rows" = some (.ref f)) (B : Bi mg) (x_BadBonds : XC1 P K mg "BadBonds") (x_TooGreat : XC1 P K mg "TooGreat") (g_MOST_LETTERS : GI mg "MOST_LETTERS" 6) (c_is_list : Fn P w K mg base "is_list" 1 1 d_is_list) (c_is_bond : Fn P w K mg base "is_bond" 3 3 d_is_bond) : Fn P w K mg base "need_rows" 4 1 d_need_rows :=
  fn_mk 3 F m sc_need_rows (F.binds fun _ _ _ _ _ _ us hl => match us, hl with | [_], _ => rfl) fun cdv A outer s H E hr =>
    have tk := takes_of (X := cxOf (L2.CX P w) P w K mg base ["rows", "row", "one", "other"] "need_rows" (defScope (topS 17)) f cdv A outer s H E) rfl rfl rfl rfl
    have po := passes_of (X := cxOf (L2.CX P w) P w K mg base ["rows", "row", "one", "other"] "need_rows" (defScope (topS 17)) f cdv A outer s H E) rfl
    (den_bcons (den_ifS (PW.pt (den_or (den_tnot (den_tval (den_callF c_is_list hr tk (den_consV (dv 0) den_nilV)))) (den_or1 (den_tcmp (opd_eq hr.units) (den_callB cd_len rfl B.len (by decide +kernel) (den_cons (dv 0) den_nil)) den_int)))) (den_bone (den_raise1 x_BadBonds B.super hr tk den_non)) den_bnil)
      (den_bcons (den_ifS (den_tcmp opd_gt (den_callB cd_len rfl B.len (by decide +kernel) (den_cons (dv 0) den_nil)) (den_gi g_MOST_LETTERS)) (den_bone (den_raise1 x_TooGreat B.super hr tk (den_gi g_MOST_LETTERS))) den_bnil)
      (den_bcons (den_for po rfl (den_iseq (dv 0)) (den_gname (i := 1) sc_need_rows.nd rfl (by first | exact Or.inl rfl | exact Or.inr rfl)) (den_bone (den_ifS (PW.pt (den_or (den_tnot (den_tval (den_callF c_is_list hr tk (den_consV (dv 1) den_nilV)))) (den_or1 (den_tcmp (opd_ne hr.units) (den_callB cd_len rfl B.len (by decide +kernel) (den_cons (dv 1) den_nil)) (den_callB cd_len rfl B.len (by decide +kernel) (den_cons (dv 0) den_nil)))))) (den_bone (den_raise1 x_BadBonds B.super hr tk den_non)) den_bnil)))
      (den_bone (den_for po rfl (den_range1 rfl B.range (den_cons (den_callB cd_len rfl B.len (by decide +kernel) (den_cons (dv 0) den_nil)) den_nil)) (den_gname (i := 2) sc_need_rows.nd rfl (by first | exact Or.inl rfl | exact Or.inr rfl)) (den_bone (den_for po rfl (den_range1 rfl B.range (den_cons (den_callB cd_len rfl B.len (by decide +kernel) (den_cons (dv 0) den_nil)) den_nil)) (den_gname (i := 3) sc_need_rows.nd rfl (by first | exact Or.inl rfl | exact Or.inr rfl)) (den_bone (den_ifS (den_tnot (den_tval (den_callF c_is_bond hr tk (den_consV (dv 0) (den_consV (dv 2) (den_consV (dv 3) den_nilV)))))) (den_bone (den_raise1 x_BadBonds B.super hr tk (den_tup (den_consV (den_op opd_add (dv 2) den_int) (den_consV (den_op opd_add (dv 3) den_int) den_nilV))))) den_bnil)))))))))

theorem sc_Bonds___init__ : FnScope ["self", "rows", "row"] ["self", "rows"] (defScope (inClass (topS 18) 1)) := ⟨rfl, rfl, rfl, by decide +kernel, rfl, by decide +kernel, by decide +kernel⟩
theorem ok_Bonds___init__ {P : Program} {w : World} {K : PySem.W.Frag} {mg : Str → Option Value} {base : Heap} {f : Addr} {fd : FuncData} {C : Addr} (F : Fun K "__init__" "Bonds.__init__" (inClass (topS 18) 1) f fd) (hC : mg "Bonds" = some (.ref C)) (m : Mk K C f) (B : Bi mg) (sB : SC K mg "Bonds" "table") (c_need_rows : Fn P w K mg base "need_rows" 4 1 d_need_rows) : Mkr P w K mg base "Bonds" 5 2 d_Bonds___init__ :=
  mkr_mk 4 F hC m sc_Bonds___init__ (F.binds fun _ _ _ _ _ _ us hl => match us, hl with | [_, _], _ => rfl) fun cdv A outer s H E hr =>
    have tk := takes_of (X := cxOf (L2.CX P w) P w K mg base ["self", "rows", "row"] "Bonds.__init__" (defScope (inClass (topS 18) 1)) f cdv A outer s H E) rfl rfl rfl rfl
    have po := passes_of (X := cxOf (L2.CX P w) P w K mg base ["self", "rows", "row"] "Bonds.__init__" (defScope (inClass (topS 18) 1)) f cdv A outer s H E) rfl
    (den_bcons (den_expr (den_callF c_need_rows hr tk (den_consV (dv 1) den_nilV)))
      (den_bone (den_setslot sB (dv 0) (den_callTy cd_tuple rfl B.tuple (by decide +kernel) (den_cons (den_lc (own := [("row", 2)]) (.one 2) rfl sc_Bonds___init__.nd (den_iseq (dv 1)) rfl (blkOk_by (by kernel_rfl)) (fun _ _ _ _ _ => pg_name (i := 2) sc_Bonds___init__.nd rfl (by first | exact Or.inl rfl | exact Or.inr rfl)) (fun _ _ _ _ _ => den_noif) (fun _ _ _ _ _ => (den_callTy cd_tuple rfl B.tuple (by decide +kernel) (den_cons (dv 2) den_nil)))) den_nil)))))

theorem sc_Bonds___len__ : FnScope ["self"] ["self"] (defScope (inClass (topS 18) 2)) := ⟨rfl, rfl, rfl, by decide +kernel, rfl, by decide +kernel, by decide +kernel⟩
theorem ok_Bonds___len__ {P : Program} {w : World} {K : PySem.W.Frag} {mg : Str → Option Value} {base : Heap} {f : Addr} {fd : FuncData} {C : Addr} (F : Fun K "__len__" "Bonds.__len__" (inClass (topS 18) 2) f fd) (hC : mg "Bonds" = some (.ref C)) (m : Meth K C "__len__" f) (B : Bi mg) (sB : SC K mg "Bonds" "table") : Mt P w K mg base "Bonds" "__len__" 1 1 d_Bonds___len__ :=
  mt_mk 0 F hC m sc_Bonds___len__ (F.binds fun _ _ _ _ _ _ us hl => match us, hl with | [_], _ => rfl) fun cdv A outer s H E hr =>
    have tk := takes_of (X := cxOf (L2.CX P w) P w K mg base ["self"] "Bonds.__len__" (defScope (inClass (topS 18) 2)) f cdv A outer s H E) rfl rfl rfl rfl
    have po := passes_of (X := cxOf (L2.CX P w) P w K mg base ["self"] "Bonds.__len__" (defScope (inClass (topS 18) 2)) f cdv A outer s H E) rfl
    (den_bone (den_ret (den_callB cd_len rfl B.len (by decide +kernel) (den_cons (den_slot sB (dv 0)) den_nil))))

theorem sc_Bonds_need_letter : FnScope ["self", "value"] ["self", "value"] (defScope (inClass (topS 18) 4)) := ⟨rfl, rfl, rfl, by decide +kernel, rfl, by decide +kernel, by decide +kernel⟩
theorem ok_Bonds_need_letter {P : Program} {w : World} {K : PySem.W.Frag} {mg : Str → Option Value} {base : Heap} {f : Addr} {fd : FuncData} {C : Addr} (F : Fun K "need_letter" "Bonds.need_letter" (inClass (topS 18) 4) f fd) (hC : mg "Bonds" = some (.ref C)) (m : Meth K C "need_letter" f) (B : Bi mg) (sB : SC K mg "Bonds" "table") (x_BadNumber : XC1 P K mg "BadNumber") (c_is_among : Fn P w K mg base "is_among" 2 3 d_is_among) : Mt P w K mg base "Bonds" "need_letter" 3 2 d_Bonds_need_letter :=
  mt_mk 2 F hC m sc_Bonds_need_letter (F.binds fun _ _ _ _ _ _ us hl => match us, hl with | [_, _], _ => rfl) fun cdv A outer s H E hr =>
    have tk := takes_of (X := cxOf (L2.CX P w) P w K mg base ["self", "value"] "Bonds.need_letter" (defScope (inClass (topS 18) 4)) f cdv A outer s H E) rfl rfl rfl rfl
    have po := passes_of (X := cxOf (L2.CX P w) P w K mg base ["self", "value"] "Bonds.need_letter" (defScope (inClass (topS 18) 4)) f cdv A outer s H E) rfl
    (den_bone (den_ifS (den_tnot (den_tval (den_callF c_is_among hr tk (den_consV (dv 1) (den_consV den_int (den_consV (den_callB cd_len rfl B.len (by decide +kernel) (den_cons (den_slot sB (dv 0)) den_nil)) den_nilV)))))) (den_bone (den_raise1 x_BadNumber B.super hr tk (dv 1))) den_bnil))

theorem sc_Bonds_weight : FnScope ["self", "one", "other", "pair"] ["self", "one", "other"] (defScope (inClass (topS 18) 6)) := ⟨rfl, rfl, rfl, by decide +kernel, rfl, by decide +kernel, by decide +kernel⟩
theorem ok_Bonds_weight {P : Program} {w : World} {K : PySem.W.Frag} {mg : Str → Option Value} {base : Heap} {f : Addr} {fd : FuncData} {C : Addr} (F : Fun K "weight" "Bonds.weight" (inClass (topS 18) 6) f fd) (hC : mg "Bonds" = some (.ref C)) (m : Meth K C "weight" f) (B : Bi mg) (sB : SC K mg "Bonds" "table") (g_WEIGHTS : DctG K mg "WEIGHTS" [(2, [0, 0]), (3, [1, 1]), (4, [1, 2]), (6, [1, 3]), (0, [2, 2])]) (c_Bonds_need_letter : Mt P w K mg base "Bonds" "need_letter" 3 2 d_Bonds_need_letter) : Mt P w K mg base "Bonds" "weight" 4 3 d_Bonds_weight :=
  mt_mk 3 F hC m sc_Bonds_weight (F.binds fun _ _ _ _ _ _ us hl => match us, hl with | [_, _, _], _ => rfl) fun cdv A outer s H E hr =>
    have tk := takes_of (X := cxOf (L2.CX P w) P w K mg base ["self", "one", "other", "pair"] "Bonds.weight" (defScope (inClass (topS 18) 6)) f cdv A outer s H E) rfl rfl rfl rfl
    have po := passes_of (X := cxOf (L2.CX P w) P w K mg base ["self", "one", "other", "pair"] "Bonds.weight" (defScope (inClass (topS 18) 6)) f cdv A outer s H E) rfl
    (den_bcons (den_expr (den_meth sB c_Bonds_need_letter hr tk wc_E (dv 0) (den_consV (dv 1) den_nilV)))
      (den_bcons (den_expr (den_meth sB c_Bonds_need_letter hr tk wc_E (dv 0) (den_consV (dv 2) den_nilV)))
      (den_bcons (den_ifS (den_tcmp (opd_eq hr.units) (dv 1) (dv 2)) (den_bone (den_ret (den_neg den_int))) den_bnil)
      (den_bcons (den_set (i := 3) sc_Bonds_weight.nd rfl (by first | exact Or.inl rfl | exact Or.inr rfl) (den_wget g_WEIGHTS rfl (den_ix (den_ix (den_slot sB (dv 0)) (den_op opd_sub (dv 1) den_int)) (den_op opd_sub (dv 2) den_int))))
      (den_bone (den_ret (den_if (den_tcmp opd_lt (dv 1) (dv 2)) (den_ixK (dv 3) den_int) (den_ixK (dv 3) den_int))))))))

theorem sc_need_word : FnScope ["bonds", "word", "place", "letter"] ["bonds", "word"] (defScope (topS 19)) := ⟨rfl, rfl, rfl, by decide +kernel, rfl, by decide +kernel, by decide +kernel⟩
theorem ok_need_word {P : Program} {w : World} {K : PySem.W.Frag} {mg : Str → Option Value} {base : Heap} {f : Addr} {fd : FuncData} (F : Fun K "need_word" "need_word" (topS 19) f fd) (m : mg "need_word" = some (.ref f)) (B : Bi mg) (sB : SC K mg "Bonds" "table") (x_BadWord : XC1 P K mg "BadWord") (x_TooGreat : XC1 P K mg "TooGreat") (g_MOST_WORD : GI mg "MOST_WORD" 60) (c_is_list : Fn P w K mg base "is_list" 1 1 d_is_list) (c_Bonds___len__ : Mt P w K mg base "Bonds" "__len__" 1 1 d_Bonds___len__) (c_is_among : Fn P w K mg base "is_among" 2 3 d_is_among) : Fn P w K mg base "need_word" 3 2 d_need_word :=
  fn_mk 2 F m sc_need_word (F.binds fun _ _ _ _ _ _ us hl => match us, hl with | [_, _], _ => rfl) fun cdv A outer s H E hr =>
    have tk := takes_of (X := cxOf (L2.CX P w) P w K mg base ["bonds", "word", "place", "letter"] "need_word" (defScope (topS 19)) f cdv A outer s H E) rfl rfl rfl rfl
    have po := passes_of (X := cxOf (L2.CX P w) P w K mg base ["bonds", "word", "place", "letter"] "need_word" (defScope (topS 19)) f cdv A outer s H E) rfl
    (den_bcons (den_ifS (den_tnot (den_tval (den_callF c_is_list hr tk (den_consV (dv 1) den_nilV)))) (den_bone (den_raise1 x_BadWord B.super hr tk den_non)) den_bnil)
      (den_bcons (den_ifS (den_tcmp opd_gt (den_callB cd_len rfl B.len (by decide +kernel) (den_cons (dv 1) den_nil)) (den_gi g_MOST_WORD)) (den_bone (den_raise1 x_TooGreat B.super hr tk (den_gi g_MOST_WORD))) den_bnil)
      (den_bone (den_for po rfl (den_enum rfl B.enumerate (den_cons (dv 1) den_nil)) (den_gtup rfl (den_gcons (den_gname (i := 2) sc_need_word.nd rfl (by first | exact Or.inl rfl | exact Or.inr rfl)) (den_gcons (den_gname (i := 3) sc_need_word.nd rfl (by first | exact Or.inl rfl | exact Or.inr rfl)) den_gnil))) (den_bone (den_ifS (den_tnot (den_tval (den_callF c_is_among hr tk (den_consV (dv 3) (den_consV den_int (den_consV (den_lenO sB c_Bonds___len__ hr tk wc_E rfl B.len (dv 0)) den_nilV)))))) (den_bone (den_raise1 x_BadWord B.super hr tk (dv 2))) den_bnil))))))

theorem sc_start : FnScope ["bonds"] ["bonds"] (defScope (topS 21)) := ⟨rfl, rfl, rfl, by decide +kernel, rfl, by decide +kernel, by decide +kernel⟩
theorem ok_start {P : Program} {w : World} {K : PySem.W.Frag} {mg : Str → Option Value} {base : Heap} {f : Addr} {fd : FuncData} (F : Fun K "start" "start" (topS 21) f fd) (m : mg "start" = some (.ref f)) (B : Bi mg) (sB : SC K mg "Bonds" "table") (c_Bonds___len__ : Mt P w K mg base "Bonds" "__len__" 1 1 d_Bonds___len__) : Fn P w K mg base "start" 3 1 d_start :=
  fn_mk 2 F m sc_start (F.binds fun _ _ _ _ _ _ us hl => match us, hl with | [_], _ => rfl) fun cdv A outer s H E hr =>
    have tk := takes_of (X := cxOf (L2.CX P w) P w K mg base ["bonds"] "start" (defScope (topS 21)) f cdv A outer s H E) rfl rfl rfl rfl
    have po := passes_of (X := cxOf (L2.CX P w) P w K mg base ["bonds"] "start" (defScope (topS 21)) f cdv A outer s H E) rfl
    (den_bone (den_ret (den_op opd_mul (den_tup (den_consV den_int den_nilV)) (den_lenO sB c_Bonds___len__ hr tk wc_E rfl B.len (dv 0)))))

theorem sc_need_row : FnScope ["bonds", "row", "number"] ["bonds", "row"] (defScope (topS 22)) := ⟨rfl, rfl, rfl, by decide +kernel, rfl, by decide +kernel, by decide +kernel⟩
theorem ok_need_row {P : Program} {w : World} {K : PySem.W.Frag} {mg : Str → Option Value} {base : Heap} {f : Addr} {fd : FuncData} (F : Fun K "need_row" "need_row" (topS 22) f fd) (m : mg "need_row" = some (.ref f)) (B : Bi mg) (sB : SC K mg "Bonds" "table") (x_BadRow : XC1 P K mg "BadRow") (c_Bonds___len__ : Mt P w K mg base "Bonds" "__len__" 1 1 d_Bonds___len__) (c_is_whole : Fn P w K mg base "is_whole" 1 1 d_is_whole) : Fn P w K mg base "need_row" 3 2 d_need_row :=
  fn_mk 2 F m sc_need_row (F.binds fun _ _ _ _ _ _ us hl => match us, hl with | [_, _], _ => rfl) fun cdv A outer s H E hr =>
    have tk := takes_of (X := cxOf (L2.CX P w) P w K mg base ["bonds", "row", "number"] "need_row" (defScope (topS 22)) f cdv A outer s H E) rfl rfl rfl rfl
    have po := passes_of (X := cxOf (L2.CX P w) P w K mg base ["bonds", "row", "number"] "need_row" (defScope (topS 22)) f cdv A outer s H E) rfl
    (den_bone (den_ifS (PW.pt (den_or (den_tnot (den_tval (den_isi rfl B.isinstance rfl B.tuple (by decide +kernel) (dv 1)))) (den_or (den_tcmp (opd_ne hr.units) (den_callB cd_len rfl B.len (by decide +kernel) (den_cons (dv 1) den_nil)) (den_lenO sB c_Bonds___len__ hr tk wc_E rfl B.len (dv 0))) (den_or1 (den_tnot (den_tval (den_callB (cd_all rfl) rfl B.all (by decide +kernel) (den_cons (den_lc (own := [("number", 2)]) (.one 2) rfl sc_need_row.nd (den_iseq (dv 1)) rfl (blkOk_by (by kernel_rfl)) (fun _ _ _ _ _ => pg_name (i := 2) sc_need_row.nd rfl (by first | exact Or.inl rfl | exact Or.inr rfl)) (fun _ _ _ _ _ => den_noif) (fun _ _ _ _ _ => (den_callF c_is_whole hr takes_none5 (den_consV (dv 2) den_nilV)))) den_nil)))))))) (den_bone (den_raise1 x_BadRow B.super hr tk (dv 1))) den_bnil))

theorem sc_pressed : FnScope ["bonds", "row", "letter", "number", "place", "one"] ["bonds", "row", "letter"] (defScope (topS 23)) := ⟨rfl, rfl, rfl, by decide +kernel, rfl, by decide +kernel, by decide +kernel⟩
theorem ok_pressed {P : Program} {w : World} {K : PySem.W.Frag} {mg : Str → Option Value} {base : Heap} {f : Addr} {fd : FuncData} (F : Fun K "pressed" "pressed" (topS 23) f fd) (m : mg "pressed" = some (.ref f)) (B : Bi mg) (sB : SC K mg "Bonds" "table") (c_Bonds_weight : Mt P w K mg base "Bonds" "weight" 4 3 d_Bonds_weight) : Fn P w K mg base "pressed" 5 3 d_pressed :=
  fn_mk 4 F m sc_pressed (F.binds fun _ _ _ _ _ _ us hl => match us, hl with | [_, _, _], _ => rfl) fun cdv A outer s H E hr =>
    have tk := takes_of (X := cxOf (L2.CX P w) P w K mg base ["bonds", "row", "letter", "number", "place", "one"] "pressed" (defScope (topS 23)) f cdv A outer s H E) rfl rfl rfl rfl
    have po := passes_of (X := cxOf (L2.CX P w) P w K mg base ["bonds", "row", "letter", "number", "place", "one"] "pressed" (defScope (topS 23)) f cdv A outer s H E) rfl
    (den_bcons (den_set (i := 3) sc_pressed.nd rfl (by first | exact Or.inl rfl | exact Or.inr rfl) (den_ix (dv 1) (den_op opd_sub (dv 2) den_int)))
      (den_bone (den_ret (den_callTy cd_tuple rfl B.tuple (by decide +kernel) (den_cons (den_lc (own := [("place", 4), ("one", 5)]) (.two 4 5) rfl sc_pressed.nd (den_enum rfl B.enumerate (den_cons (dv 1) den_nil)) rfl (blkOk_by (by kernel_rfl)) (fun _ _ _ _ _ => pg_tup rfl (pgs_cons (pg_name (i := 4) sc_pressed.nd rfl (by first | exact Or.inl rfl | exact Or.inr rfl)) (pgs_cons (pg_name (i := 5) sc_pressed.nd rfl (by first | exact Or.inl rfl | exact Or.inr rfl)) pgs_nil))) (fun _ _ _ _ _ => den_noif) (fun _ _ _ _ _ => (den_op opd_add (dv 5) (den_op opd_mul (den_meth sB c_Bonds_weight hr takes_none5 wc_0 (dv 0) (den_consV (dv 2) (den_consV (den_op opd_add (dv 4) den_int) den_nilV))) (dv 3))))) den_nil)))))

theorem sc_press : FnScope ["bonds", "row", "letter"] ["bonds", "row", "letter"] (defScope (topS 24)) := ⟨rfl, rfl, rfl, by decide +kernel, rfl, by decide +kernel, by decide +kernel⟩
theorem ok_press {P : Program} {w : World} {K : PySem.W.Frag} {mg : Str → Option Value} {base : Heap} {f : Addr} {fd : FuncData} (F : Fun K "press" "press" (topS 24) f fd) (m : mg "press" = some (.ref f)) (B : Bi mg) (sB : SC K mg "Bonds" "table") (c_need_row : Fn P w K mg base "need_row" 3 2 d_need_row) (c_Bonds_need_letter : Mt P w K mg base "Bonds" "need_letter" 3 2 d_Bonds_need_letter) (c_pressed : Fn P w K mg base "pressed" 5 3 d_pressed) : Fn P w K mg base "press" 6 3 d_press :=
  fn_mk 5 F m sc_press (F.binds fun _ _ _ _ _ _ us hl => match us, hl with | [_, _, _], _ => rfl) fun cdv A outer s H E hr =>
    have tk := takes_of (X := cxOf (L2.CX P w) P w K mg base ["bonds", "row", "letter"] "press" (defScope (topS 24)) f cdv A outer s H E) rfl rfl rfl rfl
    have po := passes_of (X := cxOf (L2.CX P w) P w K mg base ["bonds", "row", "letter"] "press" (defScope (topS 24)) f cdv A outer s H E) rfl
    (den_bcons (den_expr (den_callF c_need_row hr tk (den_consV (dv 0) (den_consV (dv 1) den_nilV))))
      (den_bcons (den_expr (den_meth sB c_Bonds_need_letter hr tk wc_E (dv 0) (den_consV (dv 2) den_nilV)))
      (den_bone (den_ret (den_callF c_pressed hr tk (den_consV (dv 0) (den_consV (dv 1) (den_consV (dv 2) den_nilV))))))))

theorem sc_row_by : FnScope ["bonds", "word", "row", "letter"] ["bonds", "word"] (defScope (topS 25)) := ⟨rfl, rfl, rfl, by decide +kernel, rfl, by decide +kernel, by decide +kernel⟩
theorem ok_row_by {P : Program} {w : World} {K : PySem.W.Frag} {mg : Str → Option Value} {base : Heap} {f : Addr} {fd : FuncData} (F : Fun K "row_by" "row_by" (topS 25) f fd) (m : mg "row_by" = some (.ref f)) (B : Bi mg) (c_start : Fn P w K mg base "start" 3 1 d_start) (c_pressed : Fn P w K mg base "pressed" 5 3 d_pressed) : Fn P w K mg base "row_by" 6 2 d_row_by :=
  fn_mk 5 F m sc_row_by (F.binds fun _ _ _ _ _ _ us hl => match us, hl with | [_, _], _ => rfl) fun cdv A outer s H E hr =>
    have tk := takes_of (X := cxOf (L2.CX P w) P w K mg base ["bonds", "word", "row", "letter"] "row_by" (defScope (topS 25)) f cdv A outer s H E) rfl rfl rfl rfl
    have po := passes_of (X := cxOf (L2.CX P w) P w K mg base ["bonds", "word", "row", "letter"] "row_by" (defScope (topS 25)) f cdv A outer s H E) rfl
    (den_bcons (den_set (i := 2) sc_row_by.nd rfl (by first | exact Or.inl rfl | exact Or.inr rfl) (den_callF c_start hr tk (den_consV (dv 0) den_nilV)))
      (den_bcons (den_for po rfl (den_iseq (dv 1)) (den_gname (i := 3) sc_row_by.nd rfl (by first | exact Or.inl rfl | exact Or.inr rfl)) (den_bone (den_set (i := 2) sc_row_by.nd rfl (by first | exact Or.inl rfl | exact Or.inr rfl) (den_callF c_pressed hr tk (den_consV (dv 0) (den_consV (dv 2) (den_consV (dv 3) den_nilV)))))))
      (den_bone (den_ret (dv 2)))))

theorem sc_row_of : FnScope ["bonds", "word"] ["bonds", "word"] (defScope (topS 26)) := ⟨rfl, rfl, rfl, by decide +kernel, rfl, by decide +kernel, by decide +kernel⟩
theorem ok_row_of {P : Program} {w : World} {K : PySem.W.Frag} {mg : Str → Option Value} {base : Heap} {f : Addr} {fd : FuncData} (F : Fun K "row_of" "row_of" (topS 26) f fd) (m : mg "row_of" = some (.ref f)) (B : Bi mg) (c_need_word : Fn P w K mg base "need_word" 3 2 d_need_word) (c_row_by : Fn P w K mg base "row_by" 6 2 d_row_by) : Fn P w K mg base "row_of" 7 2 d_row_of :=
  fn_mk 6 F m sc_row_of (F.binds fun _ _ _ _ _ _ us hl => match us, hl with | [_, _], _ => rfl) fun cdv A outer s H E hr =>
    have tk := takes_of (X := cxOf (L2.CX P w) P w K mg base ["bonds", "word"] "row_of" (defScope (topS 26)) f cdv A outer s H E) rfl rfl rfl rfl
    have po := passes_of (X := cxOf (L2.CX P w) P w K mg base ["bonds", "word"] "row_of" (defScope (topS 26)) f cdv A outer s H E) rfl
    (den_bcons (den_expr (den_callF c_need_word hr tk (den_consV (dv 0) (den_consV (dv 1) den_nilV))))
      (den_bone (den_ret (den_callF c_row_by hr tk (den_consV (dv 0) (den_consV (dv 1) den_nilV))))))

theorem sc__law_mixed : FnScope ["cell", "n", "blend"] ["cell", "n"] (defScope (topS 28)) := ⟨rfl, rfl, rfl, by decide +kernel, rfl, by decide +kernel, by decide +kernel⟩
theorem ok__law_mixed {P : Program} {w : World} {K : PySem.W.Frag} {mg : Str → Option Value} {base : Heap} {f : Addr} {fd : FuncData} (F : Fun K "_law_mixed" "_law_mixed" (topS 28) f fd) (m : mg "_law_mixed" = some (.ref f)) (B : Bi mg) : Fn P w K mg base "_law_mixed" 1 2 d__law_mixed :=
  fn_mk 0 F m sc__law_mixed (F.binds fun _ _ _ _ _ _ us hl => match us, hl with | [_, _], _ => rfl) fun cdv A outer s H E hr =>
    have tk := takes_of (X := cxOf (L2.CX P w) P w K mg base ["cell", "n", "blend"] "_law_mixed" (defScope (topS 28)) f cdv A outer s H E) rfl rfl rfl rfl
    have po := passes_of (X := cxOf (L2.CX P w) P w K mg base ["cell", "n", "blend"] "_law_mixed" (defScope (topS 28)) f cdv A outer s H E) rfl
    (den_bcons (den_set (i := 2) sc__law_mixed.nd rfl (by first | exact Or.inl rfl | exact Or.inr rfl) (den_op opd_add (den_op opd_add (den_op opd_mod (den_callTy cd_int rfl B.int (by decide +kernel) (den_cons (den_op opd_mul (den_op opd_mul (dv 0) (den_op opd_add den_int (den_op opd_mul den_int (dv 1)))) den_int) den_nil)) den_int) (den_op opd_mul (den_op opd_mul den_int (dv 1)) (dv 1))) (den_op opd_mul den_int (dv 1))))
      (den_bone (den_ret (den_op opd_fdiv (den_op opd_mod (den_callTy cd_int rfl B.int (by decide +kernel) (den_cons (den_op opd_mul (dv 2) den_int) den_nil)) den_int) den_int))))

theorem sc__law_folded : FnScope ["script", "found", "n", "cell"] ["script"] (defScope (topS 29)) := ⟨rfl, rfl, rfl, by decide +kernel, rfl, by decide +kernel, by decide +kernel⟩
theorem ok__law_folded {P : Program} {w : World} {K : PySem.W.Frag} {mg : Str → Option Value} {base : Heap} {f : Addr} {fd : FuncData} (F : Fun K "_law_folded" "_law_folded" (topS 29) f fd) (m : mg "_law_folded" = some (.ref f)) (B : Bi mg) : Fn P w K mg base "_law_folded" 1 1 d__law_folded :=
  fn_mk 0 F m sc__law_folded (F.binds fun _ _ _ _ _ _ us hl => match us, hl with | [_], _ => rfl) fun cdv A outer s H E hr =>
    have tk := takes_of (X := cxOf (L2.CX P w) P w K mg base ["script", "found", "n", "cell"] "_law_folded" (defScope (topS 29)) f cdv A outer s H E) rfl rfl rfl rfl
    have po := passes_of (X := cxOf (L2.CX P w) P w K mg base ["script", "found", "n", "cell"] "_law_folded" (defScope (topS 29)) f cdv A outer s H E) rfl
    (den_bcons (by first | exact (den_setLc (i := 1) (own := [("n", 2)]) (.one 2) rfl sc__law_folded.nd rfl rfl (sw_true rfl rfl rfl (by decide +kernel)) (den_range1 rfl B.range (den_cons den_int den_nil)) rfl (blkOk_by (by kernel_rfl)) (fun _ _ _ _ _ => pg_name (i := 2) sc__law_folded.nd rfl (by first | exact Or.inl rfl | exact Or.inr rfl)) (fun _ _ _ _ _ => den_noif) (fun _ _ _ _ _ => (den_op opd_add den_int (dv 2)))) | exact den_set (i := 1) sc__law_folded.nd rfl (by first | exact Or.inl rfl | exact Or.inr rfl) (den_lc (own := [("n", 2)]) (.one 2) rfl sc__law_folded.nd (den_range1 rfl B.range (den_cons den_int den_nil)) rfl (blkOk_by (by kernel_rfl)) (fun _ _ _ _ _ => pg_name (i := 2) sc__law_folded.nd rfl (by first | exact Or.inl rfl | exact Or.inr rfl)) (fun _ _ _ _ _ => den_noif) (fun _ _ _ _ _ => (den_op opd_add den_int (dv 2)))))
      (den_bcons (den_for po rfl (den_enum rfl B.enumerate (den_cons (dv 0) den_nil)) (den_gtup rfl (den_gcons (den_gname (i := 2) sc__law_folded.nd rfl (by first | exact Or.inl rfl | exact Or.inr rfl)) (den_gcons (den_gname (i := 3) sc__law_folded.nd rfl (by first | exact Or.inl rfl | exact Or.inr rfl)) den_gnil))) (den_bone (den_asg (den_op opd_mod (den_callTy cd_int rfl B.int (by decide +kernel) (den_cons (den_op opd_add (den_op opd_mul (den_ix (dv 1) (den_op opd_mod (den_callTy cd_int rfl B.int (by decide +kernel) (den_cons (dv 2) den_nil)) den_int)) den_int) (dv 3)) den_nil)) den_int) (den_gsubL (W := W0) (dv 1) (den_op opd_mod (den_callTy cd_int rfl B.int (by decide +kernel) (den_cons (dv 2) den_nil)) den_int)))))
      (den_bcons (den_for po rfl (den_range2 rfl B.range (den_cons den_int (den_cons den_int den_nil))) (den_gname (i := 2) sc__law_folded.nd rfl (by first | exact Or.inl rfl | exact Or.inr rfl)) (den_bone (den_asg (den_op opd_mod (den_callTy cd_int rfl B.int (by decide +kernel) (den_cons (den_op opd_add (den_ix (dv 1) (dv 2)) (den_op opd_mul (den_ix (dv 1) (den_op opd_sub (dv 2) den_int)) den_int)) den_nil)) den_int) (den_gsubL (W := W0) (dv 1) (dv 2)))))
      (den_bone (den_ret (dv 1))))))

theorem sc__law_draw : FnScope ["m", "limit", "n", "lot", "here", "cell"] ["m", "limit"] (defScope (topS 30)) := ⟨rfl, rfl, rfl, by decide +kernel, rfl, by decide +kernel, by decide +kernel⟩
theorem ok__law_draw {P : Program} {w : World} {K : PySem.W.Frag} {mg : Str → Option Value} {base : Heap} {f : Addr} {fd : FuncData} (F : Fun K "_law_draw" "_law_draw" (topS 30) f fd) (m : mg "_law_draw" = some (.ref f)) (B : Bi mg) (c__law_mixed : Fn P w K mg base "_law_mixed" 1 2 d__law_mixed) : Fn P w K mg base "_law_draw" 2 2 d__law_draw :=
  fn_mk 1 F m sc__law_draw (F.binds fun _ _ _ _ _ _ us hl => match us, hl with | [_, _], _ => rfl) fun cdv A outer s H E hr =>
    have tk := takes_of (X := cxOf (L2.CX P w) P w K mg base ["m", "limit", "n", "lot", "here", "cell"] "_law_draw" (defScope (topS 30)) f cdv A outer s H E) rfl rfl rfl rfl
    have po := passes_of (X := cxOf (L2.CX P w) P w K mg base ["m", "limit", "n", "lot", "here", "cell"] "_law_draw" (defScope (topS 30)) f cdv A outer s H E) rfl
    (den_bcons (den_set (i := 2) sc__law_draw.nd rfl (by first | exact Or.inl rfl | exact Or.inr rfl) (den_dg (hu_of hr) (dv 0) den_str))
      (den_bcons (den_dput (hu_of hr) (dv 0) den_str (den_op opd_add (dv 2) den_int))
      (den_bcons (den_ifS (den_tcmp (opd_ne hr.units) (den_dg (hu_of hr) (dv 0) den_str) (den_lst den_nilV)) (den_bcons (den_set (i := 3) sc__law_draw.nd rfl (by first | exact Or.inl rfl | exact Or.inr rfl) (den_dg (hu_of hr) (dv 0) den_str))
      (den_bcons (den_set (i := 4) sc__law_draw.nd rfl (by first | exact Or.inl rfl | exact Or.inr rfl) (den_op opd_mod (den_callTy cd_int rfl B.int (by decide +kernel) (den_cons (dv 2) den_nil)) (den_callB cd_len rfl B.len (by decide +kernel) (den_cons (dv 3) den_nil))))
      (den_bcons (den_set (i := 5) sc__law_draw.nd rfl (by first | exact Or.inl rfl | exact Or.inr rfl) (den_ix (dv 3) (dv 4)))
      (den_bone (den_ifS (den_tcmp opd_gt (dv 5) den_int) (den_bcons (den_asg (den_op opd_fdiv (dv 5) (dv 1)) (den_gsubL (W := W0) (dv 3) (dv 4)))
      (den_bone (den_ret (den_op opd_mod (den_callTy cd_int rfl B.int (by decide +kernel) (den_cons (dv 5) den_nil)) (dv 1))))) den_bnil))))) den_bnil)
      (den_bcons (den_set (i := 3) sc__law_draw.nd rfl (by first | exact Or.inl rfl | exact Or.inr rfl) (den_dg (hu_of hr) (dv 0) den_str))
      (den_bone (den_ret (den_op opd_mod (den_callTy cd_int rfl B.int (by decide +kernel) (den_cons (den_callF c__law_mixed hr tk (den_consV (den_callF c__law_mixed hr tk (den_consV (den_op opd_add (den_ix (dv 3) (den_op opd_mod (den_callTy cd_int rfl B.int (by decide +kernel) (den_cons (dv 2) den_nil)) den_int)) (den_op opd_mul den_int (den_op opd_fdiv (dv 2) den_int))) (den_consV (dv 2) den_nilV))) (den_consV (den_op opd_add (dv 2) den_int) den_nilV))) den_nil)) (dv 1))))))))

theorem sc__law_begun : FnScope ["script", "m", "cell"] ["script"] (defScope (topS 31)) := ⟨rfl, rfl, rfl, by decide +kernel, rfl, by decide +kernel, by decide +kernel⟩
theorem ok__law_begun {P : Program} {w : World} {K : PySem.W.Frag} {mg : Str → Option Value} {base : Heap} {f : Addr} {fd : FuncData} (F : Fun K "_law_begun" "_law_begun" (topS 31) f fd) (m : mg "_law_begun" = some (.ref f)) (B : Bi mg) (c__law_folded : Fn P w K mg base "_law_folded" 1 1 d__law_folded) : Fn P w K mg base "_law_begun" 2 1 d__law_begun :=
  fn_mk 1 F m sc__law_begun (F.binds fun _ _ _ _ _ _ us hl => match us, hl with | [_], _ => rfl) fun cdv A outer s H E hr =>
    have tk := takes_of (X := cxOf (L2.CX P w) P w K mg base ["script", "m", "cell"] "_law_begun" (defScope (topS 31)) f cdv A outer s H E) rfl rfl rfl rfl
    have po := passes_of (X := cxOf (L2.CX P w) P w K mg base ["script", "m", "cell"] "_law_begun" (defScope (topS 31)) f cdv A outer s H E) rfl
    (den_bcons (den_set (i := 1) sc__law_begun.nd rfl (by first | exact Or.inl rfl | exact Or.inr rfl) (den_disp (den_ppcons den_str (den_callF c__law_folded hr tk (den_consV (dv 0) den_nilV)) (den_ppcons den_str (den_lst den_nilV) (den_ppcons den_str den_int den_ppnil)))))
      (den_bcons (den_dput (hu_of hr) (dv 1) den_str (den_lc (own := [("cell", 2)]) (.one 2) rfl sc__law_begun.nd (den_iseq (dv 0)) rfl (blkOk_by (by kernel_rfl)) (fun _ _ _ _ _ => pg_name (i := 2) sc__law_begun.nd rfl (by first | exact Or.inl rfl | exact Or.inr rfl)) (fun _ _ _ _ _ => den_noif) (fun _ _ _ _ _ => (den_if (den_tcmp opd_ge (dv 2) (den_op opd_pow den_int den_int)) (dv 2) den_int))))
      (den_bone (den_ret (dv 1)))))

theorem sc__law_table : FnScope ["m", "most", "many", "way", "rows", "a", "b", "kind"] ["m", "most"] (defScope (topS 32)) := ⟨rfl, rfl, rfl, by decide +kernel, rfl, by decide +kernel, by decide +kernel⟩
theorem ok__law_table {P : Program} {w : World} {K : PySem.W.Frag} {mg : Str → Option Value} {base : Heap} {f : Addr} {fd : FuncData} (F : Fun K "_law_table" "_law_table" (topS 32) f fd) (m : mg "_law_table" = some (.ref f)) (B : Bi mg) (c__law_draw : Fn P w K mg base "_law_draw" 2 2 d__law_draw) : Fn P w K mg base "_law_table" 3 2 d__law_table :=
  fn_mk 2 F m sc__law_table (F.binds fun _ _ _ _ _ _ us hl => match us, hl with | [_, _], _ => rfl) fun cdv A outer s H E hr =>
    have tk := takes_of (X := cxOf (L2.CX P w) P w K mg base ["m", "most", "many", "way", "rows", "a", "b", "kind"] "_law_table" (defScope (topS 32)) f cdv A outer s H E) rfl rfl rfl rfl
    have po := passes_of (X := cxOf (L2.CX P w) P w K mg base ["m", "most", "many", "way", "rows", "a", "b", "kind"] "_law_table" (defScope (topS 32)) f cdv A outer s H E) rfl
    (den_bcons (den_set (i := 2) sc__law_table.nd rfl (by first | exact Or.inl rfl | exact Or.inr rfl) (den_op opd_add den_int (den_callF c__law_draw hr tk (den_consV (dv 0) (den_consV (dv 1) den_nilV)))))
      (den_bcons (den_set (i := 3) sc__law_table.nd rfl (by first | exact Or.inl rfl | exact Or.inr rfl) (den_callF c__law_draw hr tk (den_consV (dv 0) (den_consV den_int den_nilV))))
      (den_bcons (by first | exact (den_setLc (i := 4) (own := [("a", 5)]) (.one 5) rfl sc__law_table.nd rfl rfl (sw_true rfl rfl rfl (by decide +kernel)) (den_range1 rfl B.range (den_cons (dv 2) den_nil)) rfl (blkOk_by (by kernel_rfl)) (fun _ _ _ _ _ => pg_name (i := 5) sc__law_table.nd rfl (by first | exact Or.inl rfl | exact Or.inr rfl)) (fun _ _ _ _ _ => den_noif) (fun _ _ _ _ _ => (den_lc (own := [("b", 6)]) (.one 6) rfl sc__law_table.nd (den_range1 rfl B.range (den_cons (dv 2) den_nil)) rfl (blkOk_by (by kernel_rfl)) (fun _ _ _ _ _ => pg_name (i := 6) sc__law_table.nd rfl (by first | exact Or.inl rfl | exact Or.inr rfl)) (fun _ _ _ _ _ => den_noif) (fun _ _ _ _ _ => (den_if (den_tcmp (opd_eq hr.units) (dv 5) (dv 6)) den_int den_int))))) | exact den_set (i := 4) sc__law_table.nd rfl (by first | exact Or.inl rfl | exact Or.inr rfl) (den_lc (own := [("a", 5)]) (.one 5) rfl sc__law_table.nd (den_range1 rfl B.range (den_cons (dv 2) den_nil)) rfl (blkOk_by (by kernel_rfl)) (fun _ _ _ _ _ => pg_name (i := 5) sc__law_table.nd rfl (by first | exact Or.inl rfl | exact Or.inr rfl)) (fun _ _ _ _ _ => den_noif) (fun _ _ _ _ _ => (den_lc (own := [("b", 6)]) (.one 6) rfl sc__law_table.nd (den_range1 rfl B.range (den_cons (dv 2) den_nil)) rfl (blkOk_by (by kernel_rfl)) (fun _ _ _ _ _ => pg_name (i := 6) sc__law_table.nd rfl (by first | exact Or.inl rfl | exact Or.inr rfl)) (fun _ _ _ _ _ => den_noif) (fun _ _ _ _ _ => (den_if (den_tcmp (opd_eq hr.units) (dv 5) (dv 6)) den_int den_int))))))
      (den_bcons (den_for po rfl (den_range1 rfl B.range (den_cons (dv 2) den_nil)) (den_gname (i := 5) sc__law_table.nd rfl (by first | exact Or.inl rfl | exact Or.inr rfl)) (den_bone (den_for po rfl (den_range2 rfl B.range (den_cons (den_op opd_add (dv 5) den_int) (den_cons (dv 2) den_nil))) (den_gname (i := 6) sc__law_table.nd rfl (by first | exact Or.inl rfl | exact Or.inr rfl)) (den_bcons (den_set (i := 7) sc__law_table.nd rfl (by first | exact Or.inl rfl | exact Or.inr rfl) den_int)
      (den_bcons (den_ifS (den_tcmp opd_lt (dv 3) den_int) (den_bone (den_set (i := 7) sc__law_table.nd rfl (by first | exact Or.inl rfl | exact Or.inr rfl) (den_ix (den_lst (den_consV den_int (den_consV den_int (den_consV den_int (den_consV den_int (den_consV den_int (den_consV den_int (den_consV den_int (den_consV den_int den_nilV))))))))) (den_callF c__law_draw hr tk (den_consV (dv 0) (den_consV den_int den_nilV)))))) (den_bone (den_ifS (den_tcmp (opd_eq hr.units) (dv 6) (den_op opd_add (dv 5) den_int)) (den_bone (den_set (i := 7) sc__law_table.nd rfl (by first | exact Or.inl rfl | exact Or.inr rfl) (den_if (PW.pt (den_or (den_tcmp opd_lt (dv 6) (den_op opd_sub (dv 2) den_int)) (den_or1 (den_tcmp (opd_eq hr.units) (dv 3) den_int)))) den_int (den_ix (den_lst (den_consV den_int (den_consV den_int (den_consV den_int (den_consV den_int den_nilV))))) (den_callF c__law_draw hr tk (den_consV (dv 0) (den_consV den_int den_nilV))))))) den_bnil)))
      (den_bone (den_asg (den_tup (den_consV (dv 7) (den_consV (dv 7) den_nilV))) (den_gtup rfl (den_gcons (den_gsubL (W := W0) (den_ix (dv 4) (dv 5)) (dv 6)) (den_gcons (den_gsubL (W := W0) (den_ix (dv 4) (dv 6)) (dv 5)) den_gnil))))))))))
      (den_bone (den_ret (dv 4)))))))

theorem sc__law_weight : FnScope ["rows", "a", "b", "low", "high"] ["rows", "a", "b"] (defScope (topS 33)) := ⟨rfl, rfl, rfl, by decide +kernel, rfl, by decide +kernel, by decide +kernel⟩
theorem ok__law_weight {P : Program} {w : World} {K : PySem.W.Frag} {mg : Str → Option Value} {base : Heap} {f : Addr} {fd : FuncData} (F : Fun K "_law_weight" "_law_weight" (topS 33) f fd) (m : mg "_law_weight" = some (.ref f)) (B : Bi mg) : Fn P w K mg base "_law_weight" 1 3 d__law_weight :=
  fn_mk 0 F m sc__law_weight (F.binds fun _ _ _ _ _ _ us hl => match us, hl with | [_, _, _], _ => rfl) fun cdv A outer s H E hr =>
    have tk := takes_of (X := cxOf (L2.CX P w) P w K mg base ["rows", "a", "b", "low", "high"] "_law_weight" (defScope (topS 33)) f cdv A outer s H E) rfl rfl rfl rfl
    have po := passes_of (X := cxOf (L2.CX P w) P w K mg base ["rows", "a", "b", "low", "high"] "_law_weight" (defScope (topS 33)) f cdv A outer s H E) rfl
    (den_bcons (den_ifS (den_tcmp (opd_eq hr.units) (dv 1) (dv 2)) (den_bone (den_ret (den_op opd_sub den_int den_int))) den_bnil)
      (den_bcons (den_asg (den_dg (hu_of hr) (den_disp (den_ppcons den_int (den_tup (den_consV den_int (den_consV den_int den_nilV))) (den_ppcons den_int (den_tup (den_consV den_int (den_consV den_int den_nilV))) (den_ppcons den_int (den_tup (den_consV den_int (den_consV den_int den_nilV))) (den_ppcons den_int (den_tup (den_consV den_int (den_consV den_int den_nilV))) (den_ppcons den_int (den_tup (den_consV den_int (den_consV den_int den_nilV))) den_ppnil)))))) (den_ix (den_ix (dv 0) (den_op opd_sub (dv 1) den_int)) (den_op opd_sub (dv 2) den_int))) (den_gtup rfl (den_gcons (den_gname (i := 3) sc__law_weight.nd rfl (by first | exact Or.inl rfl | exact Or.inr rfl)) (den_gcons (den_gname (i := 4) sc__law_weight.nd rfl (by first | exact Or.inl rfl | exact Or.inr rfl)) den_gnil))))
      (den_bone (den_ret (den_if (den_tcmp opd_lt (dv 1) (dv 2)) (dv 3) (dv 4))))))

theorem sc__law_press : FnScope ["rows", "row", "a", "b"] ["rows", "row", "a"] (defScope (topS 34)) := ⟨rfl, rfl, rfl, by decide +kernel, rfl, by decide +kernel, by decide +kernel⟩
theorem ok__law_press {P : Program} {w : World} {K : PySem.W.Frag} {mg : Str → Option Value} {base : Heap} {f : Addr} {fd : FuncData} (F : Fun K "_law_press" "_law_press" (topS 34) f fd) (m : mg "_law_press" = some (.ref f)) (B : Bi mg) (c__law_weight : Fn P w K mg base "_law_weight" 1 3 d__law_weight) : Fn P w K mg base "_law_press" 2 3 d__law_press :=
  fn_mk 1 F m sc__law_press (F.binds fun _ _ _ _ _ _ us hl => match us, hl with | [_, _, _], _ => rfl) fun cdv A outer s H E hr =>
    have tk := takes_of (X := cxOf (L2.CX P w) P w K mg base ["rows", "row", "a", "b"] "_law_press" (defScope (topS 34)) f cdv A outer s H E) rfl rfl rfl rfl
    have po := passes_of (X := cxOf (L2.CX P w) P w K mg base ["rows", "row", "a", "b"] "_law_press" (defScope (topS 34)) f cdv A outer s H E) rfl
    (den_bone (den_ret (den_callTy cd_tuple rfl B.tuple (by decide +kernel) (den_cons (den_lc (own := [("b", 3)]) (.one 3) rfl sc__law_press.nd (den_range1 rfl B.range (den_cons (den_callB cd_len rfl B.len (by decide +kernel) (den_cons (dv 0) den_nil)) den_nil)) rfl (blkOk_by (by kernel_rfl)) (fun _ _ _ _ _ => pg_name (i := 3) sc__law_press.nd rfl (by first | exact Or.inl rfl | exact Or.inr rfl)) (fun _ _ _ _ _ => den_noif) (fun _ _ _ _ _ => (den_op opd_add (den_ix (dv 1) (dv 3)) (den_op opd_mul (den_callF c__law_weight hr takes_none5 (den_consV (dv 0) (den_consV (dv 2) (den_consV (den_op opd_add (dv 3) den_int) den_nilV)))) (den_ix (dv 1) (den_op opd_sub (dv 2) den_int)))))) den_nil))))

theorem sc__law_word : FnScope ["m", "rows", "most", "found", "way", "here", "n", "letter", "some", "b"] ["m", "rows", "most"] (defScope (topS 35)) := ⟨rfl, rfl, rfl, by decide +kernel, rfl, by decide +kernel, by decide +kernel⟩
theorem ok__law_word {P : Program} {w : World} {K : PySem.W.Frag} {mg : Str → Option Value} {base : Heap} {f : Addr} {fd : FuncData} (F : Fun K "_law_word" "_law_word" (topS 35) f fd) (m : mg "_law_word" = some (.ref f)) (B : Bi mg) (c__law_draw : Fn P w K mg base "_law_draw" 2 2 d__law_draw) (c__law_press : Fn P w K mg base "_law_press" 2 3 d__law_press) : Fn P w K mg base "_law_word" 3 3 d__law_word :=
  fn_mk 2 F m sc__law_word (F.binds fun _ _ _ _ _ _ us hl => match us, hl with | [_, _, _], _ => rfl) fun cdv A outer s H E hr =>
    have tk := takes_of (X := cxOf (L2.CX P w) P w K mg base ["m", "rows", "most", "found", "way", "here", "n", "letter", "some", "b"] "_law_word" (defScope (topS 35)) f cdv A outer s H E) rfl rfl rfl rfl
    have po := passes_of (X := cxOf (L2.CX P w) P w K mg base ["m", "rows", "most", "found", "way", "here", "n", "letter", "some", "b"] "_law_word" (defScope (topS 35)) f cdv A outer s H E) rfl
    (den_bcons (by first | exact den_par3 ((den_consV (den_lst den_nilV) (den_consV (den_callF c__law_draw hr tk (den_consV (dv 0) (den_consV den_int den_nilV))) (den_consV (den_op opd_mul (den_tup (den_consV den_int den_nilV)) (den_callB cd_len rfl B.len (by decide +kernel) (den_cons (dv 1) den_nil))) den_nilV)))) sc__law_word.nd rfl rfl | exact den_parG3 (den_tup (den_consV (den_lst den_nilV) (den_consV (den_callF c__law_draw hr tk (den_consV (dv 0) (den_consV den_int den_nilV))) (den_consV (den_op opd_mul (den_tup (den_consV den_int den_nilV)) (den_callB cd_len rfl B.len (by decide +kernel) (den_cons (dv 1) den_nil))) den_nilV)))) (den_gtup rfl (den_gcons (den_gname (i := 3) sc__law_word.nd rfl (by first | exact Or.inl rfl | exact Or.inr rfl)) (den_gcons (den_gname (i := 4) sc__law_word.nd rfl (by first | exact Or.inl rfl | exact Or.inr rfl)) (den_gcons (den_gname (i := 5) sc__law_word.nd rfl (by first | exact Or.inl rfl | exact Or.inr rfl)) den_gnil)))))
      (den_bcons (den_for po rfl (den_range1 rfl B.range (den_cons (den_callF c__law_draw hr tk (den_consV (dv 0) (den_consV (den_op opd_add (dv 2) den_int) den_nilV))) den_nil)) (den_gname (i := 6) sc__law_word.nd rfl (by first | exact Or.inl rfl | exact Or.inr rfl)) (den_bcons (den_set (i := 7) sc__law_word.nd rfl (by first | exact Or.inl rfl | exact Or.inr rfl) (den_op opd_add den_int (den_callF c__law_draw hr tk (den_consV (dv 0) (den_consV (den_callB cd_len rfl B.len (by decide +kernel) (den_cons (dv 1) den_nil)) den_nilV)))))
      (den_bcons (den_ifS (PW.pt (den_and (den_tcmp opd_gt (dv 4) den_int) (den_and (den_tcmp opd_lt (den_ix (dv 5) (den_op opd_sub (dv 7) den_int)) den_int) (den_and1 (den_tcmp opd_gt (den_callF c__law_draw hr tk (den_consV (dv 0) (den_consV den_int den_nilV))) den_int))))) (den_bcons (by first | exact (den_setLc (i := 8) (own := [("b", 9)]) (.one 9) rfl sc__law_word.nd rfl rfl (sw_true rfl rfl rfl (by decide +kernel)) (den_range1 rfl B.range (den_cons (den_callB cd_len rfl B.len (by decide +kernel) (den_cons (dv 1) den_nil)) den_nil)) rfl (blkOk_by (by kernel_rfl)) (fun _ _ _ _ _ => pg_name (i := 9) sc__law_word.nd rfl (by first | exact Or.inl rfl | exact Or.inr rfl)) (fun _ _ _ _ _ => den_oneif (den_tcmp opd_gt (den_ix (dv 5) (dv 9)) den_int)) (fun _ _ _ _ _ => (den_op opd_add (dv 9) den_int))) | exact den_set (i := 8) sc__law_word.nd rfl (by first | exact Or.inl rfl | exact Or.inr rfl) (den_lc (own := [("b", 9)]) (.one 9) rfl sc__law_word.nd (den_range1 rfl B.range (den_cons (den_callB cd_len rfl B.len (by decide +kernel) (den_cons (dv 1) den_nil)) den_nil)) rfl (blkOk_by (by kernel_rfl)) (fun _ _ _ _ _ => pg_name (i := 9) sc__law_word.nd rfl (by first | exact Or.inl rfl | exact Or.inr rfl)) (fun _ _ _ _ _ => den_oneif (den_tcmp opd_gt (den_ix (dv 5) (dv 9)) den_int)) (fun _ _ _ _ _ => (den_op opd_add (dv 9) den_int))))
      (den_bone (den_set (i := 7) sc__law_word.nd rfl (by first | exact Or.inl rfl | exact Or.inr rfl) (den_if (den_tcmp (opd_ne hr.units) (dv 8) (den_lst den_nilV)) (den_ix (dv 8) (den_callF c__law_draw hr tk (den_consV (dv 0) (den_consV (den_callB cd_len rfl B.len (by decide +kernel) (den_cons (dv 8) den_nil)) den_nilV)))) (dv 7))))) den_bnil)
      (den_bcons (den_expr (den_append (dv 3) (dv 7)))
      (den_bone (den_set (i := 5) sc__law_word.nd rfl (by first | exact Or.inl rfl | exact Or.inr rfl) (den_callF c__law_press hr tk (den_consV (dv 1) (den_consV (dv 5) (den_consV (dv 7) den_nilV))))))))))
      (den_bone (den_ret (den_callTy cd_tuple rfl B.tuple (by decide +kernel) (den_cons (dv 3) den_nil))))))

theorem sc__law_stretch : FnScope ["a", "b", "many", "n"] ["a", "b", "many"] (defScope (topS 36)) := ⟨rfl, rfl, rfl, by decide +kernel, rfl, by decide +kernel, by decide +kernel⟩
theorem ok__law_stretch {P : Program} {w : World} {K : PySem.W.Frag} {mg : Str → Option Value} {base : Heap} {f : Addr} {fd : FuncData} (F : Fun K "_law_stretch" "_law_stretch" (topS 36) f fd) (m : mg "_law_stretch" = some (.ref f)) (B : Bi mg) : Fn P w K mg base "_law_stretch" 1 3 d__law_stretch :=
  fn_mk 0 F m sc__law_stretch (F.binds fun _ _ _ _ _ _ us hl => match us, hl with | [_, _, _], _ => rfl) fun cdv A outer s H E hr =>
    have tk := takes_of (X := cxOf (L2.CX P w) P w K mg base ["a", "b", "many", "n"] "_law_stretch" (defScope (topS 36)) f cdv A outer s H E) rfl rfl rfl rfl
    have po := passes_of (X := cxOf (L2.CX P w) P w K mg base ["a", "b", "many", "n"] "_law_stretch" (defScope (topS 36)) f cdv A outer s H E) rfl
    (den_bone (den_ret (den_callTy cd_tuple rfl B.tuple (by decide +kernel) (den_cons (den_lc (own := [("n", 3)]) (.one 3) rfl sc__law_stretch.nd (den_range1 rfl B.range (den_cons (dv 2) den_nil)) rfl (blkOk_by (by kernel_rfl)) (fun _ _ _ _ _ => pg_name (i := 3) sc__law_stretch.nd rfl (by first | exact Or.inl rfl | exact Or.inr rfl)) (fun _ _ _ _ _ => den_noif) (fun _ _ _ _ _ => (den_ix (den_lst (den_consV (dv 0) (den_consV (dv 1) den_nilV))) (den_op opd_mod (den_callTy cd_int rfl B.int (by decide +kernel) (den_cons (dv 3) den_nil)) den_int)))) den_nil))))

theorem sc__law_pressed : FnScope ["bonds", "row", "word", "letter"] ["bonds", "row", "word"] (defScope (topS 37)) := ⟨rfl, rfl, rfl, by decide +kernel, rfl, by decide +kernel, by decide +kernel⟩
theorem ok__law_pressed {P : Program} {w : World} {K : PySem.W.Frag} {mg : Str → Option Value} {base : Heap} {f : Addr} {fd : FuncData} (F : Fun K "_law_pressed" "_law_pressed" (topS 37) f fd) (m : mg "_law_pressed" = some (.ref f)) (B : Bi mg) (c_press : Fn P w K mg base "press" 6 3 d_press) : Fn P w K mg base "_law_pressed" 7 3 d__law_pressed :=
  fn_mk 6 F m sc__law_pressed (F.binds fun _ _ _ _ _ _ us hl => match us, hl with | [_, _, _], _ => rfl) fun cdv A outer s H E hr =>
    have tk := takes_of (X := cxOf (L2.CX P w) P w K mg base ["bonds", "row", "word", "letter"] "_law_pressed" (defScope (topS 37)) f cdv A outer s H E) rfl rfl rfl rfl
    have po := passes_of (X := cxOf (L2.CX P w) P w K mg base ["bonds", "row", "word", "letter"] "_law_pressed" (defScope (topS 37)) f cdv A outer s H E) rfl
    (den_bcons (den_for po rfl (den_iseq (dv 2)) (den_gname (i := 3) sc__law_pressed.nd rfl (by first | exact Or.inl rfl | exact Or.inr rfl)) (den_bone (den_set (i := 1) sc__law_pressed.nd rfl (by first | exact Or.inl rfl | exact Or.inr rfl) (den_callF c_press hr tk (den_consV (dv 0) (den_consV (dv 1) (den_consV (dv 3) den_nilV)))))))
      (den_bone (den_ret (dv 1))))

theorem sc__law_pair_right : FnScope ["bonds", "rows", "row", "a", "b", "many", "ones", "less", "near", "far"] ["bonds", "rows", "row", "a", "b"] (defScope (topS 38)) := ⟨rfl, rfl, rfl, by decide +kernel, rfl, by decide +kernel, by decide +kernel⟩
theorem ok__law_pair_right {P : Program} {w : World} {K : PySem.W.Frag} {mg : Str → Option Value} {base : Heap} {f : Addr} {fd : FuncData} (F : Fun K "_law_pair_right" "_law_pair_right" (topS 38) f fd) (m : mg "_law_pair_right" = some (.ref f)) (B : Bi mg) (c__law_stretch : Fn P w K mg base "_law_stretch" 1 3 d__law_stretch) (c__law_pressed : Fn P w K mg base "_law_pressed" 7 3 d__law_pressed) : Fn P w K mg base "_law_pair_right" 8 5 d__law_pair_right :=
  fn_mk 7 F m sc__law_pair_right (F.binds fun _ _ _ _ _ _ us hl => match us, hl with | [_, _, _, _, _], _ => rfl) fun cdv A outer s H E hr =>
    have tk := takes_of (X := cxOf (L2.CX P w) P w K mg base ["bonds", "rows", "row", "a", "b", "many", "ones", "less", "near", "far"] "_law_pair_right" (defScope (topS 38)) f cdv A outer s H E) rfl rfl rfl rfl
    have po := passes_of (X := cxOf (L2.CX P w) P w K mg base ["bonds", "rows", "row", "a", "b", "many", "ones", "less", "near", "far"] "_law_pair_right" (defScope (topS 38)) f cdv A outer s H E) rfl
    (den_bcons (by first | exact den_par2 ((den_consV (den_ix (den_ix (dv 1) (den_op opd_sub (dv 3) den_int)) (den_op opd_sub (dv 4) den_int)) (den_consV (den_op opd_mul (den_tup (den_consV den_int den_nilV)) (den_callB cd_len rfl B.len (by decide +kernel) (den_cons (dv 1) den_nil))) den_nilV))) sc__law_pair_right.nd rfl rfl | exact den_parG2 (den_tup (den_consV (den_ix (den_ix (dv 1) (den_op opd_sub (dv 3) den_int)) (den_op opd_sub (dv 4) den_int)) (den_consV (den_op opd_mul (den_tup (den_consV den_int den_nilV)) (den_callB cd_len rfl B.len (by decide +kernel) (den_cons (dv 1) den_nil))) den_nilV))) (den_gtup rfl (den_gcons (den_gname (i := 5) sc__law_pair_right.nd rfl (by first | exact Or.inl rfl | exact Or.inr rfl)) (den_gcons (den_gname (i := 6) sc__law_pair_right.nd rfl (by first | exact Or.inl rfl | exact Or.inr rfl)) den_gnil))))
      (den_bcons (den_ifS (den_tcmp opd_gt (dv 5) den_int) (den_bone (den_ifS (den_tcmp (opd_ne hr.units) (den_callF c__law_pressed hr tk (den_consV (dv 0) (den_consV (dv 2) (den_consV (den_callF c__law_stretch hr tk (den_consV (dv 3) (den_consV (dv 4) (den_consV (dv 5) den_nilV)))) den_nilV)))) (den_callF c__law_pressed hr tk (den_consV (dv 0) (den_consV (dv 2) (den_consV (den_callF c__law_stretch hr tk (den_consV (dv 4) (den_consV (dv 3) (den_consV (dv 5) den_nilV)))) den_nilV))))) (den_bone (den_ret den_bl)) den_bnil)) den_bnil)
      (den_bcons (den_for po rfl (den_range2 rfl B.range (den_cons den_int (den_cons (den_if (den_tcmp opd_gt (dv 5) den_int) (dv 5) den_int) den_nil))) (den_gname (i := 7) sc__law_pair_right.nd rfl (by first | exact Or.inl rfl | exact Or.inr rfl)) (den_bcons (by first | exact den_par2 ((den_consV (den_callF c__law_stretch hr tk (den_consV (dv 3) (den_consV (dv 4) (den_consV (dv 7) den_nilV)))) (den_consV (den_callF c__law_stretch hr tk (den_consV (dv 4) (den_consV (dv 3) (den_consV (dv 7) den_nilV)))) den_nilV))) sc__law_pair_right.nd rfl rfl | exact den_parG2 (den_tup (den_consV (den_callF c__law_stretch hr tk (den_consV (dv 3) (den_consV (dv 4) (den_consV (dv 7) den_nilV)))) (den_consV (den_callF c__law_stretch hr tk (den_consV (dv 4) (den_consV (dv 3) (den_consV (dv 7) den_nilV)))) den_nilV))) (den_gtup rfl (den_gcons (den_gname (i := 8) sc__law_pair_right.nd rfl (by first | exact Or.inl rfl | exact Or.inr rfl)) (den_gcons (den_gname (i := 9) sc__law_pair_right.nd rfl (by first | exact Or.inl rfl | exact Or.inr rfl)) den_gnil))))
      (den_bone (den_ifS (den_tcmp (opd_eq hr.units) (den_callF c__law_pressed hr tk (den_consV (dv 0) (den_consV (dv 6) (den_consV (dv 8) den_nilV)))) (den_callF c__law_pressed hr tk (den_consV (dv 0) (den_consV (dv 6) (den_consV (dv 9) den_nilV))))) (den_bone (den_ret den_bl)) den_bnil))))
      (den_bone (den_ret den_bl)))))

theorem sc_law : FnScope ["script", "m", "most", "rows", "bonds", "word", "row", "a", "b", "k"] ["script"] (defScope (topS 39)) := ⟨rfl, rfl, rfl, by decide +kernel, rfl, by decide +kernel, by decide +kernel⟩
theorem ok_law {P : Program} {w : World} {K : PySem.W.Frag} {mg : Str → Option Value} {base : Heap} {f : Addr} {fd : FuncData} (F : Fun K "law" "law" (topS 39) f fd) (B : Bi mg) (c__law_begun : Fn P w K mg base "_law_begun" 2 1 d__law_begun) (c__law_table : Fn P w K mg base "_law_table" 3 2 d__law_table) (c_Bonds___init__ : Mkr P w K mg base "Bonds" 5 2 d_Bonds___init__) (c__law_word : Fn P w K mg base "_law_word" 3 3 d__law_word) (c__law_draw : Fn P w K mg base "_law_draw" 2 2 d__law_draw) (c__law_pair_right : Fn P w K mg base "_law_pair_right" 8 5 d__law_pair_right) (c_row_of : Fn P w K mg base "row_of" 7 2 d_row_of) : FnG P w K mg base 9 f fd ["script"] (spF K mg 1 d_law) :=
  fng_ok F sc_law fun cdv A outer s H E hr hG =>
    have tk := takes_of (X := cxOf (L2.CX P w) P w K mg base ["script", "m", "most", "rows", "bonds", "word", "row", "a", "b", "k"] "law" (defScope (topS 39)) f cdv A outer s H E) rfl rfl rfl rfl
    have po := passes_of (X := cxOf (L2.CX P w) P w K mg base ["script", "m", "most", "rows", "bonds", "word", "row", "a", "b", "k"] "law" (defScope (topS 39)) f cdv A outer s H E) rfl
    (den_bcons (den_set (i := 1) sc_law.nd rfl (by first | exact Or.inl rfl | exact Or.inr rfl) (den_callF c__law_begun hr tk (den_consV (dv 0) den_nilV)))
      (den_bcons (den_for po rfl (den_iseq (den_tup (den_consV den_int (den_consV den_int (den_consV den_int den_nilV))))) (den_gname (i := 2) sc_law.nd rfl (by first | exact Or.inl rfl | exact Or.inr rfl)) (den_bcons (den_set (i := 3) sc_law.nd rfl (by first | exact Or.inl rfl | exact Or.inr rfl) (den_callF c__law_table hr tk (den_consV (dv 1) (den_consV den_int den_nilV))))
      (den_bcons (by first | exact den_par2 ((den_consV (den_make c_Bonds___init__ hr tk wc_E (den_consV (dv 3) den_nilV)) (den_consV (den_callF c__law_word hr tk (den_consV (dv 1) (den_consV (dv 3) (den_consV (dv 2) den_nilV)))) den_nilV))) sc_law.nd rfl rfl | exact den_parG2 (den_tup (den_consV (den_make c_Bonds___init__ hr tk wc_E (den_consV (dv 3) den_nilV)) (den_consV (den_callF c__law_word hr tk (den_consV (dv 1) (den_consV (dv 3) (den_consV (dv 2) den_nilV)))) den_nilV))) (den_gtup rfl (den_gcons (den_gname (i := 4) sc_law.nd rfl (by first | exact Or.inl rfl | exact Or.inr rfl)) (den_gcons (den_gname (i := 5) sc_law.nd rfl (by first | exact Or.inl rfl | exact Or.inr rfl)) den_gnil))))
      (den_bcons (den_set (i := 6) sc_law.nd rfl (by first | exact Or.inl rfl | exact Or.inr rfl) (den_callTy cd_tuple rfl B.tuple (by decide +kernel) (den_cons (den_lc (own := [("b", 8)]) (.one 8) rfl sc_law.nd (den_iseq (dv 3)) rfl (blkOk_by (by kernel_rfl)) (fun _ _ _ _ _ => pg_name (i := 8) sc_law.nd rfl (by first | exact Or.inl rfl | exact Or.inr rfl)) (fun _ _ _ _ _ => den_noif) (fun _ _ _ _ _ => (den_op opd_sub (den_callF c__law_draw hr takes_none5 (den_consV (dv 1) (den_consV (den_op opd_pow den_int den_int) den_nilV))) (den_op opd_pow den_int den_int)))) den_nil)))
      (den_bcons (den_for po rfl (den_range2 rfl B.range (den_cons den_int (den_cons (den_op opd_add (den_callB cd_len rfl B.len (by decide +kernel) (den_cons (dv 3) den_nil)) den_int) den_nil))) (den_gname (i := 7) sc_law.nd rfl (by first | exact Or.inl rfl | exact Or.inr rfl)) (den_bone (den_for po rfl (den_range2 rfl B.range (den_cons den_int (den_cons (den_op opd_add (den_callB cd_len rfl B.len (by decide +kernel) (den_cons (dv 3) den_nil)) den_int) den_nil))) (den_gname (i := 8) sc_law.nd rfl (by first | exact Or.inl rfl | exact Or.inr rfl)) (den_bone (den_ifS (PW.pt (den_and (den_tcmp (opd_ne hr.units) (dv 7) (dv 8)) (den_and1 (den_tnot (den_tval (den_callF c__law_pair_right hr tk (den_consV (dv 4) (den_consV (dv 3) (den_consV (dv 6) (den_consV (dv 7) (den_consV (dv 8) den_nilV))))))))))) (den_bone (den_ret den_bl)) den_bnil)))))
      (den_bone (den_for po rfl (den_range1 rfl B.range (den_cons (den_op opd_add (den_callB cd_len rfl B.len (by decide +kernel) (den_cons (dv 5) den_nil)) den_int) den_nil)) (den_gname (i := 9) sc_law.nd rfl (by first | exact Or.inl rfl | exact Or.inr rfl)) (den_bone (den_ifS (den_tcmp opd_in den_int (den_callF c_row_of hr tk (den_consV (dv 4) (den_consV (den_sl (dv 5) den_pnone (den_psome (dv 9))) den_nilV)))) (den_bone (den_ret den_bl)) den_bnil)))))))))
      (den_bone (den_ret den_bl))))

theorem all_mk {P q : Program} {w : World} {K : PySem.W.Frag} {h : Heap} {mg : Str → Option Value} {fa : Addr} (X : K.In h) (G : h.Ns mainGlobals mg) (hfa : mg "law" = some (.ref fa))
    {p_KINDS : Addr} {n_KINDS : Nat} {d_KINDS : Option Addr} {s_KINDS : Array (Option Value)} {t_KINDS0 : Tok} {t_KINDS1 : Tok} {t_KINDS2 : Tok} {t_KINDS3 : Tok} {t_KINDS4 : Tok}
    {t_MOST_LETTERS : Tok}
    {p_WEIGHTS : Addr} {n_WEIGHTS : Nat}
    {t_WEIGHTS0 ta_WEIGHTS0 tb_WEIGHTS0 : Tok} {q_WEIGHTS0 : Addr} {n_WEIGHTS0 : Nat} {d_WEIGHTS0 : Option Addr} {s_WEIGHTS0 : Array (Option Value)}
    {t_WEIGHTS1 ta_WEIGHTS1 tb_WEIGHTS1 : Tok} {q_WEIGHTS1 : Addr} {n_WEIGHTS1 : Nat} {d_WEIGHTS1 : Option Addr} {s_WEIGHTS1 : Array (Option Value)}
    {t_WEIGHTS2 ta_WEIGHTS2 tb_WEIGHTS2 : Tok} {q_WEIGHTS2 : Addr} {n_WEIGHTS2 : Nat} {d_WEIGHTS2 : Option Addr} {s_WEIGHTS2 : Array (Option Value)}
    {t_WEIGHTS3 ta_WEIGHTS3 tb_WEIGHTS3 : Tok} {q_WEIGHTS3 : Addr} {n_WEIGHTS3 : Nat} {d_WEIGHTS3 : Option Addr} {s_WEIGHTS3 : Array (Option Value)}
    {t_WEIGHTS4 ta_WEIGHTS4 tb_WEIGHTS4 : Tok} {q_WEIGHTS4 : Addr} {n_WEIGHTS4 : Nat} {d_WEIGHTS4 : Option Addr} {s_WEIGHTS4 : Array (Option Value)}
    {t_MOST_WORD : Tok}
    {C_BadBonds : Addr}
    {C_BadWord : Addr}
    {C_BadRow : Addr}
    {C_BadNumber : Addr}
    {C_TooGreat : Addr}
    {fI_BadBonds cda_BadBonds cc_BadBonds : Addr} {oc_BadBonds kV_BadBonds doc_BadBonds pm_BadBonds ct_BadBonds : Value} {od_BadBonds an_BadBonds : Option Addr} {osl_BadBonds : Array (Option Value)} {vs_BadBonds : Array Value} {ccl_BadBonds cl_BadBonds : Value} {cdd_BadBonds cld_BadBonds : Option Addr} {ccs_BadBonds csl_BadBonds : Array (Option Value)} {tf_BadBonds : Tok}
    {fI_TooGreat cda_TooGreat cc_TooGreat : Addr} {oc_TooGreat kV_TooGreat doc_TooGreat pm_TooGreat ct_TooGreat : Value} {od_TooGreat an_TooGreat : Option Addr} {osl_TooGreat : Array (Option Value)} {vs_TooGreat : Array Value} {ccl_TooGreat cl_TooGreat : Value} {cdd_TooGreat cld_TooGreat : Option Addr} {ccs_TooGreat csl_TooGreat : Array (Option Value)} {tf_TooGreat : Tok}
    {fI_BadNumber cda_BadNumber cc_BadNumber : Addr} {oc_BadNumber kV_BadNumber doc_BadNumber pm_BadNumber ct_BadNumber : Value} {od_BadNumber an_BadNumber : Option Addr} {osl_BadNumber : Array (Option Value)} {vs_BadNumber : Array Value} {ccl_BadNumber cl_BadNumber : Value} {cdd_BadNumber cld_BadNumber : Option Addr} {ccs_BadNumber csl_BadNumber : Array (Option Value)} {tf_BadNumber : Tok}
    {fI_BadWord cda_BadWord cc_BadWord : Addr} {oc_BadWord kV_BadWord doc_BadWord pm_BadWord ct_BadWord : Value} {od_BadWord an_BadWord : Option Addr} {osl_BadWord : Array (Option Value)} {vs_BadWord : Array Value} {ccl_BadWord cl_BadWord : Value} {cdd_BadWord cld_BadWord : Option Addr} {ccs_BadWord csl_BadWord : Array (Option Value)} {tf_BadWord : Tok}
    {fI_BadRow cda_BadRow cc_BadRow : Addr} {oc_BadRow kV_BadRow doc_BadRow pm_BadRow ct_BadRow : Value} {od_BadRow an_BadRow : Option Addr} {osl_BadRow : Array (Option Value)} {vs_BadRow : Array Value} {ccl_BadRow cl_BadRow : Value} {cdd_BadRow cld_BadRow : Option Addr} {ccs_BadRow csl_BadRow : Array (Option Value)} {tf_BadRow : Tok}
    {C p : Addr}
    {f_is_whole : Addr} {od_is_whole an_is_whole : Option Addr} {sl_is_whole : Array (Option Value)} {oc_is_whole kV_is_whole dc_is_whole pm_is_whole ct_is_whole : Value}
    {cd_is_whole : Value}
    {f_is_among : Addr} {od_is_among an_is_among : Option Addr} {sl_is_among : Array (Option Value)} {oc_is_among kV_is_among dc_is_among pm_is_among ct_is_among : Value}
    {cd_is_among : Value}
    {f_is_list : Addr} {od_is_list an_is_list : Option Addr} {sl_is_list : Array (Option Value)} {oc_is_list kV_is_list dc_is_list pm_is_list ct_is_list : Value}
    {cd_is_list : Value}
    {f_is_bond : Addr} {od_is_bond an_is_bond : Option Addr} {sl_is_bond : Array (Option Value)} {oc_is_bond kV_is_bond dc_is_bond pm_is_bond ct_is_bond : Value}
    {cd_is_bond : Value}
    {f_need_rows : Addr} {od_need_rows an_need_rows : Option Addr} {sl_need_rows : Array (Option Value)} {oc_need_rows kV_need_rows dc_need_rows pm_need_rows ct_need_rows : Value}
    {cd_need_rows : Value}
    {f_Bonds___init__ : Addr} {od_Bonds___init__ an_Bonds___init__ : Option Addr} {sl_Bonds___init__ : Array (Option Value)} {oc_Bonds___init__ kV_Bonds___init__ dc_Bonds___init__ pm_Bonds___init__ ct_Bonds___init__ : Value}
    {cd_Bonds___init__ : Value}
    {f_Bonds___len__ : Addr} {od_Bonds___len__ an_Bonds___len__ : Option Addr} {sl_Bonds___len__ : Array (Option Value)} {oc_Bonds___len__ kV_Bonds___len__ dc_Bonds___len__ pm_Bonds___len__ ct_Bonds___len__ : Value}
    {cd_Bonds___len__ : Value}
    {f_Bonds_need_letter : Addr} {od_Bonds_need_letter an_Bonds_need_letter : Option Addr} {sl_Bonds_need_letter : Array (Option Value)} {oc_Bonds_need_letter kV_Bonds_need_letter dc_Bonds_need_letter pm_Bonds_need_letter ct_Bonds_need_letter : Value}
    {cd_Bonds_need_letter : Value}
    {f_Bonds_weight : Addr} {od_Bonds_weight an_Bonds_weight : Option Addr} {sl_Bonds_weight : Array (Option Value)} {oc_Bonds_weight kV_Bonds_weight dc_Bonds_weight pm_Bonds_weight ct_Bonds_weight : Value}
    {cd_Bonds_weight : Value}
    {f_need_word : Addr} {od_need_word an_need_word : Option Addr} {sl_need_word : Array (Option Value)} {oc_need_word kV_need_word dc_need_word pm_need_word ct_need_word : Value}
    {cd_need_word : Value}
    {f_start : Addr} {od_start an_start : Option Addr} {sl_start : Array (Option Value)} {oc_start kV_start dc_start pm_start ct_start : Value}
    {cd_start : Value}
    {f_need_row : Addr} {od_need_row an_need_row : Option Addr} {sl_need_row : Array (Option Value)} {oc_need_row kV_need_row dc_need_row pm_need_row ct_need_row : Value}
    {cd_need_row : Value}
    {f_pressed : Addr} {od_pressed an_pressed : Option Addr} {sl_pressed : Array (Option Value)} {oc_pressed kV_pressed dc_pressed pm_pressed ct_pressed : Value}
    {cd_pressed : Value}
    {f_press : Addr} {od_press an_press : Option Addr} {sl_press : Array (Option Value)} {oc_press kV_press dc_press pm_press ct_press : Value}
    {cd_press : Value}
    {f_row_by : Addr} {od_row_by an_row_by : Option Addr} {sl_row_by : Array (Option Value)} {oc_row_by kV_row_by dc_row_by pm_row_by ct_row_by : Value}
    {cd_row_by : Value}
    {f_row_of : Addr} {od_row_of an_row_of : Option Addr} {sl_row_of : Array (Option Value)} {oc_row_of kV_row_of dc_row_of pm_row_of ct_row_of : Value}
    {cd_row_of : Value}
    {f__law_mixed : Addr} {od__law_mixed an__law_mixed : Option Addr} {sl__law_mixed : Array (Option Value)} {oc__law_mixed kV__law_mixed dc__law_mixed pm__law_mixed ct__law_mixed : Value}
    {cd__law_mixed : Value}
    {f__law_folded : Addr} {od__law_folded an__law_folded : Option Addr} {sl__law_folded : Array (Option Value)} {oc__law_folded kV__law_folded dc__law_folded pm__law_folded ct__law_folded : Value}
    {cd__law_folded : Value}
    {f__law_draw : Addr} {od__law_draw an__law_draw : Option Addr} {sl__law_draw : Array (Option Value)} {oc__law_draw kV__law_draw dc__law_draw pm__law_draw ct__law_draw : Value}
    {cd__law_draw : Value}
    {f__law_begun : Addr} {od__law_begun an__law_begun : Option Addr} {sl__law_begun : Array (Option Value)} {oc__law_begun kV__law_begun dc__law_begun pm__law_begun ct__law_begun : Value}
    {cd__law_begun : Value}
    {f__law_table : Addr} {od__law_table an__law_table : Option Addr} {sl__law_table : Array (Option Value)} {oc__law_table kV__law_table dc__law_table pm__law_table ct__law_table : Value}
    {cd__law_table : Value}
    {f__law_weight : Addr} {od__law_weight an__law_weight : Option Addr} {sl__law_weight : Array (Option Value)} {oc__law_weight kV__law_weight dc__law_weight pm__law_weight ct__law_weight : Value}
    {cd__law_weight : Value}
    {f__law_press : Addr} {od__law_press an__law_press : Option Addr} {sl__law_press : Array (Option Value)} {oc__law_press kV__law_press dc__law_press pm__law_press ct__law_press : Value}
    {cd__law_press : Value}
    {f__law_word : Addr} {od__law_word an__law_word : Option Addr} {sl__law_word : Array (Option Value)} {oc__law_word kV__law_word dc__law_word pm__law_word ct__law_word : Value}
    {cd__law_word : Value}
    {f__law_stretch : Addr} {od__law_stretch an__law_stretch : Option Addr} {sl__law_stretch : Array (Option Value)} {oc__law_stretch kV__law_stretch dc__law_stretch pm__law_stretch ct__law_stretch : Value}
    {cd__law_stretch : Value}
    {f__law_pressed : Addr} {od__law_pressed an__law_pressed : Option Addr} {sl__law_pressed : Array (Option Value)} {oc__law_pressed kV__law_pressed dc__law_pressed pm__law_pressed ct__law_pressed : Value}
    {cd__law_pressed : Value}
    {f__law_pair_right : Addr} {od__law_pair_right an__law_pair_right : Option Addr} {sl__law_pair_right : Array (Option Value)} {oc__law_pair_right kV__law_pair_right dc__law_pair_right pm__law_pair_right ct__law_pair_right : Value}
    {cd__law_pair_right : Value}
    {f_law : Addr} {od_law an_law : Option Addr} {sl_law : Array (Option Value)} {oc_law kV_law dc_law pm_law ct_law : Value}
    {cd_law : Value}
    (z_len : PySem.W.nsIn K mainGlobals "len" = some none)
    (z_tuple : PySem.W.nsIn K mainGlobals "tuple" = some none)
    (z_list : PySem.W.nsIn K mainGlobals "list" = some none)
    (z_int : PySem.W.nsIn K mainGlobals "int" = some none)
    (z_range : PySem.W.nsIn K mainGlobals "range" = some none)
    (z_enumerate : PySem.W.nsIn K mainGlobals "enumerate" = some none)
    (z_zip : PySem.W.nsIn K mainGlobals "zip" = some none)
    (z_isinstance : PySem.W.nsIn K mainGlobals "isinstance" = some none)
    (z_all : PySem.W.nsIn K mainGlobals "all" = some none)
    (z_any : PySem.W.nsIn K mainGlobals "any" = some none)
    (z_sum : PySem.W.nsIn K mainGlobals "sum" = some none)
    (z_min : PySem.W.nsIn K mainGlobals "min" = some none)
    (z_max : PySem.W.nsIn K mainGlobals "max" = some none)
    (z_sorted : PySem.W.nsIn K mainGlobals "sorted" = some none)
    (z_repr : PySem.W.nsIn K mainGlobals "repr" = some none)
    (z_str : PySem.W.nsIn K mainGlobals "str" = some none)
    (z_set : PySem.W.nsIn K mainGlobals "set" = some none)
    (z_bool : PySem.W.nsIn K mainGlobals "bool" = some none)
    (z_super : PySem.W.nsIn K mainGlobals "super" = some none)
    (z_ValueError : PySem.W.nsIn K mainGlobals "ValueError" = some none)
    (z_OverflowError : PySem.W.nsIn K mainGlobals "OverflowError" = some none)
    (a_KINDS : PySem.W.nsIn K mainGlobals "KINDS" = some (some (.ref p_KINDS)))
    (l_KINDS : K.lookup p_KINDS = some ⟨.type "tuple", d_KINDS, .seq #[.int 2 t_KINDS0, .int 3 t_KINDS1, .int 4 t_KINDS2, .int 6 t_KINDS3, .int 0 t_KINDS4] n_KINDS, s_KINDS⟩)
    (a_MOST_LETTERS : PySem.W.nsIn K mainGlobals "MOST_LETTERS" = some (some (.int 6 t_MOST_LETTERS)))
    (a_WEIGHTS : PySem.W.nsIn K mainGlobals "WEIGHTS" = some (some (.ref p_WEIGHTS)))
    (l_WEIGHTS : K.lookup p_WEIGHTS = some ⟨.type "dict", none, .dict #[⟨2, .int 2 t_WEIGHTS0, .ref q_WEIGHTS0⟩, ⟨3, .int 3 t_WEIGHTS1, .ref q_WEIGHTS1⟩, ⟨4, .int 4 t_WEIGHTS2, .ref q_WEIGHTS2⟩, ⟨6, .int 6 t_WEIGHTS3, .ref q_WEIGHTS3⟩, ⟨0, .int 0 t_WEIGHTS4, .ref q_WEIGHTS4⟩] n_WEIGHTS, #[]⟩)
    (l_WEIGHTS0 : K.lookup q_WEIGHTS0 = some ⟨.type "tuple", d_WEIGHTS0, .seq #[.int 0 ta_WEIGHTS0, .int 0 tb_WEIGHTS0] n_WEIGHTS0, s_WEIGHTS0⟩)
    (l_WEIGHTS1 : K.lookup q_WEIGHTS1 = some ⟨.type "tuple", d_WEIGHTS1, .seq #[.int 1 ta_WEIGHTS1, .int 1 tb_WEIGHTS1] n_WEIGHTS1, s_WEIGHTS1⟩)
    (l_WEIGHTS2 : K.lookup q_WEIGHTS2 = some ⟨.type "tuple", d_WEIGHTS2, .seq #[.int 1 ta_WEIGHTS2, .int 2 tb_WEIGHTS2] n_WEIGHTS2, s_WEIGHTS2⟩)
    (l_WEIGHTS3 : K.lookup q_WEIGHTS3 = some ⟨.type "tuple", d_WEIGHTS3, .seq #[.int 1 ta_WEIGHTS3, .int 3 tb_WEIGHTS3] n_WEIGHTS3, s_WEIGHTS3⟩)
    (l_WEIGHTS4 : K.lookup q_WEIGHTS4 = some ⟨.type "tuple", d_WEIGHTS4, .seq #[.int 2 ta_WEIGHTS4, .int 2 tb_WEIGHTS4] n_WEIGHTS4, s_WEIGHTS4⟩)
    (a_MOST_WORD : PySem.W.nsIn K mainGlobals "MOST_WORD" = some (some (.int 60 t_MOST_WORD)))
    (a_BadBonds : PySem.W.nsIn K mainGlobals "BadBonds" = some (some (.ref C_BadBonds)))
    (a_BadWord : PySem.W.nsIn K mainGlobals "BadWord" = some (some (.ref C_BadWord)))
    (a_BadRow : PySem.W.nsIn K mainGlobals "BadRow" = some (some (.ref C_BadRow)))
    (a_BadNumber : PySem.W.nsIn K mainGlobals "BadNumber" = some (some (.ref C_BadNumber)))
    (a_TooGreat : PySem.W.nsIn K mainGlobals "TooGreat" = some (some (.ref C_TooGreat)))
    (xb_BadBonds : xB K C_BadBonds false = true)
    (xi_BadBonds : PySem.W.findIn K (.ref C_BadBonds) "__init__" = some (some (.ref fI_BadBonds)))
    (xl_BadBonds : K.lookup fI_BadBonds = some ⟨oc_BadBonds, od_BadBonds, .func (PySem.W.ksFn "__init__" "BadBonds.__init__" (defArgs (inClass (topS 3) 0)) (defBody (inClass (topS 3) 0)) (defScope (inClass (topS 3) 0)) .none kV_BadBonds doc_BadBonds pm_BadBonds an_BadBonds (.ref cda_BadBonds) ct_BadBonds cc_BadBonds), osl_BadBonds⟩)
    (xc_BadBonds : PySem.W.codeIn K (.ref cda_BadBonds) "BadBonds.__init__" = true)
    (xd_BadBonds : K.lookup cda_BadBonds = some ⟨ccl_BadBonds, cdd_BadBonds, .fields vs_BadBonds, ccs_BadBonds⟩)
    (xv_BadBonds : vs_BadBonds[2]? = some (.str P.main.file tf_BadBonds))
    (xe_BadBonds : K.lookup cc_BadBonds = some ⟨cl_BadBonds, cld_BadBonds, .cell (some (.ref C_BadBonds)), csl_BadBonds⟩)
    (xf_BadBonds : PySem.W.isFn K (.ref fI_BadBonds) = true)
    (xs_BadBonds : xscB P (defArgs (inClass (topS 3) 0)) (defScope (inClass (topS 3) 0)) = true)
    (xg_BadBonds : PySem.W.findIn K (.ref C_BadBonds) "place" = some none)
    (xb_TooGreat : xB K C_TooGreat true = true)
    (xi_TooGreat : PySem.W.findIn K (.ref C_TooGreat) "__init__" = some (some (.ref fI_TooGreat)))
    (xl_TooGreat : K.lookup fI_TooGreat = some ⟨oc_TooGreat, od_TooGreat, .func (PySem.W.ksFn "__init__" "TooGreat.__init__" (defArgs (inClass (topS 7) 0)) (defBody (inClass (topS 7) 0)) (defScope (inClass (topS 7) 0)) .none kV_TooGreat doc_TooGreat pm_TooGreat an_TooGreat (.ref cda_TooGreat) ct_TooGreat cc_TooGreat), osl_TooGreat⟩)
    (xc_TooGreat : PySem.W.codeIn K (.ref cda_TooGreat) "TooGreat.__init__" = true)
    (xd_TooGreat : K.lookup cda_TooGreat = some ⟨ccl_TooGreat, cdd_TooGreat, .fields vs_TooGreat, ccs_TooGreat⟩)
    (xv_TooGreat : vs_TooGreat[2]? = some (.str P.main.file tf_TooGreat))
    (xe_TooGreat : K.lookup cc_TooGreat = some ⟨cl_TooGreat, cld_TooGreat, .cell (some (.ref C_TooGreat)), csl_TooGreat⟩)
    (xf_TooGreat : PySem.W.isFn K (.ref fI_TooGreat) = true)
    (xs_TooGreat : xscB P (defArgs (inClass (topS 7) 0)) (defScope (inClass (topS 7) 0)) = true)
    (xg_TooGreat : PySem.W.findIn K (.ref C_TooGreat) "most" = some none)
    (xb_BadNumber : xB K C_BadNumber false = true)
    (xi_BadNumber : PySem.W.findIn K (.ref C_BadNumber) "__init__" = some (some (.ref fI_BadNumber)))
    (xl_BadNumber : K.lookup fI_BadNumber = some ⟨oc_BadNumber, od_BadNumber, .func (PySem.W.ksFn "__init__" "BadNumber.__init__" (defArgs (inClass (topS 6) 0)) (defBody (inClass (topS 6) 0)) (defScope (inClass (topS 6) 0)) .none kV_BadNumber doc_BadNumber pm_BadNumber an_BadNumber (.ref cda_BadNumber) ct_BadNumber cc_BadNumber), osl_BadNumber⟩)
    (xc_BadNumber : PySem.W.codeIn K (.ref cda_BadNumber) "BadNumber.__init__" = true)
    (xd_BadNumber : K.lookup cda_BadNumber = some ⟨ccl_BadNumber, cdd_BadNumber, .fields vs_BadNumber, ccs_BadNumber⟩)
    (xv_BadNumber : vs_BadNumber[2]? = some (.str P.main.file tf_BadNumber))
    (xe_BadNumber : K.lookup cc_BadNumber = some ⟨cl_BadNumber, cld_BadNumber, .cell (some (.ref C_BadNumber)), csl_BadNumber⟩)
    (xf_BadNumber : PySem.W.isFn K (.ref fI_BadNumber) = true)
    (xs_BadNumber : xscB P (defArgs (inClass (topS 6) 0)) (defScope (inClass (topS 6) 0)) = true)
    (xg_BadNumber : PySem.W.findIn K (.ref C_BadNumber) "value" = some none)
    (xb_BadWord : xB K C_BadWord false = true)
    (xi_BadWord : PySem.W.findIn K (.ref C_BadWord) "__init__" = some (some (.ref fI_BadWord)))
    (xl_BadWord : K.lookup fI_BadWord = some ⟨oc_BadWord, od_BadWord, .func (PySem.W.ksFn "__init__" "BadWord.__init__" (defArgs (inClass (topS 4) 0)) (defBody (inClass (topS 4) 0)) (defScope (inClass (topS 4) 0)) .none kV_BadWord doc_BadWord pm_BadWord an_BadWord (.ref cda_BadWord) ct_BadWord cc_BadWord), osl_BadWord⟩)
    (xc_BadWord : PySem.W.codeIn K (.ref cda_BadWord) "BadWord.__init__" = true)
    (xd_BadWord : K.lookup cda_BadWord = some ⟨ccl_BadWord, cdd_BadWord, .fields vs_BadWord, ccs_BadWord⟩)
    (xv_BadWord : vs_BadWord[2]? = some (.str P.main.file tf_BadWord))
    (xe_BadWord : K.lookup cc_BadWord = some ⟨cl_BadWord, cld_BadWord, .cell (some (.ref C_BadWord)), csl_BadWord⟩)
    (xf_BadWord : PySem.W.isFn K (.ref fI_BadWord) = true)
    (xs_BadWord : xscB P (defArgs (inClass (topS 4) 0)) (defScope (inClass (topS 4) 0)) = true)
    (xg_BadWord : PySem.W.findIn K (.ref C_BadWord) "place" = some none)
    (xb_BadRow : xB K C_BadRow false = true)
    (xi_BadRow : PySem.W.findIn K (.ref C_BadRow) "__init__" = some (some (.ref fI_BadRow)))
    (xl_BadRow : K.lookup fI_BadRow = some ⟨oc_BadRow, od_BadRow, .func (PySem.W.ksFn "__init__" "BadRow.__init__" (defArgs (inClass (topS 5) 0)) (defBody (inClass (topS 5) 0)) (defScope (inClass (topS 5) 0)) .none kV_BadRow doc_BadRow pm_BadRow an_BadRow (.ref cda_BadRow) ct_BadRow cc_BadRow), osl_BadRow⟩)
    (xc_BadRow : PySem.W.codeIn K (.ref cda_BadRow) "BadRow.__init__" = true)
    (xd_BadRow : K.lookup cda_BadRow = some ⟨ccl_BadRow, cdd_BadRow, .fields vs_BadRow, ccs_BadRow⟩)
    (xv_BadRow : vs_BadRow[2]? = some (.str P.main.file tf_BadRow))
    (xe_BadRow : K.lookup cc_BadRow = some ⟨cl_BadRow, cld_BadRow, .cell (some (.ref C_BadRow)), csl_BadRow⟩)
    (xf_BadRow : PySem.W.isFn K (.ref fI_BadRow) = true)
    (xs_BadRow : xscB P (defArgs (inClass (topS 5) 0)) (defScope (inClass (topS 5) 0)) = true)
    (xg_BadRow : PySem.W.findIn K (.ref C_BadRow) "value" = some none)
    (aC : PySem.W.nsIn K mainGlobals "Bonds" = some (some (.ref C)))
    (pg : PySem.W.plainGet K C Str.empty = true)
    (ic : PySem.W.isClsIn K C = true)
    (po : PySem.W.plainOver K C = true)
    (sa : PySem.W.findIn K (.ref C) "__setattr__" = some (some (.builtin "object.__setattr__")))
    (ats : PySem.W.findIn K (.ref C) "table" = some (some (.ref p)))
    (gts : PySem.W.specialIn K (.ref p) "__get__" = some (some (.builtin "member_descriptor.__get__")))
    (tks : PySem.W.takesIn K (.ref p) = some true)
    (tys : PySem.W.typeIn K (.ref p) = some (.type "member_descriptor"))
    (ixs : PySem.W.slotIn K p C = some 0)
    (mkC : PySem.W.makesIn K C = true)
    (kpC : PySem.W.keepIn K (.ref C) = true)
    (a_is_whole : PySem.W.nsIn K mainGlobals "is_whole" = some (some (.ref f_is_whole)))
    (l_is_whole : K.lookup f_is_whole = some ⟨oc_is_whole, od_is_whole, .func (PySem.W.fnOf "is_whole" "is_whole" (defArgs (topS 13)) (defBody (topS 13)) (defScope (topS 13)) .none kV_is_whole dc_is_whole pm_is_whole an_is_whole cd_is_whole ct_is_whole), sl_is_whole⟩)
    (c_is_whole : PySem.W.codeIn K cd_is_whole "is_whole" = true)
    (k_is_whole : PySem.W.keepIn K (.ref f_is_whole) = true)
    (a_is_among : PySem.W.nsIn K mainGlobals "is_among" = some (some (.ref f_is_among)))
    (l_is_among : K.lookup f_is_among = some ⟨oc_is_among, od_is_among, .func (PySem.W.fnOf "is_among" "is_among" (defArgs (topS 14)) (defBody (topS 14)) (defScope (topS 14)) .none kV_is_among dc_is_among pm_is_among an_is_among cd_is_among ct_is_among), sl_is_among⟩)
    (c_is_among : PySem.W.codeIn K cd_is_among "is_among" = true)
    (k_is_among : PySem.W.keepIn K (.ref f_is_among) = true)
    (a_is_list : PySem.W.nsIn K mainGlobals "is_list" = some (some (.ref f_is_list)))
    (l_is_list : K.lookup f_is_list = some ⟨oc_is_list, od_is_list, .func (PySem.W.fnOf "is_list" "is_list" (defArgs (topS 15)) (defBody (topS 15)) (defScope (topS 15)) .none kV_is_list dc_is_list pm_is_list an_is_list cd_is_list ct_is_list), sl_is_list⟩)
    (c_is_list : PySem.W.codeIn K cd_is_list "is_list" = true)
    (k_is_list : PySem.W.keepIn K (.ref f_is_list) = true)
    (a_is_bond : PySem.W.nsIn K mainGlobals "is_bond" = some (some (.ref f_is_bond)))
    (l_is_bond : K.lookup f_is_bond = some ⟨oc_is_bond, od_is_bond, .func (PySem.W.fnOf "is_bond" "is_bond" (defArgs (topS 16)) (defBody (topS 16)) (defScope (topS 16)) .none kV_is_bond dc_is_bond pm_is_bond an_is_bond cd_is_bond ct_is_bond), sl_is_bond⟩)
    (c_is_bond : PySem.W.codeIn K cd_is_bond "is_bond" = true)
    (k_is_bond : PySem.W.keepIn K (.ref f_is_bond) = true)
    (a_need_rows : PySem.W.nsIn K mainGlobals "need_rows" = some (some (.ref f_need_rows)))
    (l_need_rows : K.lookup f_need_rows = some ⟨oc_need_rows, od_need_rows, .func (PySem.W.fnOf "need_rows" "need_rows" (defArgs (topS 17)) (defBody (topS 17)) (defScope (topS 17)) .none kV_need_rows dc_need_rows pm_need_rows an_need_rows cd_need_rows ct_need_rows), sl_need_rows⟩)
    (c_need_rows : PySem.W.codeIn K cd_need_rows "need_rows" = true)
    (k_need_rows : PySem.W.keepIn K (.ref f_need_rows) = true)
    (a_Bonds___init__ : PySem.W.findIn K (.ref C) "__init__" = some (some (.ref f_Bonds___init__)))
    (i_Bonds___init__ : PySem.W.isFn K (.ref f_Bonds___init__) = true)
    (l_Bonds___init__ : K.lookup f_Bonds___init__ = some ⟨oc_Bonds___init__, od_Bonds___init__, .func (PySem.W.fnOf "__init__" "Bonds.__init__" (defArgs (inClass (topS 18) 1)) (defBody (inClass (topS 18) 1)) (defScope (inClass (topS 18) 1)) .none kV_Bonds___init__ dc_Bonds___init__ pm_Bonds___init__ an_Bonds___init__ cd_Bonds___init__ ct_Bonds___init__), sl_Bonds___init__⟩)
    (c_Bonds___init__ : PySem.W.codeIn K cd_Bonds___init__ "Bonds.__init__" = true)
    (k_Bonds___init__ : PySem.W.keepIn K (.ref f_Bonds___init__) = true)
    (a_Bonds___len__ : PySem.W.findIn K (.ref C) "__len__" = some (some (.ref f_Bonds___len__)))
    (i_Bonds___len__ : PySem.W.isFn K (.ref f_Bonds___len__) = true)
    (l_Bonds___len__ : K.lookup f_Bonds___len__ = some ⟨oc_Bonds___len__, od_Bonds___len__, .func (PySem.W.fnOf "__len__" "Bonds.__len__" (defArgs (inClass (topS 18) 2)) (defBody (inClass (topS 18) 2)) (defScope (inClass (topS 18) 2)) .none kV_Bonds___len__ dc_Bonds___len__ pm_Bonds___len__ an_Bonds___len__ cd_Bonds___len__ ct_Bonds___len__), sl_Bonds___len__⟩)
    (c_Bonds___len__ : PySem.W.codeIn K cd_Bonds___len__ "Bonds.__len__" = true)
    (k_Bonds___len__ : PySem.W.keepIn K (.ref f_Bonds___len__) = true)
    (a_Bonds_need_letter : PySem.W.findIn K (.ref C) "need_letter" = some (some (.ref f_Bonds_need_letter)))
    (i_Bonds_need_letter : PySem.W.isFn K (.ref f_Bonds_need_letter) = true)
    (l_Bonds_need_letter : K.lookup f_Bonds_need_letter = some ⟨oc_Bonds_need_letter, od_Bonds_need_letter, .func (PySem.W.fnOf "need_letter" "Bonds.need_letter" (defArgs (inClass (topS 18) 4)) (defBody (inClass (topS 18) 4)) (defScope (inClass (topS 18) 4)) .none kV_Bonds_need_letter dc_Bonds_need_letter pm_Bonds_need_letter an_Bonds_need_letter cd_Bonds_need_letter ct_Bonds_need_letter), sl_Bonds_need_letter⟩)
    (c_Bonds_need_letter : PySem.W.codeIn K cd_Bonds_need_letter "Bonds.need_letter" = true)
    (k_Bonds_need_letter : PySem.W.keepIn K (.ref f_Bonds_need_letter) = true)
    (a_Bonds_weight : PySem.W.findIn K (.ref C) "weight" = some (some (.ref f_Bonds_weight)))
    (i_Bonds_weight : PySem.W.isFn K (.ref f_Bonds_weight) = true)
    (l_Bonds_weight : K.lookup f_Bonds_weight = some ⟨oc_Bonds_weight, od_Bonds_weight, .func (PySem.W.fnOf "weight" "Bonds.weight" (defArgs (inClass (topS 18) 6)) (defBody (inClass (topS 18) 6)) (defScope (inClass (topS 18) 6)) .none kV_Bonds_weight dc_Bonds_weight pm_Bonds_weight an_Bonds_weight cd_Bonds_weight ct_Bonds_weight), sl_Bonds_weight⟩)
    (c_Bonds_weight : PySem.W.codeIn K cd_Bonds_weight "Bonds.weight" = true)
    (k_Bonds_weight : PySem.W.keepIn K (.ref f_Bonds_weight) = true)
    (a_need_word : PySem.W.nsIn K mainGlobals "need_word" = some (some (.ref f_need_word)))
    (l_need_word : K.lookup f_need_word = some ⟨oc_need_word, od_need_word, .func (PySem.W.fnOf "need_word" "need_word" (defArgs (topS 19)) (defBody (topS 19)) (defScope (topS 19)) .none kV_need_word dc_need_word pm_need_word an_need_word cd_need_word ct_need_word), sl_need_word⟩)
    (c_need_word : PySem.W.codeIn K cd_need_word "need_word" = true)
    (k_need_word : PySem.W.keepIn K (.ref f_need_word) = true)
    (a_start : PySem.W.nsIn K mainGlobals "start" = some (some (.ref f_start)))
    (l_start : K.lookup f_start = some ⟨oc_start, od_start, .func (PySem.W.fnOf "start" "start" (defArgs (topS 21)) (defBody (topS 21)) (defScope (topS 21)) .none kV_start dc_start pm_start an_start cd_start ct_start), sl_start⟩)
    (c_start : PySem.W.codeIn K cd_start "start" = true)
    (k_start : PySem.W.keepIn K (.ref f_start) = true)
    (a_need_row : PySem.W.nsIn K mainGlobals "need_row" = some (some (.ref f_need_row)))
    (l_need_row : K.lookup f_need_row = some ⟨oc_need_row, od_need_row, .func (PySem.W.fnOf "need_row" "need_row" (defArgs (topS 22)) (defBody (topS 22)) (defScope (topS 22)) .none kV_need_row dc_need_row pm_need_row an_need_row cd_need_row ct_need_row), sl_need_row⟩)
    (c_need_row : PySem.W.codeIn K cd_need_row "need_row" = true)
    (k_need_row : PySem.W.keepIn K (.ref f_need_row) = true)
    (a_pressed : PySem.W.nsIn K mainGlobals "pressed" = some (some (.ref f_pressed)))
    (l_pressed : K.lookup f_pressed = some ⟨oc_pressed, od_pressed, .func (PySem.W.fnOf "pressed" "pressed" (defArgs (topS 23)) (defBody (topS 23)) (defScope (topS 23)) .none kV_pressed dc_pressed pm_pressed an_pressed cd_pressed ct_pressed), sl_pressed⟩)
    (c_pressed : PySem.W.codeIn K cd_pressed "pressed" = true)
    (k_pressed : PySem.W.keepIn K (.ref f_pressed) = true)
    (a_press : PySem.W.nsIn K mainGlobals "press" = some (some (.ref f_press)))
    (l_press : K.lookup f_press = some ⟨oc_press, od_press, .func (PySem.W.fnOf "press" "press" (defArgs (topS 24)) (defBody (topS 24)) (defScope (topS 24)) .none kV_press dc_press pm_press an_press cd_press ct_press), sl_press⟩)
    (c_press : PySem.W.codeIn K cd_press "press" = true)
    (k_press : PySem.W.keepIn K (.ref f_press) = true)
    (a_row_by : PySem.W.nsIn K mainGlobals "row_by" = some (some (.ref f_row_by)))
    (l_row_by : K.lookup f_row_by = some ⟨oc_row_by, od_row_by, .func (PySem.W.fnOf "row_by" "row_by" (defArgs (topS 25)) (defBody (topS 25)) (defScope (topS 25)) .none kV_row_by dc_row_by pm_row_by an_row_by cd_row_by ct_row_by), sl_row_by⟩)
    (c_row_by : PySem.W.codeIn K cd_row_by "row_by" = true)
    (k_row_by : PySem.W.keepIn K (.ref f_row_by) = true)
    (a_row_of : PySem.W.nsIn K mainGlobals "row_of" = some (some (.ref f_row_of)))
    (l_row_of : K.lookup f_row_of = some ⟨oc_row_of, od_row_of, .func (PySem.W.fnOf "row_of" "row_of" (defArgs (topS 26)) (defBody (topS 26)) (defScope (topS 26)) .none kV_row_of dc_row_of pm_row_of an_row_of cd_row_of ct_row_of), sl_row_of⟩)
    (c_row_of : PySem.W.codeIn K cd_row_of "row_of" = true)
    (k_row_of : PySem.W.keepIn K (.ref f_row_of) = true)
    (a__law_mixed : PySem.W.nsIn K mainGlobals "_law_mixed" = some (some (.ref f__law_mixed)))
    (l__law_mixed : K.lookup f__law_mixed = some ⟨oc__law_mixed, od__law_mixed, .func (PySem.W.fnOf "_law_mixed" "_law_mixed" (defArgs (topS 28)) (defBody (topS 28)) (defScope (topS 28)) .none kV__law_mixed dc__law_mixed pm__law_mixed an__law_mixed cd__law_mixed ct__law_mixed), sl__law_mixed⟩)
    (c__law_mixed : PySem.W.codeIn K cd__law_mixed "_law_mixed" = true)
    (k__law_mixed : PySem.W.keepIn K (.ref f__law_mixed) = true)
    (a__law_folded : PySem.W.nsIn K mainGlobals "_law_folded" = some (some (.ref f__law_folded)))
    (l__law_folded : K.lookup f__law_folded = some ⟨oc__law_folded, od__law_folded, .func (PySem.W.fnOf "_law_folded" "_law_folded" (defArgs (topS 29)) (defBody (topS 29)) (defScope (topS 29)) .none kV__law_folded dc__law_folded pm__law_folded an__law_folded cd__law_folded ct__law_folded), sl__law_folded⟩)
    (c__law_folded : PySem.W.codeIn K cd__law_folded "_law_folded" = true)
    (k__law_folded : PySem.W.keepIn K (.ref f__law_folded) = true)
    (a__law_draw : PySem.W.nsIn K mainGlobals "_law_draw" = some (some (.ref f__law_draw)))
    (l__law_draw : K.lookup f__law_draw = some ⟨oc__law_draw, od__law_draw, .func (PySem.W.fnOf "_law_draw" "_law_draw" (defArgs (topS 30)) (defBody (topS 30)) (defScope (topS 30)) .none kV__law_draw dc__law_draw pm__law_draw an__law_draw cd__law_draw ct__law_draw), sl__law_draw⟩)
    (c__law_draw : PySem.W.codeIn K cd__law_draw "_law_draw" = true)
    (k__law_draw : PySem.W.keepIn K (.ref f__law_draw) = true)
    (a__law_begun : PySem.W.nsIn K mainGlobals "_law_begun" = some (some (.ref f__law_begun)))
    (l__law_begun : K.lookup f__law_begun = some ⟨oc__law_begun, od__law_begun, .func (PySem.W.fnOf "_law_begun" "_law_begun" (defArgs (topS 31)) (defBody (topS 31)) (defScope (topS 31)) .none kV__law_begun dc__law_begun pm__law_begun an__law_begun cd__law_begun ct__law_begun), sl__law_begun⟩)
    (c__law_begun : PySem.W.codeIn K cd__law_begun "_law_begun" = true)
    (k__law_begun : PySem.W.keepIn K (.ref f__law_begun) = true)
    (a__law_table : PySem.W.nsIn K mainGlobals "_law_table" = some (some (.ref f__law_table)))
    (l__law_table : K.lookup f__law_table = some ⟨oc__law_table, od__law_table, .func (PySem.W.fnOf "_law_table" "_law_table" (defArgs (topS 32)) (defBody (topS 32)) (defScope (topS 32)) .none kV__law_table dc__law_table pm__law_table an__law_table cd__law_table ct__law_table), sl__law_table⟩)
    (c__law_table : PySem.W.codeIn K cd__law_table "_law_table" = true)
    (k__law_table : PySem.W.keepIn K (.ref f__law_table) = true)
    (a__law_weight : PySem.W.nsIn K mainGlobals "_law_weight" = some (some (.ref f__law_weight)))
    (l__law_weight : K.lookup f__law_weight = some ⟨oc__law_weight, od__law_weight, .func (PySem.W.fnOf "_law_weight" "_law_weight" (defArgs (topS 33)) (defBody (topS 33)) (defScope (topS 33)) .none kV__law_weight dc__law_weight pm__law_weight an__law_weight cd__law_weight ct__law_weight), sl__law_weight⟩)
    (c__law_weight : PySem.W.codeIn K cd__law_weight "_law_weight" = true)
    (k__law_weight : PySem.W.keepIn K (.ref f__law_weight) = true)
    (a__law_press : PySem.W.nsIn K mainGlobals "_law_press" = some (some (.ref f__law_press)))
    (l__law_press : K.lookup f__law_press = some ⟨oc__law_press, od__law_press, .func (PySem.W.fnOf "_law_press" "_law_press" (defArgs (topS 34)) (defBody (topS 34)) (defScope (topS 34)) .none kV__law_press dc__law_press pm__law_press an__law_press cd__law_press ct__law_press), sl__law_press⟩)
    (c__law_press : PySem.W.codeIn K cd__law_press "_law_press" = true)
    (k__law_press : PySem.W.keepIn K (.ref f__law_press) = true)
    (a__law_word : PySem.W.nsIn K mainGlobals "_law_word" = some (some (.ref f__law_word)))
    (l__law_word : K.lookup f__law_word = some ⟨oc__law_word, od__law_word, .func (PySem.W.fnOf "_law_word" "_law_word" (defArgs (topS 35)) (defBody (topS 35)) (defScope (topS 35)) .none kV__law_word dc__law_word pm__law_word an__law_word cd__law_word ct__law_word), sl__law_word⟩)
    (c__law_word : PySem.W.codeIn K cd__law_word "_law_word" = true)
    (k__law_word : PySem.W.keepIn K (.ref f__law_word) = true)
    (a__law_stretch : PySem.W.nsIn K mainGlobals "_law_stretch" = some (some (.ref f__law_stretch)))
    (l__law_stretch : K.lookup f__law_stretch = some ⟨oc__law_stretch, od__law_stretch, .func (PySem.W.fnOf "_law_stretch" "_law_stretch" (defArgs (topS 36)) (defBody (topS 36)) (defScope (topS 36)) .none kV__law_stretch dc__law_stretch pm__law_stretch an__law_stretch cd__law_stretch ct__law_stretch), sl__law_stretch⟩)
    (c__law_stretch : PySem.W.codeIn K cd__law_stretch "_law_stretch" = true)
    (k__law_stretch : PySem.W.keepIn K (.ref f__law_stretch) = true)
    (a__law_pressed : PySem.W.nsIn K mainGlobals "_law_pressed" = some (some (.ref f__law_pressed)))
    (l__law_pressed : K.lookup f__law_pressed = some ⟨oc__law_pressed, od__law_pressed, .func (PySem.W.fnOf "_law_pressed" "_law_pressed" (defArgs (topS 37)) (defBody (topS 37)) (defScope (topS 37)) .none kV__law_pressed dc__law_pressed pm__law_pressed an__law_pressed cd__law_pressed ct__law_pressed), sl__law_pressed⟩)
    (c__law_pressed : PySem.W.codeIn K cd__law_pressed "_law_pressed" = true)
    (k__law_pressed : PySem.W.keepIn K (.ref f__law_pressed) = true)
    (a__law_pair_right : PySem.W.nsIn K mainGlobals "_law_pair_right" = some (some (.ref f__law_pair_right)))
    (l__law_pair_right : K.lookup f__law_pair_right = some ⟨oc__law_pair_right, od__law_pair_right, .func (PySem.W.fnOf "_law_pair_right" "_law_pair_right" (defArgs (topS 38)) (defBody (topS 38)) (defScope (topS 38)) .none kV__law_pair_right dc__law_pair_right pm__law_pair_right an__law_pair_right cd__law_pair_right ct__law_pair_right), sl__law_pair_right⟩)
    (c__law_pair_right : PySem.W.codeIn K cd__law_pair_right "_law_pair_right" = true)
    (k__law_pair_right : PySem.W.keepIn K (.ref f__law_pair_right) = true)
    (a_law : PySem.W.nsIn K mainGlobals "law" = some (some (.ref f_law)))
    (l_law : K.lookup f_law = some ⟨oc_law, od_law, .func (PySem.W.fnOf "law" "law" (defArgs (topS 39)) (defBody (topS 39)) (defScope (topS 39)) .none kV_law dc_law pm_law an_law cd_law ct_law), sl_law⟩)
    (c_law : PySem.W.codeIn K cd_law "law" = true)
    (k_law : PySem.W.keepIn K (.ref f_law) = true)
    : ∃ (fd : FuncData) (cs : List (Addr × Addr × Str)), (∀ p ∈ cs, K.lookup p.2.1 = none ∧ ∃ y, ((recsOf q).find? (fun e => e.name == y)).isSome = true ∧ PySem.W.tabIn K y = some (p.1, p.2.1)) ∧ (∀ (s : Shared) (v : Value), BindsTo s fd ⟨[v], []⟩ [("script", v)]) ∧
      ∀ base : Heap, K.In base → base.Ns mainGlobals mg → (∀ p ∈ cs, LamX.TabB base mg p.1 p.2.1) → FnG P w K mg base 9 fa fd ["script"] (@spF ⟨cs.map (·.2)⟩ K mg 1 d_law) := by
  have e := hfa.symm.trans (PySem.W.mg_of X G a_law)
  cases e
  have B : Bi mg := ⟨PySem.W.mg_none_of X G z_len, PySem.W.mg_none_of X G z_tuple, PySem.W.mg_none_of X G z_list, PySem.W.mg_none_of X G z_int, PySem.W.mg_none_of X G z_range, PySem.W.mg_none_of X G z_enumerate, PySem.W.mg_none_of X G z_zip, PySem.W.mg_none_of X G z_isinstance, PySem.W.mg_none_of X G z_all, PySem.W.mg_none_of X G z_any, PySem.W.mg_none_of X G z_sum, PySem.W.mg_none_of X G z_min, PySem.W.mg_none_of X G z_max, PySem.W.mg_none_of X G z_sorted, PySem.W.mg_none_of X G z_repr, PySem.W.mg_none_of X G z_str, PySem.W.mg_none_of X G z_set, PySem.W.mg_none_of X G z_bool, PySem.W.mg_none_of X G z_super, PySem.W.mg_none_of X G z_ValueError, PySem.W.mg_none_of X G z_OverflowError⟩
  have g_KINDS : TupG K mg "KINDS" [.int 2, .int 3, .int 4, .int 6, .int 0] := ⟨_, PySem.W.mg_of X G a_KINDS, fun H => .inr ⟨_, _, _, l_KINDS, rfl, rfl, (show (5 : Nat) ≤ sizeLine from by decide), (.cons ⟨_, rfl⟩ (.cons ⟨_, rfl⟩ (.cons ⟨_, rfl⟩ (.cons ⟨_, rfl⟩ (.cons ⟨_, rfl⟩ .nil)))))⟩⟩
  have g_MOST_LETTERS : GI mg "MOST_LETTERS" 6 := ⟨_, PySem.W.mg_of X G a_MOST_LETTERS⟩
  have g_WEIGHTS : DctG K mg "WEIGHTS" [(2, [0, 0]), (3, [1, 1]), (4, [1, 2]), (6, [1, 3]), (0, [2, 2])] := dctg5 (PySem.W.mg_of X G a_WEIGHTS) l_WEIGHTS l_WEIGHTS0 l_WEIGHTS1 l_WEIGHTS2 l_WEIGHTS3 l_WEIGHTS4 rfl rfl rfl rfl rfl
  have g_MOST_WORD : GI mg "MOST_WORD" 60 := ⟨_, PySem.W.mg_of X G a_MOST_WORD⟩
  have m_BadBonds : mg "BadBonds" = some (.ref C_BadBonds) := PySem.W.mg_of X G a_BadBonds
  have m_BadWord : mg "BadWord" = some (.ref C_BadWord) := PySem.W.mg_of X G a_BadWord
  have m_BadRow : mg "BadRow" = some (.ref C_BadRow) := PySem.W.mg_of X G a_BadRow
  have m_BadNumber : mg "BadNumber" = some (.ref C_BadNumber) := PySem.W.mg_of X G a_BadNumber
  have m_TooGreat : mg "TooGreat" = some (.ref C_TooGreat) := PySem.W.mg_of X G a_TooGreat
  have k_BadBonds : ∃ C, mg "BadBonds" = some (.ref C) := ⟨_, m_BadBonds⟩
  have k_BadWord : ∃ C, mg "BadWord" = some (.ref C) := ⟨_, m_BadWord⟩
  have k_BadRow : ∃ C, mg "BadRow" = some (.ref C) := ⟨_, m_BadRow⟩
  have k_BadNumber : ∃ C, mg "BadNumber" = some (.ref C) := ⟨_, m_BadNumber⟩
  have k_TooGreat : ∃ C, mg "TooGreat" = some (.ref C) := ⟨_, m_TooGreat⟩
  have x_BadBonds : XC1 P K mg "BadBonds" := xc1_mk (st := (inClass (topS 3) 0)) m_BadBonds xb_BadBonds xl_BadBonds xc_BadBonds xd_BadBonds xv_BadBonds xe_BadBonds xf_BadBonds xi_BadBonds xs_BadBonds xg_BadBonds rfl rfl rfl (by decide) ⟨fun env _ => ⟨_, rfl⟩, fun env _ => rfl, fun env _ => rfl, by decide⟩ (fun s us hl => match us, hl with | [_, _], _ => .of_eq rfl)
  have x_TooGreat : XC1 P K mg "TooGreat" := xc1_mk (st := (inClass (topS 7) 0)) m_TooGreat xb_TooGreat xl_TooGreat xc_TooGreat xd_TooGreat xv_TooGreat xe_TooGreat xf_TooGreat xi_TooGreat xs_TooGreat xg_TooGreat rfl rfl rfl (by decide) ⟨fun env _ => ⟨_, rfl⟩, fun env _ => rfl, fun env _ => rfl, by decide⟩ (fun s us hl => match us, hl with | [_, _], _ => .of_eq rfl)
  have x_BadNumber : XC1 P K mg "BadNumber" := xc1_mk (st := (inClass (topS 6) 0)) m_BadNumber xb_BadNumber xl_BadNumber xc_BadNumber xd_BadNumber xv_BadNumber xe_BadNumber xf_BadNumber xi_BadNumber xs_BadNumber xg_BadNumber rfl rfl rfl (by decide) ⟨fun env _ => ⟨_, rfl⟩, fun env _ => rfl, fun env _ => rfl, by decide⟩ (fun s us hl => match us, hl with | [_, _], _ => .of_eq rfl)
  have x_BadWord : XC1 P K mg "BadWord" := xc1_mk (st := (inClass (topS 4) 0)) m_BadWord xb_BadWord xl_BadWord xc_BadWord xd_BadWord xv_BadWord xe_BadWord xf_BadWord xi_BadWord xs_BadWord xg_BadWord rfl rfl rfl (by decide) ⟨fun env _ => ⟨_, rfl⟩, fun env _ => rfl, fun env _ => rfl, by decide⟩ (fun s us hl => match us, hl with | [_, _], _ => .of_eq rfl)
  have x_BadRow : XC1 P K mg "BadRow" := xc1_mk (st := (inClass (topS 5) 0)) m_BadRow xb_BadRow xl_BadRow xc_BadRow xd_BadRow xv_BadRow xe_BadRow xf_BadRow xi_BadRow xs_BadRow xg_BadRow rfl rfl rfl (by decide) ⟨fun env _ => ⟨_, rfl⟩, fun env _ => rfl, fun env _ => rfl, by decide⟩ (fun s us hl => match us, hl with | [_, _], _ => .of_eq rfl)
  have hC : mg "Bonds" = some (.ref C) := PySem.W.mg_of X G aC
  have sB : SC K mg "Bonds" "table" := ⟨C, p, hC, ⟨pg, ic, po, sa⟩, ⟨ats, gts, tks, tys, ixs, by decide⟩⟩
  have F_is_whole := fun_mk (st := (topS 13)) l_is_whole c_is_whole k_is_whole
  have F_is_among := fun_mk (st := (topS 14)) l_is_among c_is_among k_is_among
  have F_is_list := fun_mk (st := (topS 15)) l_is_list c_is_list k_is_list
  have F_is_bond := fun_mk (st := (topS 16)) l_is_bond c_is_bond k_is_bond
  have F_need_rows := fun_mk (st := (topS 17)) l_need_rows c_need_rows k_need_rows
  have F_Bonds___init__ := fun_mk (st := (inClass (topS 18) 1)) l_Bonds___init__ c_Bonds___init__ k_Bonds___init__
  have F_Bonds___len__ := fun_mk (st := (inClass (topS 18) 2)) l_Bonds___len__ c_Bonds___len__ k_Bonds___len__
  have F_Bonds_need_letter := fun_mk (st := (inClass (topS 18) 4)) l_Bonds_need_letter c_Bonds_need_letter k_Bonds_need_letter
  have F_Bonds_weight := fun_mk (st := (inClass (topS 18) 6)) l_Bonds_weight c_Bonds_weight k_Bonds_weight
  have F_need_word := fun_mk (st := (topS 19)) l_need_word c_need_word k_need_word
  have F_start := fun_mk (st := (topS 21)) l_start c_start k_start
  have F_need_row := fun_mk (st := (topS 22)) l_need_row c_need_row k_need_row
  have F_pressed := fun_mk (st := (topS 23)) l_pressed c_pressed k_pressed
  have F_press := fun_mk (st := (topS 24)) l_press c_press k_press
  have F_row_by := fun_mk (st := (topS 25)) l_row_by c_row_by k_row_by
  have F_row_of := fun_mk (st := (topS 26)) l_row_of c_row_of k_row_of
  have F__law_mixed := fun_mk (st := (topS 28)) l__law_mixed c__law_mixed k__law_mixed
  have F__law_folded := fun_mk (st := (topS 29)) l__law_folded c__law_folded k__law_folded
  have F__law_draw := fun_mk (st := (topS 30)) l__law_draw c__law_draw k__law_draw
  have F__law_begun := fun_mk (st := (topS 31)) l__law_begun c__law_begun k__law_begun
  have F__law_table := fun_mk (st := (topS 32)) l__law_table c__law_table k__law_table
  have F__law_weight := fun_mk (st := (topS 33)) l__law_weight c__law_weight k__law_weight
  have F__law_press := fun_mk (st := (topS 34)) l__law_press c__law_press k__law_press
  have F__law_word := fun_mk (st := (topS 35)) l__law_word c__law_word k__law_word
  have F__law_stretch := fun_mk (st := (topS 36)) l__law_stretch c__law_stretch k__law_stretch
  have F__law_pressed := fun_mk (st := (topS 37)) l__law_pressed c__law_pressed k__law_pressed
  have F__law_pair_right := fun_mk (st := (topS 38)) l__law_pair_right c__law_pair_right k__law_pair_right
  have F_law := fun_mk (st := (topS 39)) l_law c_law k_law
  refine ⟨PySem.W.fnOf "law" "law" (defArgs (topS 39)) (defBody (topS 39)) (defScope (topS 39)) .none kV_law dc_law pm_law an_law cd_law ct_law, ([] : List (Addr × Addr × Str)), (fun p hp => by cases hp), fun s v => .of_eq rfl, fun base _ _ HT => ?_⟩
  letI : Tb := ⟨([] : List (Addr × Addr × Str)).map (·.2)⟩
  have o_is_whole : Fn P w K mg base "is_whole" 1 1 d_is_whole := ok_is_whole F_is_whole (PySem.W.mg_of X G a_is_whole) B
  have o_is_among : Fn P w K mg base "is_among" 2 3 d_is_among := ok_is_among F_is_among (PySem.W.mg_of X G a_is_among) B o_is_whole
  have o_is_list : Fn P w K mg base "is_list" 1 1 d_is_list := ok_is_list F_is_list (PySem.W.mg_of X G a_is_list) B
  have o_is_bond : Fn P w K mg base "is_bond" 3 3 d_is_bond := ok_is_bond F_is_bond (PySem.W.mg_of X G a_is_bond) B g_KINDS o_is_among o_is_whole
  have o_need_rows : Fn P w K mg base "need_rows" 4 1 d_need_rows := ok_need_rows F_need_rows (PySem.W.mg_of X G a_need_rows) B x_BadBonds x_TooGreat g_MOST_LETTERS o_is_list o_is_bond
  have o_Bonds___init__ : Mkr P w K mg base "Bonds" 5 2 d_Bonds___init__ := ok_Bonds___init__ F_Bonds___init__ hC ⟨mkC, a_Bonds___init__, i_Bonds___init__, kpC⟩ B sB o_need_rows
  have o_Bonds___len__ : Mt P w K mg base "Bonds" "__len__" 1 1 d_Bonds___len__ := ok_Bonds___len__ F_Bonds___len__ hC ⟨a_Bonds___len__, i_Bonds___len__, k_Bonds___len__⟩ B sB
  have o_Bonds_need_letter : Mt P w K mg base "Bonds" "need_letter" 3 2 d_Bonds_need_letter := ok_Bonds_need_letter F_Bonds_need_letter hC ⟨a_Bonds_need_letter, i_Bonds_need_letter, k_Bonds_need_letter⟩ B sB x_BadNumber o_is_among
  have o_Bonds_weight : Mt P w K mg base "Bonds" "weight" 4 3 d_Bonds_weight := ok_Bonds_weight F_Bonds_weight hC ⟨a_Bonds_weight, i_Bonds_weight, k_Bonds_weight⟩ B sB g_WEIGHTS o_Bonds_need_letter
  have o_need_word : Fn P w K mg base "need_word" 3 2 d_need_word := ok_need_word F_need_word (PySem.W.mg_of X G a_need_word) B sB x_BadWord x_TooGreat g_MOST_WORD o_is_list o_Bonds___len__ o_is_among
  have o_start : Fn P w K mg base "start" 3 1 d_start := ok_start F_start (PySem.W.mg_of X G a_start) B sB o_Bonds___len__
  have o_need_row : Fn P w K mg base "need_row" 3 2 d_need_row := ok_need_row F_need_row (PySem.W.mg_of X G a_need_row) B sB x_BadRow o_Bonds___len__ o_is_whole
  have o_pressed : Fn P w K mg base "pressed" 5 3 d_pressed := ok_pressed F_pressed (PySem.W.mg_of X G a_pressed) B sB o_Bonds_weight
  have o_press : Fn P w K mg base "press" 6 3 d_press := ok_press F_press (PySem.W.mg_of X G a_press) B sB o_need_row o_Bonds_need_letter o_pressed
  have o_row_by : Fn P w K mg base "row_by" 6 2 d_row_by := ok_row_by F_row_by (PySem.W.mg_of X G a_row_by) B o_start o_pressed
  have o_row_of : Fn P w K mg base "row_of" 7 2 d_row_of := ok_row_of F_row_of (PySem.W.mg_of X G a_row_of) B o_need_word o_row_by
  have o__law_mixed : Fn P w K mg base "_law_mixed" 1 2 d__law_mixed := ok__law_mixed F__law_mixed (PySem.W.mg_of X G a__law_mixed) B
  have o__law_folded : Fn P w K mg base "_law_folded" 1 1 d__law_folded := ok__law_folded F__law_folded (PySem.W.mg_of X G a__law_folded) B
  have o__law_draw : Fn P w K mg base "_law_draw" 2 2 d__law_draw := ok__law_draw F__law_draw (PySem.W.mg_of X G a__law_draw) B o__law_mixed
  have o__law_begun : Fn P w K mg base "_law_begun" 2 1 d__law_begun := ok__law_begun F__law_begun (PySem.W.mg_of X G a__law_begun) B o__law_folded
  have o__law_table : Fn P w K mg base "_law_table" 3 2 d__law_table := ok__law_table F__law_table (PySem.W.mg_of X G a__law_table) B o__law_draw
  have o__law_weight : Fn P w K mg base "_law_weight" 1 3 d__law_weight := ok__law_weight F__law_weight (PySem.W.mg_of X G a__law_weight) B
  have o__law_press : Fn P w K mg base "_law_press" 2 3 d__law_press := ok__law_press F__law_press (PySem.W.mg_of X G a__law_press) B o__law_weight
  have o__law_word : Fn P w K mg base "_law_word" 3 3 d__law_word := ok__law_word F__law_word (PySem.W.mg_of X G a__law_word) B o__law_draw o__law_press
  have o__law_stretch : Fn P w K mg base "_law_stretch" 1 3 d__law_stretch := ok__law_stretch F__law_stretch (PySem.W.mg_of X G a__law_stretch) B
  have o__law_pressed : Fn P w K mg base "_law_pressed" 7 3 d__law_pressed := ok__law_pressed F__law_pressed (PySem.W.mg_of X G a__law_pressed) B o_press
  have o__law_pair_right : Fn P w K mg base "_law_pair_right" 8 5 d__law_pair_right := ok__law_pair_right F__law_pair_right (PySem.W.mg_of X G a__law_pair_right) B o__law_stretch o__law_pressed
  exact ok_law F_law B o__law_begun o__law_table o_Bonds___init__ o__law_word o__law_draw o__law_pair_right o_row_of
end BW
open PySem PySem.W PyProof.Rows
set_option maxHeartbeats 0 in
theorem PySem.Challenge.cw_bondwords_k04_whole_bonds_kept_holds : PySem.Challenge.rw_bondwords_k04_whole_bonds_kept.Holds := by
  w_on; o_law; k_head; (case hw => w_witness2)
  k_fill
  refine BW.walk_end (l := PySem.Challenge.rw_bondwords_k04_whole_bonds_kept) (n := 63) (k := 9) (x := "script") (dL := BW.d_law) rfl (by decide) rfl ⟨rfl, by decide, by decide⟩ (fun w h Y => by first | exact PySem.W.kIn_of Y | exact PySem.W.km_in_of Y) ?F BW.plain
  case F =>
    intro w mg fa h _ KX G hmg
    refine' BW.all_mk KX G hmg ?z_len ?z_tuple ?z_list ?z_int ?z_range ?z_enumerate ?z_zip ?z_isinstance ?z_all ?z_any ?z_sum ?z_min ?z_max ?z_sorted ?z_repr ?z_str ?z_set ?z_bool ?z_super ?z_ValueError ?z_OverflowError ?a_KINDS ?l_KINDS ?a_MOST_LETTERS ?a_WEIGHTS ?l_WEIGHTS ?l_WEIGHTS0 ?l_WEIGHTS1 ?l_WEIGHTS2 ?l_WEIGHTS3 ?l_WEIGHTS4 ?a_MOST_WORD ?a_BadBonds ?a_BadWord ?a_BadRow ?a_BadNumber ?a_TooGreat ?xb_BadBonds ?xi_BadBonds ?xl_BadBonds ?xc_BadBonds ?xd_BadBonds ?xv_BadBonds ?xe_BadBonds ?xf_BadBonds ?xs_BadBonds ?xg_BadBonds ?xb_TooGreat ?xi_TooGreat ?xl_TooGreat ?xc_TooGreat ?xd_TooGreat ?xv_TooGreat ?xe_TooGreat ?xf_TooGreat ?xs_TooGreat ?xg_TooGreat ?xb_BadNumber ?xi_BadNumber ?xl_BadNumber ?xc_BadNumber ?xd_BadNumber ?xv_BadNumber ?xe_BadNumber ?xf_BadNumber ?xs_BadNumber ?xg_BadNumber ?xb_BadWord ?xi_BadWord ?xl_BadWord ?xc_BadWord ?xd_BadWord ?xv_BadWord ?xe_BadWord ?xf_BadWord ?xs_BadWord ?xg_BadWord ?xb_BadRow ?xi_BadRow ?xl_BadRow ?xc_BadRow ?xd_BadRow ?xv_BadRow ?xe_BadRow ?xf_BadRow ?xs_BadRow ?xg_BadRow ?aC ?pg ?ic ?po ?sa ?ats ?gts ?tks ?tys ?ixs ?mkC ?kpC ?a_is_whole ?l_is_whole ?c_is_whole ?k_is_whole ?a_is_among ?l_is_among ?c_is_among ?k_is_among ?a_is_list ?l_is_list ?c_is_list ?k_is_list ?a_is_bond ?l_is_bond ?c_is_bond ?k_is_bond ?a_need_rows ?l_need_rows ?c_need_rows ?k_need_rows ?a_Bonds___init__ ?i_Bonds___init__ ?l_Bonds___init__ ?c_Bonds___init__ ?k_Bonds___init__ ?a_Bonds___len__ ?i_Bonds___len__ ?l_Bonds___len__ ?c_Bonds___len__ ?k_Bonds___len__ ?a_Bonds_need_letter ?i_Bonds_need_letter ?l_Bonds_need_letter ?c_Bonds_need_letter ?k_Bonds_need_letter ?a_Bonds_weight ?i_Bonds_weight ?l_Bonds_weight ?c_Bonds_weight ?k_Bonds_weight ?a_need_word ?l_need_word ?c_need_word ?k_need_word ?a_start ?l_start ?c_start ?k_start ?a_need_row ?l_need_row ?c_need_row ?k_need_row ?a_pressed ?l_pressed ?c_pressed ?k_pressed ?a_press ?l_press ?c_press ?k_press ?a_row_by ?l_row_by ?c_row_by ?k_row_by ?a_row_of ?l_row_of ?c_row_of ?k_row_of ?a__law_mixed ?l__law_mixed ?c__law_mixed ?k__law_mixed ?a__law_folded ?l__law_folded ?c__law_folded ?k__law_folded ?a__law_draw ?l__law_draw ?c__law_draw ?k__law_draw ?a__law_begun ?l__law_begun ?c__law_begun ?k__law_begun ?a__law_table ?l__law_table ?c__law_table ?k__law_table ?a__law_weight ?l__law_weight ?c__law_weight ?k__law_weight ?a__law_press ?l__law_press ?c__law_press ?k__law_press ?a__law_word ?l__law_word ?c__law_word ?k__law_word ?a__law_stretch ?l__law_stretch ?c__law_stretch ?k__law_stretch ?a__law_pressed ?l__law_pressed ?c__law_pressed ?k__law_pressed ?a__law_pair_right ?l__law_pair_right ?c__law_pair_right ?k__law_pair_right ?a_law ?l_law ?c_law ?k_law
    (case z_len => k_is)
    (case z_tuple => k_is)
    (case z_list => k_is)
    (case z_int => k_is)
    (case z_range => k_is)
    (case z_enumerate => k_is)
    (case z_zip => k_is)
    (case z_isinstance => k_is)
    (case z_all => k_is)
    (case z_any => k_is)
    (case z_sum => k_is)
    (case z_min => k_is)
    (case z_max => k_is)
    (case z_sorted => k_is)
    (case z_repr => k_is)
    (case z_str => k_is)
    (case z_set => k_is)
    (case z_bool => k_is)
    (case z_super => k_is)
    (case z_ValueError => k_is)
    (case z_OverflowError => k_is)
    (case a_KINDS => k_is)
    (case l_KINDS => k_is)
    (case a_MOST_LETTERS => k_is)
    (case a_WEIGHTS => k_is)
    (case l_WEIGHTS => k_is)
    (case l_WEIGHTS0 => k_is)
    (case l_WEIGHTS1 => k_is)
    (case l_WEIGHTS2 => k_is)
    (case l_WEIGHTS3 => k_is)
    (case l_WEIGHTS4 => k_is)
    (case a_MOST_WORD => k_is)
    (case a_BadBonds => k_is)
    (case a_BadWord => k_is)
    (case a_BadRow => k_is)
    (case a_BadNumber => k_is)
    (case a_TooGreat => k_is)
    (case xb_BadBonds => kernel_rfl)
    (case xi_BadBonds => k_is)
    (case xl_BadBonds => k_is)
    (case xc_BadBonds => k_is)
    (case xd_BadBonds => k_is)
    (case xv_BadBonds => rfl)
    (case xe_BadBonds => k_is)
    (case xf_BadBonds => k_is)
    (case xs_BadBonds => kernel_rfl)
    (case xg_BadBonds => k_is)
    (case xb_TooGreat => kernel_rfl)
    (case xi_TooGreat => k_is)
    (case xl_TooGreat => k_is)
    (case xc_TooGreat => k_is)
    (case xd_TooGreat => k_is)
    (case xv_TooGreat => rfl)
    (case xe_TooGreat => k_is)
    (case xf_TooGreat => k_is)
    (case xs_TooGreat => kernel_rfl)
    (case xg_TooGreat => k_is)
    (case xb_BadNumber => kernel_rfl)
    (case xi_BadNumber => k_is)
    (case xl_BadNumber => k_is)
    (case xc_BadNumber => k_is)
    (case xd_BadNumber => k_is)
    (case xv_BadNumber => rfl)
    (case xe_BadNumber => k_is)
    (case xf_BadNumber => k_is)
    (case xs_BadNumber => kernel_rfl)
    (case xg_BadNumber => k_is)
    (case xb_BadWord => kernel_rfl)
    (case xi_BadWord => k_is)
    (case xl_BadWord => k_is)
    (case xc_BadWord => k_is)
    (case xd_BadWord => k_is)
    (case xv_BadWord => rfl)
    (case xe_BadWord => k_is)
    (case xf_BadWord => k_is)
    (case xs_BadWord => kernel_rfl)
    (case xg_BadWord => k_is)
    (case xb_BadRow => kernel_rfl)
    (case xi_BadRow => k_is)
    (case xl_BadRow => k_is)
    (case xc_BadRow => k_is)
    (case xd_BadRow => k_is)
    (case xv_BadRow => rfl)
    (case xe_BadRow => k_is)
    (case xf_BadRow => k_is)
    (case xs_BadRow => kernel_rfl)
    (case xg_BadRow => k_is)
    (case aC => k_is)
    (case pg => k_is)
    (case ic => k_is)
    (case po => k_is)
    (case sa => k_is)
    (case ats => k_is)
    (case gts => k_is)
    (case tks => k_is)
    (case tys => k_is)
    (case ixs => k_is)
    (case mkC => k_is)
    (case kpC => k_is)
    (case a_is_whole => k_is)
    (case l_is_whole => k_is)
    (case c_is_whole => k_is)
    (case k_is_whole => k_is)
    (case a_is_among => k_is)
    (case l_is_among => k_is)
    (case c_is_among => k_is)
    (case k_is_among => k_is)
    (case a_is_list => k_is)
    (case l_is_list => k_is)
    (case c_is_list => k_is)
    (case k_is_list => k_is)
    (case a_is_bond => k_is)
    (case l_is_bond => k_is)
    (case c_is_bond => k_is)
    (case k_is_bond => k_is)
    (case a_need_rows => k_is)
    (case l_need_rows => k_is)
    (case c_need_rows => k_is)
    (case k_need_rows => k_is)
    (case a_Bonds___init__ => k_is)
    (case i_Bonds___init__ => k_is)
    (case l_Bonds___init__ => k_is)
    (case c_Bonds___init__ => k_is)
    (case k_Bonds___init__ => k_is)
    (case a_Bonds___len__ => k_is)
    (case i_Bonds___len__ => k_is)
    (case l_Bonds___len__ => k_is)
    (case c_Bonds___len__ => k_is)
    (case k_Bonds___len__ => k_is)
    (case a_Bonds_need_letter => k_is)
    (case i_Bonds_need_letter => k_is)
    (case l_Bonds_need_letter => k_is)
    (case c_Bonds_need_letter => k_is)
    (case k_Bonds_need_letter => k_is)
    (case a_Bonds_weight => k_is)
    (case i_Bonds_weight => k_is)
    (case l_Bonds_weight => k_is)
    (case c_Bonds_weight => k_is)
    (case k_Bonds_weight => k_is)
    (case a_need_word => k_is)
    (case l_need_word => k_is)
    (case c_need_word => k_is)
    (case k_need_word => k_is)
    (case a_start => k_is)
    (case l_start => k_is)
    (case c_start => k_is)
    (case k_start => k_is)
    (case a_need_row => k_is)
    (case l_need_row => k_is)
    (case c_need_row => k_is)
    (case k_need_row => k_is)
    (case a_pressed => k_is)
    (case l_pressed => k_is)
    (case c_pressed => k_is)
    (case k_pressed => k_is)
    (case a_press => k_is)
    (case l_press => k_is)
    (case c_press => k_is)
    (case k_press => k_is)
    (case a_row_by => k_is)
    (case l_row_by => k_is)
    (case c_row_by => k_is)
    (case k_row_by => k_is)
    (case a_row_of => k_is)
    (case l_row_of => k_is)
    (case c_row_of => k_is)
    (case k_row_of => k_is)
    (case a__law_mixed => k_is)
    (case l__law_mixed => k_is)
    (case c__law_mixed => k_is)
    (case k__law_mixed => k_is)
    (case a__law_folded => k_is)
    (case l__law_folded => k_is)
    (case c__law_folded => k_is)
    (case k__law_folded => k_is)
    (case a__law_draw => k_is)
    (case l__law_draw => k_is)
    (case c__law_draw => k_is)
    (case k__law_draw => k_is)
    (case a__law_begun => k_is)
    (case l__law_begun => k_is)
    (case c__law_begun => k_is)
    (case k__law_begun => k_is)
    (case a__law_table => k_is)
    (case l__law_table => k_is)
    (case c__law_table => k_is)
    (case k__law_table => k_is)
    (case a__law_weight => k_is)
    (case l__law_weight => k_is)
    (case c__law_weight => k_is)
    (case k__law_weight => k_is)
    (case a__law_press => k_is)
    (case l__law_press => k_is)
    (case c__law_press => k_is)
    (case k__law_press => k_is)
    (case a__law_word => k_is)
    (case l__law_word => k_is)
    (case c__law_word => k_is)
    (case k__law_word => k_is)
    (case a__law_stretch => k_is)
    (case l__law_stretch => k_is)
    (case c__law_stretch => k_is)
    (case k__law_stretch => k_is)
    (case a__law_pressed => k_is)
    (case l__law_pressed => k_is)
    (case c__law_pressed => k_is)
    (case k__law_pressed => k_is)
    (case a__law_pair_right => k_is)
    (case l__law_pair_right => k_is)
    (case c__law_pair_right => k_is)
    (case k__law_pair_right => k_is)
    (case a_law => k_is)
    (case l_law => k_is)
    (case c_law => k_is)
    (case k_law => k_is)
