import PyProof.Rows.All
import Wide.All
import OpenK.AllK
import Wide.FinOn
import HandS.ForMost
import HandS.ForExc
import HandS.Walk
import HandS.Slots
import HandS.Lambda
import HandS.CallSlots
import HandS.TupAny
import HandS.TupMul
import HandS.Wide
import HandS.Style
import HandS.IsInst
import HandS.TryMany
import HandS.Zip
import KE.GoesMore
import KE.GoesEnum
import HandS.SlotsOwn
import HandS.EndBits
import HandS.Conv
import HandS.EndTab
import KE.KExcSuper
import HandS.ExcInit
import HandS.ExcValue
import HandS.ExcIs
import HandS.ExcField
import KE.KExcInit
import HandS.More
import HandS.Star
import KE.SortData
import HandS.SortInts
import HandS.TupSets
import HandS.Deep
import HandS.Strs
import HandS.Text
import HandS.TupLen
import HandS.Iter
import KE.KDictDisplayH
import HandS.GenList
import HandS.Property
import KE.DataMinMax
import HandS.TryOnly
import KE.KTupSum
import PyProof.ZipIter
import PyProof.GenObj
import KE.KDictWalk
import PyProof.MinMaxWalk
import PyProof.Rows.RegStrFacts
import PySem.Challenge.RW_bondwords_k47_whole_least_between
set_option Elab.async false
set_option linter.all false
set_option maxRecDepth 100000
set_option maxHeartbeats 4000000
namespace BW
open PySem PySem.Spec PyProof.Rows L2
inductive D where
  | non | bl (b : Bool) | int (i : Int) | str (x : Str)
  | tup (xs : List D)
  | tl (xs : List D)
  | rl (xs : List D)
  | ref (n : Nat)
  | exc (c : Str) (xs : List D)
  | kt (xs : List Int)
inductive AO where
  | lst (xs : List D)
  | dk (kvs : List (Key × D))
  | dt (kvs : List (List Key × D))
  | ins (c : Str) (fs : List (Str × D))
  | sins (c : Str) (vs : List (Option D))
  | fz (kvs : List (List Key × D))
abbrev AH := List AO
abbrev Env := List (Option D)
def fieldOf (c : Str) : Option Str :=
  if c = "BadBonds" ∨ c = "BadWord" ∨ c = "BadDeed" ∨ c = "BadText" then some "place"
  else if c = "BadRow" ∨ c = "BadNumber" ∨ c = "BadChoice" then some "value"
  else if c = "TooGreat" then some "most" else none
def XO (a C : Addr) (d : Option Addr) : HO := .ext fun h => ∃ o vs, h.get? a = some o ∧ o.cls = .ref C ∧ o.dict = d ∧ o.data = .fields vs
section
variable (K : PySem.W.Frag) (mg : Str → Option Value)
def SqTr (_ : PySem.W.Frag) (H : Hp) (rho : List Addr) (a : Addr) (vs : List V) : Prop :=
  a ∉ rho ∧ H a = some (.tup vs)
def SqLr (H : Hp) (rho : List Addr) (a : Addr) (vs : List V) : Prop := (a ∉ rho ∧ ∃ o, H a = some (.frz o (.lst vs))) ∨ ∀ H', SqL K H' a vs
mutual
inductive Rel (rho : List Addr) (H : Hp) : V → D → Prop
  | non : Rel rho H .non .non
  | bl (b : Bool) : Rel rho H (.bl b) (.bl b)
  | int (i : Int) : Rel rho H (.int i) (.int i)
  | str (x : Str) : Rel rho H (.str x) (.str x)
  | tup {a : Addr} {vs : List V} {xs : List D} : SqTr K H rho a vs → Rels rho H vs xs → Rel rho H (.ref a) (.tup xs)
  | rl {a : Addr} {vs : List V} {xs : List D} : SqLr K H rho a vs → Rels rho H vs xs → Rel rho H (.ref a) (.rl xs)
  | ref {n : Nat} {a : Addr} : rho[n]? = some a → Rel rho H (.ref a) (.ref n)
  | exc0 {c : Str} {a C : Addr} : mg c = some (.ref C) → a ∉ rho → H a = some (XO a C none) → Rel rho H (.ref a) (.exc c [])
  | exc1 {c f : Str} {a C dx : Addr} {v : V} {x : D} : mg c = some (.ref C) → fieldOf c = some f → a ∉ rho → dx ∉ rho → H a = some (XO a C (some dx)) →
      H dx = some (.xd [(f, v)]) → Rel rho H v x → Rel rho H (.ref a) (.exc c [x])
  | kt {a : Addr} {xs : List Int} : (∀ H', SqT K H' a (xs.map V.int)) → Rel rho H (.ref a) (.kt xs)
inductive Rels (rho : List Addr) (H : Hp) : List V → List D → Prop
  | nil : Rels rho H [] []
  | cons {v : V} {vs : List V} {x : D} {xs : List D} : Rel rho H v x → Rels rho H vs xs → Rels rho H (v :: vs) (x :: xs)
end
end
def NoOwn (o : HO) : Prop := (∀ y, o ≠ .own y) ∧ ∀ ps, o ≠ .tbl ps
theorem NoOwn.of {o : HO} (h1 : ∀ y, o ≠ .own y := by intro _ z; cases z) (h2 : ∀ y, o ≠ .tbl y := by intro _ z; cases z) : NoOwn o := ⟨h1, h2⟩
class Tb where
  T : List (Addr × Str)
instance (priority := low) tb0 : Tb := ⟨[]⟩
structure TbOk [Tb] (r : List Addr) (H : Hp) : Prop where
  tab : ∀ p ∈ Tb.T, ∃ ps : Array Value, H p.1 = some (.tbl ps) ∧ p.1 ∉ r ∧ TriplesOk ps.toList ∧ ∀ (pos : Pos) (cv : Value), codeAmong pos ps.toList = some cv → ∃ c, cv = .ref c ∧ c ∉ r ∧ H c = some (LamX.CodeO c p.2)
def Fr (H : Hp) (a : Addr) : Prop := ∀ o, H a = some o → ∃ ps, o = .tbl ps
theorem Fr.of {H : Hp} {a : Addr} (h : H a = none) : Fr H a := fun o e => by rw [h] at e; cases e
theorem Fr.no {H : Hp} {a : Addr} {o : HO} (f : Fr H a) (e : H a = some o) (ho : NoOwn o) : False := by
  obtain ⟨ps, z⟩ := f o e
  exact ho.2 ps z
structure Step (rho : List Addr) (H : Hp) (rho' : List Addr) (H' : Hp) : Prop where
  pre : rho <+: rho'
  new : ∀ a, a ∈ rho' → a ∉ rho → Fr H a
  keep : ∀ b o, H b = some o → b ∉ rho → NoOwn o → H' b = some o
  stay : ∀ b, Fr H' b → Fr H b
  frz : ∀ b o u, H b = some (.frz o u) → H' b = some (.frz o u)
theorem Step.refl (rho : List Addr) (H : Hp) : Step rho H rho H := ⟨List.prefix_refl _, fun _ a b => absurd a b, fun _ _ h _ _ => h, fun _ h => h, fun _ _ _ h => h⟩
theorem Step.notin {rho rho' : List Addr} {H H' : Hp} (s : Step rho H rho' H') {b : Addr} {o : HO} (hb : b ∉ rho) (h : H b = some o) (ho : NoOwn o) : b ∉ rho' := fun z => (s.new b z hb).no h ho
theorem Step.trans {r r1 r2 : List Addr} {H H1 H2 : Hp} (s : Step r H r1 H1) (t : Step r1 H1 r2 H2) : Step r H r2 H2 where
  pre := s.pre.trans t.pre
  new := fun a h2 h0 => by
    by_cases h1 : a ∈ r1
    · exact s.new a h1 h0
    · exact s.stay a (t.new a h2 h1)
  keep := fun b o h hb ho => t.keep b o (s.keep b o h hb ho) (s.notin hb h ho) ho
  stay := fun b h => s.stay b (t.stay b h)
  frz := fun b o u h => t.frz b o u (s.frz b o u h)
theorem Step.get {r r' : List Addr} {H H' : Hp} (s : Step r H r' H') {n : Nat} {a : Addr} (h : r[n]? = some a) : r'[n]? = some a := by
  obtain ⟨t, rfl⟩ := s.pre
  have hl : n < r.length := (List.getElem?_eq_some_iff.mp h).1
  rw [List.getElem?_append_left hl]
  exact h
theorem Step.alloc {r : List Addr} {H : Hp} {p : Addr} {o : HO} (h : H p = none) : Step r H r (upd H p o) :=
  ⟨List.prefix_refl _, fun _ a b => absurd a b, fun b u e _ _ => by rw [upd_ne (ne_of_none e h)]; exact e, fun b f => by
    by_cases hb : b = p
    · rw [hb]; exact .of h
    · intro u e; exact f u (by rw [upd_ne hb]; exact e), fun b u w e => by rw [upd_ne (ne_of_none e h)]; exact e⟩
theorem Step.mut {r : List Addr} {H : Hp} {p : Addr} {o : HO} (hp : p ∈ r) (hs : ∀ u w, H p ≠ some (.frz u w)) (ho : ∀ ps, o ≠ .tbl ps := by intro _ z; cases z) : Step r H r (upd H p o) :=
  ⟨List.prefix_refl _, fun _ a b => absurd a b, fun b u e hb _ => by
    have ne : b ≠ p := fun z => hb (z ▸ hp)
    rw [upd_ne ne]; exact e, fun b f => by
    by_cases hb : b = p
    · subst hb
      obtain ⟨ps, z⟩ := f o upd_same
      exact absurd z (ho ps)
    · intro u e; exact f u (by rw [upd_ne hb]; exact e), fun b u w e => by
    have ne : b ≠ p := fun z => hs u w (z ▸ e)
    rw [upd_ne ne]; exact e⟩
def Fixed : HO → Prop
  | .tup _ => True
  | .frz _ _ => True
  | .ext _ => True
  | .xd _ => True
  | _ => False
theorem Fixed.no {o : HO} (h : Fixed o) : NoOwn o := ⟨fun y z => (by subst z; exact h), fun y z => (by subst z; exact h)⟩
theorem XO_fixed {a C : Addr} {d : Option Addr} : Fixed (XO a C d) := trivial
structure Mn (r : List Addr) (H : Hp) (r' : List Addr) (H' : Hp) : Prop where
  pre : r <+: r'
  keep : ∀ b o, H b = some o → b ∉ r → Fixed o → b ∉ r' ∧ H' b = some o
theorem Step.mn {r r' : List Addr} {H H' : Hp} (s : Step r H r' H') : Mn r H r' H' :=
  ⟨s.pre, fun b o h hb ho => ⟨s.notin hb h ho.no, s.keep b o h hb ho.no⟩⟩
theorem Mn.get {r r' : List Addr} {H H' : Hp} (s : Mn r H r' H') {n : Nat} {a : Addr} (h : r[n]? = some a) : r'[n]? = some a := by
  obtain ⟨t, rfl⟩ := s.pre
  have hl : n < r.length := (List.getElem?_eq_some_iff.mp h).1
  rw [List.getElem?_append_left hl]
  exact h
structure Mo (r : List Addr) (H : Hp) (r' : List Addr) (H' : Hp) : Prop extends Mn r H r' H' where
  own : ∀ b y, H b = some (.own y) → b ∉ r → b ∉ r' ∧ H' b = some (.own y)
  tbl : ∀ b y, H b = some (.tbl y) → b ∉ r → b ∉ r' ∧ H' b = some (.tbl y)
theorem Mo.alloc {r : List Addr} {H : Hp} {p : Addr} {o : HO} (h : H p = none) (ho : ∀ ps, o ≠ .tbl ps := by intro _ z; cases z) : Mo r H r (upd H p o) :=
  ⟨(Step.alloc h).mn, fun b y e hb => ⟨hb, by rw [upd_ne (ne_of_none e h)]; exact e⟩, fun b y e hb => ⟨hb, by rw [upd_ne (ne_of_none e h)]; exact e⟩⟩
theorem Mo.mut {r : List Addr} {H : Hp} {p : Addr} {o : HO} (hp : p ∈ r) (hs : H p ≠ none) (ho : ∀ ps, o ≠ .tbl ps := by intro _ z; cases z) : Mo r H r (upd H p o) :=
  ⟨⟨List.prefix_refl _, fun b u e hb _ => ⟨hb, by
    have ne : b ≠ p := fun z => hb (z ▸ hp)
    rw [upd_ne ne]; exact e⟩⟩, fun b y e hb => ⟨hb, by
    have ne : b ≠ p := fun z => hb (z ▸ hp)
    rw [upd_ne ne]; exact e⟩, fun b y e hb => ⟨hb, by
    have ne : b ≠ p := fun z => hb (z ▸ hp)
    rw [upd_ne ne]; exact e⟩⟩
theorem TbOk.mono [Tb] {r r' : List Addr} {H H' : Hp} (s : Mo r H r' H') (q : TbOk r H) : TbOk r' H' where
  tab := fun p hp => by
    obtain ⟨ps, h1, h2, h3, h4⟩ := q.tab p hp
    refine ⟨ps, (s.tbl _ _ h1 h2).2, (s.tbl _ _ h1 h2).1, h3, fun pos cv hc => ?_⟩
    obtain ⟨c, e1, e2, e3⟩ := h4 pos cv hc
    have z := s.keep _ _ e3 e2 trivial
    exact ⟨c, e1, z.1, z.2⟩
theorem TbOk.cut [Tb] {r r1 : List Addr} {H : Hp} (hp : r <+: r1) (q : TbOk r1 H) : TbOk r H where
  tab := fun p hp' => by
    obtain ⟨ps, h1, h2, h3, h4⟩ := q.tab p hp'
    refine ⟨ps, h1, fun z => h2 (hp.subset z), h3, fun pos cv hc => ?_⟩
    obtain ⟨c, e1, e2, e3⟩ := h4 pos cv hc
    exact ⟨c, e1, fun z => e2 (hp.subset z), e3⟩
theorem Mn.push {r : List Addr} {H : Hp} {p : Addr} {o : HO} (hp : H p = some o) (hf : ¬ Fixed o) : Mn r H (r ++ [p]) H :=
  ⟨List.prefix_append _ _, fun b u h hb hu => ⟨fun z => by
    rcases List.mem_append.mp z with z | z
    · exact hb z
    · rw [List.mem_singleton] at z
      subst z
      rw [hp] at h
      cases h
      exact hf hu, h⟩⟩
theorem Mo.push {r : List Addr} {H : Hp} {p : Addr} {o : HO} (hp : H p = some o) (hf : ¬ Fixed o) (hn : NoOwn o) : Mo r H (r ++ [p]) H :=
  ⟨Mn.push hp hf, fun b y h hb => ⟨fun z => by
    rcases List.mem_append.mp z with z | z
    · exact hb z
    · rw [List.mem_singleton] at z
      subst z
      rw [hp] at h
      cases h
      exact hn.1 y rfl, h⟩, fun b y h hb => ⟨fun z => by
    rcases List.mem_append.mp z with z | z
    · exact hb z
    · rw [List.mem_singleton] at z
      subst z
      rw [hp] at h
      cases h
      exact hn.2 y rfl, h⟩⟩
section
variable {K : PySem.W.Frag} {mg : Str → Option Value} {r r' : List Addr} {H H' : Hp}
theorem SqTr.sq {a : Addr} {vs : List V} (h : SqTr K H r a vs) : SqT K H a vs := by
  exact .inl (.inl h.2)
theorem SqTr.mono {a : Addr} {vs : List V} (s : Mn r H r' H') (h : SqTr K H r a vs) : SqTr K H' r' a vs := by
  exact ⟨(s.keep _ _ h.2 h.1 trivial).1, (s.keep _ _ h.2 h.1 trivial).2⟩
theorem SqLr.sq {a : Addr} {vs : List V} (h : SqLr K H r a vs) : SqL K H a vs := by
  rcases h with ⟨_, o, h⟩ | h
  · exact .inl (.inr ⟨o, h⟩)
  · exact h H
theorem SqLr.mono {a : Addr} {vs : List V} (s : Mn r H r' H') (h : SqLr K H r a vs) : SqLr K H' r' a vs := by
  rcases h with ⟨h1, o, h⟩ | h
  · exact .inl ⟨(s.keep _ _ h h1 trivial).1, o, (s.keep _ _ h h1 trivial).2⟩
  · exact .inr h
mutual
theorem Rel.mono (s : Mn r H r' H') : ∀ {v : V} {d : D}, Rel K mg r H v d → Rel K mg r' H' v d
  | _, _, .non => .non
  | _, _, .bl b => .bl b
  | _, _, .int i => .int i
  | _, _, .str x => .str x
  | _, _, .tup h q => .tup (h.mono s) (Rels.mono s q)
  | _, _, .rl h q => .rl (h.mono s) (Rels.mono s q)
  | _, _, .ref h => .ref (s.get h)
  | _, _, .exc0 h1 h2 h3 => .exc0 h1 (s.keep _ _ h3 h2 XO_fixed).1 (s.keep _ _ h3 h2 XO_fixed).2
  | _, _, .exc1 h1 hf h2 h3 h4 h5 q => .exc1 h1 hf (s.keep _ _ h4 h2 XO_fixed).1 (s.keep _ _ h5 h3 trivial).1 (s.keep _ _ h4 h2 XO_fixed).2 (s.keep _ _ h5 h3 trivial).2 (Rel.mono s q)
  | _, _, .kt h => .kt h
theorem Rels.mono (s : Mn r H r' H') : ∀ {vs : List V} {xs : List D}, Rels K mg r H vs xs → Rels K mg r' H' vs xs
  | _, _, .nil => .nil
  | _, _, .cons h q => .cons (Rel.mono s h) (Rels.mono s q)
end
theorem Rels.length : ∀ {vs : List V} {xs : List D}, Rels K mg r H vs xs → vs.length = xs.length
  | _, _, .nil => rfl
  | _, _, .cons _ q => by rw [List.length_cons, List.length_cons, Rels.length q]
theorem Rels.append : ∀ {vs ws : List V} {xs ys : List D}, Rels K mg r H vs xs → Rels K mg r H ws ys → Rels K mg r H (vs ++ ws) (xs ++ ys)
  | _, _, _, _, .nil, q => q
  | _, _, _, _, .cons h t, q => .cons h (Rels.append t q)
theorem Rels.get : ∀ {vs : List V} {xs : List D} {i : Nat} {v : V}, Rels K mg r H vs xs → vs[i]? = some v → ∃ x, xs[i]? = some x ∧ Rel K mg r H v x
  | _, _, i, _, .nil, e => by simp at e
  | _, _, 0, _, .cons h _, e => by
    simp at e; subst e; exact ⟨_, rfl, h⟩
  | _, _, i + 1, v, .cons _ q, e => by
    obtain ⟨x, h1, h2⟩ := Rels.get (i := i) (v := v) q (by simpa using e)
    exact ⟨x, by simpa using h1, h2⟩
theorem Rels.get' : ∀ {vs : List V} {xs : List D} {i : Nat} {x : D}, Rels K mg r H vs xs → xs[i]? = some x → ∃ v, vs[i]? = some v ∧ Rel K mg r H v x
  | _, _, i, _, .nil, e => by simp at e
  | _, _, 0, _, .cons h _, e => by
    simp at e; subst e; exact ⟨_, rfl, h⟩
  | _, _, i + 1, v, .cons _ q, e => by
    obtain ⟨x, h1, h2⟩ := Rels.get' (i := i) (x := v) q (by simpa using e)
    exact ⟨x, by simpa using h1, h2⟩
theorem Rels.set {v : V} {x : D} (h : Rel K mg r H v x) : ∀ {vs : List V} {xs : List D} (i : Nat), Rels K mg r H vs xs → Rels K mg r H (vs.set i v) (xs.set i x)
  | _, _, _, .nil => .nil
  | _, _, 0, .cons _ t => .cons h t
  | _, _, i + 1, .cons q t => .cons q (Rels.set h i t)
theorem Rels.take : ∀ {vs : List V} {xs : List D} (n : Nat), Rels K mg r H vs xs → Rels K mg r H (vs.take n) (xs.take n)
  | _, _, 0, _ => .nil
  | _, _, _ + 1, .nil => .nil
  | _, _, n + 1, .cons q t => .cons q (Rels.take n t)
theorem Rels.drop : ∀ {vs : List V} {xs : List D} (n : Nat), Rels K mg r H vs xs → Rels K mg r H (vs.drop n) (xs.drop n)
  | _, _, 0, q => q
  | _, _, _ + 1, .nil => .nil
  | _, _, n + 1, .cons _ t => Rels.drop n t
theorem Rels.reverse : ∀ {vs : List V} {xs : List D}, Rels K mg r H vs xs → Rels K mg r H vs.reverse xs.reverse
  | _, _, .nil => .nil
  | _, _, .cons h t => by
    rw [List.reverse_cons, List.reverse_cons]
    exact (Rels.reverse t).append (.cons h .nil)
theorem Rel.ref_inv {a : Addr} {n : Nat} (h : Rel K mg r H (.ref a) (.ref n)) : r[n]? = some a := by cases h; assumption
end
section
variable (K : PySem.W.Frag) (mg : Str → Option Value)
inductive RelK (r : List Addr) (H : Hp) : List (Key × V) → List (Key × D) → Prop
  | nil : RelK r H [] []
  | cons {k : Key} {v : V} {x : D} {vs : List (Key × V)} {xs : List (Key × D)} : Rel K mg r H v x → RelK r H vs xs → RelK r H ((k, v) :: vs) ((k, x) :: xs)
inductive RelKT (r : List Addr) (H : Hp) : List (List Key × V) → List (List Key × D) → Prop
  | nil : RelKT r H [] []
  | cons {k : List Key} {v : V} {x : D} {vs : List (List Key × V)} {xs : List (List Key × D)} : Rel K mg r H v x → RelKT r H vs xs → RelKT r H ((k, v) :: vs) ((k, x) :: xs)
inductive RelF (r : List Addr) (H : Hp) : List (Str × V) → List (Str × D) → Prop
  | nil : RelF r H [] []
  | cons {k : Str} {v : V} {x : D} {vs : List (Str × V)} {xs : List (Str × D)} : Rel K mg r H v x → RelF r H vs xs → RelF r H ((k, v) :: vs) ((k, x) :: xs)
inductive RelSl (r : List Addr) (H : Hp) : List (Option V) → List (Option D) → Prop
  | nil : RelSl r H [] []
  | some {v : V} {x : D} {vs : List (Option V)} {xs : List (Option D)} : Rel K mg r H v x → RelSl r H vs xs → RelSl r H (some v :: vs) (some x :: xs)
  | none {vs : List (Option V)} {xs : List (Option D)} : RelSl r H vs xs → RelSl r H (none :: vs) (none :: xs)
def ORel (r : List Addr) (H : Hp) (a : Addr) : AO → Prop
  | .lst xs => ∃ vs, H a = some (.lst vs) ∧ Rels K mg r H vs xs
  | .dk kvs => ∃ vs, H a = some (.dK vs) ∧ RelK K mg r H vs kvs
  | .dt kvs => ∃ vs, H a = some (.dT vs) ∧ RelKT K mg r H vs kvs
  | .ins c fs => ∃ C dx vs, mg c = some (.ref C) ∧ H a = some (.ins C dx vs) ∧ H dx = some (.own a) ∧ dx ∉ r ∧ RelF K mg r H vs fs
  | .sins c fs => ∃ C dx vs, mg c = some (.ref C) ∧ H a = some (SlX.SlO a C dx vs) ∧ H dx = some (.xd []) ∧ dx ∉ r ∧ RelSl K mg r H vs fs
  | .fz kvs => ∃ o vs, H a = some (.frz o (.dT vs)) ∧ RelKT K mg r H vs kvs
structure HRel [Tb] (r : List Addr) (h : AH) (H : Hp) : Prop where
  len : r.length = h.length
  nd : r.Nodup
  tbs : TbOk r H
  obj : ∀ (i : Nat) (o : AO) (a : Addr), h[i]? = some o → r[i]? = some a → ORel K mg r H a o
structure ERel (r : List Addr) (e : Env) (σ : L2.St) (H : Hp) : Prop where
  len : σ.length = e.length
  at_ : ∀ (i : Nat) (x : D), e[i]? = some (some x) → ∃ v, σ[i]? = some (some v) ∧ Rel K mg r H v x
end
section
variable {K : PySem.W.Frag} {mg : Str → Option Value} {r r' : List Addr} {H H' : Hp} {h : AH} {e : Env} {σ : L2.St}
theorem RelK.mono (s : Mn r H r' H') : ∀ {vs : List (Key × V)} {xs : List (Key × D)}, RelK K mg r H vs xs → RelK K mg r' H' vs xs
  | _, _, .nil => .nil
  | _, _, .cons h q => .cons (h.mono s) (RelK.mono s q)
theorem RelKT.mono (s : Mn r H r' H') : ∀ {vs : List (List Key × V)} {xs : List (List Key × D)}, RelKT K mg r H vs xs → RelKT K mg r' H' vs xs
  | _, _, .nil => .nil
  | _, _, .cons h q => .cons (h.mono s) (RelKT.mono s q)
theorem RelF.mono (s : Mn r H r' H') : ∀ {vs : List (Str × V)} {xs : List (Str × D)}, RelF K mg r H vs xs → RelF K mg r' H' vs xs
  | _, _, .nil => .nil
  | _, _, .cons h q => .cons (h.mono s) (RelF.mono s q)
theorem RelSl.mono (s : Mn r H r' H') : ∀ {vs : List (Option V)} {xs : List (Option D)}, RelSl K mg r H vs xs → RelSl K mg r' H' vs xs
  | _, _, .nil => .nil
  | _, _, .some h q => .some (h.mono s) (RelSl.mono s q)
  | _, _, .none q => .none (RelSl.mono s q)
theorem ORel.mono {a : Addr} {o : AO} (s : Mo r H r' H') (ha : H' a = H a) (q : ORel K mg r H a o) : ORel K mg r' H' a o := by
  cases o with
  | lst xs => obtain ⟨vs, h1, h2⟩ := q; exact ⟨vs, ha.trans h1, h2.mono s.toMn⟩
  | dk xs => obtain ⟨vs, h1, h2⟩ := q; exact ⟨vs, ha.trans h1, h2.mono s.toMn⟩
  | dt xs => obtain ⟨vs, h1, h2⟩ := q; exact ⟨vs, ha.trans h1, h2.mono s.toMn⟩
  | ins c fs => obtain ⟨C, dx, vs, h0, h1, h2, h3, h4⟩ := q; exact ⟨C, dx, vs, h0, ha.trans h1, (s.own _ _ h2 h3).2, (s.own _ _ h2 h3).1, h4.mono s.toMn⟩
  | sins c fs =>
    obtain ⟨C, dx, vs, h0, h1, h2, h3, h4⟩ := q
    exact ⟨C, dx, vs, h0, ha.trans h1, (s.keep _ _ h2 h3 trivial).2, (s.keep _ _ h2 h3 trivial).1, h4.mono s.toMn⟩
  | fz xs => obtain ⟨u, vs, h1, h2⟩ := q; exact ⟨u, vs, ha.trans h1, h2.mono s.toMn⟩
theorem ORel.there {a : Addr} {o : AO} (q : ORel K mg r H a o) : H a ≠ none := by
  cases o with
  | lst xs => obtain ⟨vs, h1, _⟩ := q; rw [h1]; exact fun z => nomatch z
  | dk xs => obtain ⟨vs, h1, _⟩ := q; rw [h1]; exact fun z => nomatch z
  | dt xs => obtain ⟨vs, h1, _⟩ := q; rw [h1]; exact fun z => nomatch z
  | ins c fs => obtain ⟨C, dx, vs, h0, h1, h2⟩ := q; rw [h1]; exact fun z => nomatch z
  | sins c fs => obtain ⟨C, dx, vs, h0, h1, h2, _⟩ := q; rw [h1]; exact fun z => nomatch z
  | fz xs => obtain ⟨u, vs, h1, _⟩ := q; rw [h1]; exact fun z => nomatch z
variable [Tb]
theorem HRel.there (q : HRel K mg r h H) {a : Addr} (ha : a ∈ r) : H a ≠ none := by
  obtain ⟨i, hi⟩ := List.getElem?_of_mem ha
  have hl : i < h.length := by rw [← q.len]; exact (List.getElem?_eq_some_iff.mp hi).1
  exact (q.obj i h[i] a (List.getElem?_eq_getElem hl) hi).there
theorem HRel.mono (s : Mo r H r H') (ha : ∀ a ∈ r, H' a = H a) (q : HRel K mg r h H) : HRel K mg r h H' :=
  ⟨q.len, q.nd, q.tbs.mono s, fun i o a h1 h2 => (q.obj i o a h1 h2).mono s (ha a (List.mem_of_getElem? h2))⟩
theorem HRel.alloc {p : Addr} {o : HO} (q : HRel K mg r h H) (hp : H p = none) (ho : ∀ ps, o ≠ .tbl ps := by intro _ z; cases z) : HRel K mg r h (upd H p o) :=
  q.mono (Mo.alloc hp ho) fun a ha => upd_ne fun z => q.there ha (z ▸ hp)
theorem ERel.mono (s : Mn r H r' H') (q : ERel K mg r e σ H) : ERel K mg r' e σ H' :=
  ⟨q.len, fun i x hx => let ⟨v, h1, h2⟩ := q.at_ i x hx; ⟨v, h1, h2.mono s⟩⟩
theorem ERel.set {v : V} {x : D} (q : ERel K mg r e σ H) (i : Nat) (hv : Rel K mg r H v x) : ERel K mg r (e.set i (some x)) (σ.set i (some v)) H := by
  refine ⟨by rw [List.length_set, List.length_set]; exact q.len, fun j y hy => ?_⟩
  by_cases hj : i = j
  · subst hj
    rw [List.getElem?_set] at hy
    simp only [if_true] at hy
    split at hy
    · rename_i hl
      cases hy
      exact ⟨v, by rw [List.getElem?_set]; simp [q.len, hl], hv⟩
    · cases hy
  · rw [List.getElem?_set_ne hj] at hy
    obtain ⟨w, h1, h2⟩ := q.at_ j y hy
    exact ⟨w, by rw [List.getElem?_set_ne hj]; exact h1, h2⟩
theorem HRel.put {p : Addr} {o : HO} {i : Nat} {ob : AO} (q : HRel K mg r h H) (hi : r[i]? = some p) (new : ORel K mg r (upd H p o) p ob) (ho : ∀ ps, o ≠ .tbl ps := by intro _ z; cases z) : HRel K mg r (h.set i ob) (upd H p o) := by
  have hp : p ∈ r := List.mem_of_getElem? hi
  have s : Mo r H r (upd H p o) := Mo.mut hp (q.there hp) ho
  refine ⟨by rw [List.length_set]; exact q.len, q.nd, q.tbs.mono s, fun j ob' a h1 h2 => ?_⟩
  by_cases hj : i = j
  · subst hj
    rw [hi] at h2
    cases h2
    rw [List.getElem?_set] at h1
    simp only [if_true] at h1
    split at h1
    · cases h1; exact new
    · cases h1
  · rw [List.getElem?_set_ne hj] at h1
    have ne : a ≠ p := fun z => by
      subst z
      exact hj ((List.getElem?_inj (List.getElem?_eq_some_iff.mp hi).1 q.nd).mp (hi.trans h2.symm))
    exact (q.obj j ob' a h1 h2).mono s (upd_ne ne)
theorem HRel.push {p : Addr} {ob : AO} (q : HRel K mg r h H) (hp : p ∉ r) (s : Mo r H (r ++ [p]) H) (new : ORel K mg (r ++ [p]) H p ob) : HRel K mg (r ++ [p]) (h ++ [ob]) H := by
  refine ⟨by rw [List.length_append, List.length_append, q.len, List.length_singleton, List.length_singleton], List.nodup_append.mpr ⟨q.nd, by simp, fun a ha b hb => by
    rw [List.mem_singleton] at hb; subst hb; exact fun z => hp (z ▸ ha)⟩, q.tbs.mono s, fun j ob' a h1 h2 => ?_⟩
  by_cases hj : j < r.length
  · rw [List.getElem?_append_left (by rw [← q.len]; exact hj)] at h1
    rw [List.getElem?_append_left hj] at h2
    exact (q.obj j ob' a h1 h2).mono s rfl
  · rw [List.getElem?_append_right (by rw [← q.len]; omega)] at h1
    rw [List.getElem?_append_right (by omega)] at h2
    have h1' : j - h.length = 0 := by
      cases e : j - h.length with
      | zero => rfl
      | succ k => rw [e] at h1; simp at h1
    rw [h1'] at h1
    rw [q.len, h1'] at h2
    simp at h1 h2
    subst h1 h2
    exact new
theorem HRel.cut {r1 : List Addr} {h1 : AH} (q : HRel K mg r1 h1 H) (hp : r <+: r1) (hobj : ∀ (i : Nat) (o : AO) (a : Addr), (h1.take r.length)[i]? = some o → r[i]? = some a → ORel K mg r H a o) : HRel K mg r (h1.take r.length) H := by
  have tb := q.tbs.cut hp
  obtain ⟨t, rfl⟩ := hp
  refine ⟨?_, (List.nodup_append.mp q.nd).1, tb, hobj⟩
  rw [List.length_take, ← q.len, List.length_append]
  omega
end
end BW

set_option Elab.async false
set_option linter.all false
set_option maxRecDepth 100000
set_option maxHeartbeats 4000000
namespace BW
open PySem PySem.Spec PyProof.Rows L2
mutual
def D.eqb : D → D → Bool
  | .non, .non => true
  | .bl a, .bl b => a == b
  | .int a, .int b => decide (a = b)
  | .str a, .str b => decide (a = b)
  | .tup a, .tup b => D.eqbs a b
  | .tl a, .tl b => D.eqbs a b
  | .rl a, .rl b => D.eqbs a b
  | .ref a, .ref b => decide (a = b)
  | .exc c a, .exc c' b => decide (c = c') && D.eqbs a b
  | .kt a, .kt b => decide (a = b)
  | _, _ => false
def D.eqbs : List D → List D → Bool
  | [], [] => true
  | x :: xs, y :: ys => D.eqb x y && D.eqbs xs ys
  | _, _ => false
end
mutual
theorem D.eqb_iff : ∀ a b : D, D.eqb a b = true ↔ a = b
  | .non, b => by cases b <;> simp [D.eqb]
  | .bl a, b => by cases b <;> simp [D.eqb]
  | .int a, b => by cases b <;> simp [D.eqb]
  | .str a, b => by cases b <;> simp [D.eqb]
  | .ref a, b => by cases b <;> simp [D.eqb]
  | .kt a, b => by cases b <;> simp [D.eqb]
  | .tup a, b => by
    cases b with
    | tup b => simp only [D.eqb, D.tup.injEq]; exact D.eqbs_iff a b
    | _ => simp [D.eqb]
  | .tl a, b => by
    cases b with
    | tl b => simp only [D.eqb, D.tl.injEq]; exact D.eqbs_iff a b
    | _ => simp [D.eqb]
  | .rl a, b => by
    cases b with
    | rl b => simp only [D.eqb, D.rl.injEq]; exact D.eqbs_iff a b
    | _ => simp [D.eqb]
  | .exc c a, b => by
    cases b with
    | exc c' b => simp only [D.eqb, D.exc.injEq, Bool.and_eq_true, decide_eq_true_eq, D.eqbs_iff a b]
    | _ => simp [D.eqb]
theorem D.eqbs_iff : ∀ a b : List D, D.eqbs a b = true ↔ a = b
  | [], b => by cases b <;> simp [D.eqbs]
  | x :: xs, b => by
    cases b with
    | nil => simp [D.eqbs]
    | cons y ys => simp only [D.eqbs, Bool.and_eq_true, List.cons.injEq, D.eqb_iff x y, D.eqbs_iff xs ys]
end
instance : DecidableEq D := fun a b => decidable_of_iff _ (D.eqb_iff a b)
instance : DecidableEq AO
  | .lst a, .lst b => decidable_of_iff (a = b) (by simp)
  | .dk a, .dk b => decidable_of_iff (a = b) (by simp)
  | .dt a, .dt b => decidable_of_iff (a = b) (by simp)
  | .ins a b, .ins c d => decidable_of_iff (a = c ∧ b = d) (by simp)
  | .sins a b, .sins c d => decidable_of_iff (a = c ∧ b = d) (by simp)
  | .lst _, .dk _ => isFalse (by simp) | .lst _, .dt _ => isFalse (by simp) | .lst _, .ins _ _ => isFalse (by simp) | .lst _, .sins _ _ => isFalse (by simp)
  | .dk _, .lst _ => isFalse (by simp) | .dk _, .dt _ => isFalse (by simp) | .dk _, .ins _ _ => isFalse (by simp) | .dk _, .sins _ _ => isFalse (by simp)
  | .dt _, .lst _ => isFalse (by simp) | .dt _, .dk _ => isFalse (by simp) | .dt _, .ins _ _ => isFalse (by simp) | .dt _, .sins _ _ => isFalse (by simp)
  | .ins _ _, .lst _ => isFalse (by simp) | .ins _ _, .dk _ => isFalse (by simp) | .ins _ _, .dt _ => isFalse (by simp) | .ins _ _, .sins _ _ => isFalse (by simp)
  | .fz a, .fz b => decidable_of_iff (a = b) (by simp)
  | .lst _, .fz _ => isFalse (by simp) | .dk _, .fz _ => isFalse (by simp) | .dt _, .fz _ => isFalse (by simp) | .ins _ _, .fz _ => isFalse (by simp) | .sins _ _, .fz _ => isFalse (by simp)
  | .fz _, .lst _ => isFalse (by simp) | .fz _, .dk _ => isFalse (by simp) | .fz _, .dt _ => isFalse (by simp) | .fz _, .ins _ _ => isFalse (by simp) | .fz _, .sins _ _ => isFalse (by simp)
  | .sins _ _, .lst _ => isFalse (by simp) | .sins _ _, .dk _ => isFalse (by simp) | .sins _ _, .dt _ => isFalse (by simp) | .sins _ _, .ins _ _ => isFalse (by simp)
variable [Tb]
mutual
def D.lt (n : Nat) : D → Bool
  | .tup xs => D.lts n xs
  | .tl xs => false
  | .rl xs => D.lts n xs
  | .ref k => decide (k < n)
  | .exc _ xs => D.lts n xs
  | _ => true
def D.lts (n : Nat) : List D → Bool
  | [] => true
  | x :: xs => D.lt n x && D.lts n xs
end
def AO.lt (n : Nat) : AO → Bool
  | .lst xs => D.lts n xs
  | .dk kvs => kvs.all fun p => p.2.lt n
  | .dt kvs => kvs.all fun p => p.2.lt n
  | .ins _ fs => fs.all fun p => p.2.lt n
  | .sins _ vs => vs.all fun p => p.all (D.lt n)
  | .fz kvs => kvs.all fun p => p.2.lt n
section
variable {K : PySem.W.Frag} {mg : Str → Option Value} {r r1 : List Addr} {H : Hp}
mutual
theorem Rel.lt : ∀ {v : V} {d : D}, Rel K mg r H v d → d.lt r.length = true
  | _, _, .non => rfl
  | _, _, .bl _ => rfl
  | _, _, .int _ => rfl
  | _, _, .str _ => rfl
  | _, _, .tup _ q => by simp only [D.lt]; exact Rels.lt q
  | _, _, .rl _ q => by simp only [D.lt]; exact Rels.lt q
  | _, _, .ref h => by simp only [D.lt, decide_eq_true_eq]; exact (List.getElem?_eq_some_iff.mp h).1
  | _, _, .exc0 _ _ _ => rfl
  | _, _, .exc1 _ _ _ _ _ _ q => by simp only [D.lt, D.lts, Bool.and_true]; exact Rel.lt q
  | _, _, .kt _ => rfl
theorem Rels.lt : ∀ {vs : List V} {xs : List D}, Rels K mg r H vs xs → D.lts r.length xs = true
  | _, _, .nil => rfl
  | _, _, .cons h q => by simp only [D.lts, Bool.and_eq_true]; exact ⟨Rel.lt h, Rels.lt q⟩
end
theorem SqTr.cut {a : Addr} {vs : List V} (hp : r <+: r1) (h : SqTr K H r1 a vs) : SqTr K H r a vs := by
  exact ⟨fun z => h.1 (hp.subset z), h.2⟩
theorem get_cut {n : Nat} {a : Addr} (hp : r <+: r1) (h : r1[n]? = some a) (hn : n < r.length) : r[n]? = some a := by
  obtain ⟨t, rfl⟩ := hp
  rw [List.getElem?_append_left hn] at h
  exact h
theorem SqLr.cut {a : Addr} {vs : List V} (hp : r <+: r1) (h : SqLr K H r1 a vs) : SqLr K H r a vs := by
  rcases h with ⟨h1, h⟩ | h
  · exact .inl ⟨fun z => h1 (hp.subset z), h⟩
  · exact .inr h
mutual
theorem Rel.cut (hp : r <+: r1) : ∀ {v : V} {d : D}, Rel K mg r1 H v d → d.lt r.length = true → Rel K mg r H v d
  | _, _, .non, _ => .non
  | _, _, .bl b, _ => .bl b
  | _, _, .int i, _ => .int i
  | _, _, .str x, _ => .str x
  | _, _, .tup h q, z => .tup (h.cut hp) (Rels.cut hp q (by simpa only [D.lt] using z))
  | _, _, .rl h q, z => .rl (h.cut hp) (Rels.cut hp q (by simpa only [D.lt] using z))
  | _, _, .ref h, z => .ref (get_cut hp h (by simpa only [D.lt, decide_eq_true_eq] using z))
  | _, _, .exc0 h1 h2 h3, _ => .exc0 h1 (fun z => h2 (hp.subset z)) h3
  | _, _, .exc1 h1 hf h2 h3 h4 h5 q, z => .exc1 h1 hf (fun z => h2 (hp.subset z)) (fun z => h3 (hp.subset z)) h4 h5 (Rel.cut hp q (by simpa only [D.lt, D.lts, Bool.and_true] using z))
  | _, _, .kt h, _ => .kt h
theorem Rels.cut (hp : r <+: r1) : ∀ {vs : List V} {xs : List D}, Rels K mg r1 H vs xs → D.lts r.length xs = true → Rels K mg r H vs xs
  | _, _, .nil, _ => .nil
  | _, _, .cons h q, z => by
    simp only [D.lts, Bool.and_eq_true] at z
    exact .cons (Rel.cut hp h z.1) (Rels.cut hp q z.2)
end
theorem RelK.cut (hp : r <+: r1) : ∀ {vs : List (Key × V)} {xs : List (Key × D)}, RelK K mg r1 H vs xs → (xs.all fun p => p.2.lt r.length) = true → RelK K mg r H vs xs
  | _, _, .nil, _ => .nil
  | _, _, .cons h q, z => by
    simp only [List.all_cons, Bool.and_eq_true] at z
    exact .cons (h.cut hp z.1) (RelK.cut hp q z.2)
theorem RelKT.cut (hp : r <+: r1) : ∀ {vs : List (List Key × V)} {xs : List (List Key × D)}, RelKT K mg r1 H vs xs → (xs.all fun p => p.2.lt r.length) = true → RelKT K mg r H vs xs
  | _, _, .nil, _ => .nil
  | _, _, .cons h q, z => by
    simp only [List.all_cons, Bool.and_eq_true] at z
    exact .cons (h.cut hp z.1) (RelKT.cut hp q z.2)
theorem RelF.cut (hp : r <+: r1) : ∀ {vs : List (Str × V)} {xs : List (Str × D)}, RelF K mg r1 H vs xs → (xs.all fun p => p.2.lt r.length) = true → RelF K mg r H vs xs
  | _, _, .nil, _ => .nil
  | _, _, .cons h q, z => by
    simp only [List.all_cons, Bool.and_eq_true] at z
    exact .cons (h.cut hp z.1) (RelF.cut hp q z.2)
theorem RelSl.cut (hp : r <+: r1) : ∀ {vs : List (Option V)} {xs : List (Option D)}, RelSl K mg r1 H vs xs → (xs.all fun p => p.all (D.lt r.length)) = true → RelSl K mg r H vs xs
  | _, _, .nil, _ => .nil
  | _, _, .some h q, z => by
    simp only [List.all_cons, Bool.and_eq_true, Option.all_some] at z
    exact .some (h.cut hp z.1) (RelSl.cut hp q z.2)
  | _, _, .none q, z => by
    simp only [List.all_cons, Bool.and_eq_true] at z
    exact .none (RelSl.cut hp q z.2)
theorem RelK.lt : ∀ {vs : List (Key × V)} {xs : List (Key × D)}, RelK K mg r H vs xs → (xs.all fun p => p.2.lt r.length) = true
  | _, _, .nil => rfl
  | _, _, .cons h q => by simp only [List.all_cons, Bool.and_eq_true]; exact ⟨h.lt, RelK.lt q⟩
theorem RelKT.lt : ∀ {vs : List (List Key × V)} {xs : List (List Key × D)}, RelKT K mg r H vs xs → (xs.all fun p => p.2.lt r.length) = true
  | _, _, .nil => rfl
  | _, _, .cons h q => by simp only [List.all_cons, Bool.and_eq_true]; exact ⟨h.lt, RelKT.lt q⟩
theorem RelF.lt : ∀ {vs : List (Str × V)} {xs : List (Str × D)}, RelF K mg r H vs xs → (xs.all fun p => p.2.lt r.length) = true
  | _, _, .nil => rfl
  | _, _, .cons h q => by simp only [List.all_cons, Bool.and_eq_true]; exact ⟨h.lt, RelF.lt q⟩
theorem RelSl.lt : ∀ {vs : List (Option V)} {xs : List (Option D)}, RelSl K mg r H vs xs → (xs.all fun p => p.all (D.lt r.length)) = true
  | _, _, .nil => rfl
  | _, _, .some h q => by simp only [List.all_cons, Bool.and_eq_true, Option.all_some]; exact ⟨h.lt, RelSl.lt q⟩
  | _, _, .none q => by simp only [List.all_cons, Bool.and_eq_true, Option.all_none]; exact ⟨trivial, RelSl.lt q⟩
theorem ORel.lt {a : Addr} {o : AO} (q : ORel K mg r H a o) : o.lt r.length = true := by
  cases o with
  | lst xs => obtain ⟨vs, _, h⟩ := q; exact h.lt
  | dk xs => obtain ⟨vs, _, h⟩ := q; exact h.lt
  | dt xs => obtain ⟨vs, _, h⟩ := q; exact h.lt
  | ins c fs => obtain ⟨C, dx, vs, _, _, _, _, h⟩ := q; exact h.lt
  | sins c fs => obtain ⟨C, dx, vs, _, _, _, _, h⟩ := q; exact h.lt
  | fz xs => obtain ⟨u, vs, _, h⟩ := q; exact h.lt
theorem ORel.cut {a : Addr} {o : AO} (hp : r <+: r1) (q : ORel K mg r1 H a o) (z : o.lt r.length = true) : ORel K mg r H a o := by
  cases o with
  | lst xs => obtain ⟨vs, h1, h⟩ := q; exact ⟨vs, h1, h.cut hp z⟩
  | dk xs => obtain ⟨vs, h1, h⟩ := q; exact ⟨vs, h1, h.cut hp z⟩
  | dt xs => obtain ⟨vs, h1, h⟩ := q; exact ⟨vs, h1, h.cut hp z⟩
  | ins c fs => obtain ⟨C, dx, vs, h1, h2, h3, h4, h⟩ := q; exact ⟨C, dx, vs, h1, h2, h3, fun z => h4 (hp.subset z), h.cut hp z⟩
  | sins c fs => obtain ⟨C, dx, vs, h1, h2, h3, h4, h⟩ := q; exact ⟨C, dx, vs, h1, h2, h3, fun z => h4 (hp.subset z), h.cut hp z⟩
  | fz xs => obtain ⟨u, vs, h1, h⟩ := q; exact ⟨u, vs, h1, h.cut hp z⟩
def oldOk (n : Nat) : AH → AH → Bool
  | [], _ => true
  | _ :: _, [] => false
  | o :: h, o' :: h' => (decide (o' = o) || o'.lt n) && oldOk n h h'
theorem oldOk_get {n : Nat} : ∀ {h h' : AH} {i : Nat} {o : AO}, oldOk n h h' = true → i < h.length → h'[i]? = some o → (h[i]? = some o ∨ o.lt n = true)
  | [], _, i, _, _, hi, _ => absurd hi (Nat.not_lt_zero _)
  | _ :: _, [], _, _, z, _, _ => by simp [oldOk] at z
  | a :: h, b :: h', 0, o, z, _, e => by
    simp only [oldOk, Bool.and_eq_true, Bool.or_eq_true, decide_eq_true_eq] at z
    simp at e; subst e
    rcases z.1 with q | q
    · left; rw [q]; rfl
    · exact .inr q
  | a :: h, b :: h', i + 1, o, z, hi, e => by
    simp only [oldOk, Bool.and_eq_true] at z
    have := oldOk_get (i := i) (o := o) z.2 (by simpa using hi) (by simpa using e)
    simpa using this
theorem HRel.cutOld {h h1 : AH} {H0 : Hp} (q0 : HRel K mg r h H0) (q : HRel K mg r1 h1 H) (hp : r <+: r1) (z : oldOk r.length h h1 = true) : HRel K mg r (h1.take r.length) H := by
  refine q.cut hp fun i o a e1 e2 => ?_
  have hi : i < r.length := (List.getElem?_eq_some_iff.mp e2).1
  have e3 : h1[i]? = some o := by rw [List.getElem?_take] at e1; split at e1 <;> first | exact e1 | cases e1
  have e4 : r1[i]? = some a := by obtain ⟨t, rfl⟩ := hp; rw [List.getElem?_append_left hi]; exact e2
  refine (q.obj i o a e3 e4).cut hp ?_
  rcases oldOk_get z (by rw [← q0.len]; exact hi) e3 with y | y
  · exact (q0.obj i o a y e2).lt
  · exact y
end
end BW

set_option Elab.async false
set_option linter.all false
set_option maxRecDepth 100000
set_option maxHeartbeats 4000000
namespace BW
open PySem PySem.Spec PyProof.Rows L2
variable [Tb]
theorem nrfl0 {α : Sort u} {a b : α} (h : a = b) : a = b := h
inductive Out (α : Type) where
  | stuck
  | ok (a : α) (h : AH)
  | exc (x : D) (h : AH)
def Out.bind {α β : Type} (o : Out α) (f : α → AH → Out β) : Out β :=
  match o with
  | .stuck => .stuck
  | .ok a h => f a h
  | .exc x h => .exc x h
@[simp] theorem Out.bind_ok {α β : Type} (a : α) (h : AH) (f : α → AH → Out β) : (Out.ok a h).bind f = f a h := nrfl0 rfl
abbrev Ev := Env → AH → Out D
abbrev Tv := Env → AH → Out Bool
abbrev Av := Env → AH → Out (List D)
abbrev Fd := List D → AH → Out D
inductive Fl where
  | stuck
  | nx (e : Env) (h : AH)
  | ret (d : D) (h : AH)
  | brk (e : Env) (h : AH)
  | cont (e : Env) (h : AH)
  | exc (x : D) (e : Env) (h : AH)
abbrev Sv := Env → AH → Fl
abbrev Wx := Value → Option Addr → L2.St → Hp → Prop
section
variable (K : PySem.W.Frag) (mg : Str → Option Value)
inductive RelT (H0 : Hp) (r : List Addr) (H : Hp) : V → D → Prop
  | val {v : V} {d : D} : Rel K mg r H v d → RelT H0 r H v d
  | tl {p : Addr} {vs : List V} {xs : List D} : Fr H0 p → H p = some (.lst vs) → p ∉ r → Rels K mg r H vs xs → RelT H0 r H (.ref p) (.tl xs)
abbrev RelU (r : List Addr) (H : Hp) : V → D → Prop := RelT K mg (fun _ => none) r H
inductive RelTs (r : List Addr) (H : Hp) : List V → List D → Prop
  | nil : RelTs r H [] []
  | cons {v : V} {d : D} {vs : List V} {ds : List D} : RelU K mg r H v d → RelTs r H vs ds → RelTs r H (v :: vs) (d :: ds)
inductive ExRel (r : List Addr) (H : Hp) : Value → Option Addr → D → Prop
  | e0 {c : Str} {C : Addr} : mg c = some (.ref C) → ExRel r H (.ref C) none (.exc c [])
  | e1 {c f : Str} {C dx : Addr} {v : V} {x : D} : mg c = some (.ref C) → fieldOf c = some f → dx ∉ r → H dx = some (.xd [(f, v)]) → Rel K mg r H v x → ExRel r H (.ref C) (some dx) (.exc c [x])
def OkE (W : Wx) (σ : L2.St) (r : List Addr) (H : Hp) (Q : VK) : Out D → Prop
  | .stuck => False
  | .ok d h' => ∀ v r' H', Step r H r' H' → HRel K mg r' h' H' → RelT K mg H r' H' v d → Q v H'
  | .exc x h' => ∀ c dx r' H', Step r H r' H' → HRel K mg r' h' H' → ExRel K mg r' H' c dx x → W c dx σ H'
def OkT (W : Wx) (σ : L2.St) (r : List Addr) (H : Hp) (Q : Bool → Hp → Prop) : Out Bool → Prop
  | .stuck => False
  | .ok d h' => ∀ r' H', Step r H r' H' → HRel K mg r' h' H' → Q d H'
  | .exc x h' => ∀ c dx r' H', Step r H r' H' → HRel K mg r' h' H' → ExRel K mg r' H' c dx x → W c dx σ H'
def OkA (W : Wx) (σ : L2.St) (r : List Addr) (H : Hp) (Q : List V → Hp → Prop) : Out (List D) → Prop
  | .stuck => False
  | .ok d h' => ∀ v r' H', Step r H r' H' → HRel K mg r' h' H' → RelTs K mg r' H' v d → Q v H'
  | .exc x h' => ∀ c dx r' H', Step r H r' H' → HRel K mg r' h' H' → ExRel K mg r' H' c dx x → W c dx σ H'
def OkS (W : Wx) (r : List Addr) (H : Hp) (N : Ends) : Fl → Prop
  | .stuck => False
  | .nx e' h' => ∀ σ' r' H', Step r H r' H' → ERel K mg r' e' σ' H' → HRel K mg r' h' H' → N.nx σ' H'
  | .ret d h' => ∀ v r' H', Step r H r' H' → HRel K mg r' h' H' → RelT K mg H r' H' v d → N.rt v H'
  | .brk e' h' => ∀ σ' r' H', Step r H r' H' → ERel K mg r' e' σ' H' → HRel K mg r' h' H' → N.bk σ' H'
  | .cont e' h' => ∀ σ' r' H', Step r H r' H' → ERel K mg r' e' σ' H' → HRel K mg r' h' H' → N.ct σ' H'
  | .exc x e' h' => ∀ c dx σ' r' H', Step r H r' H' → ERel K mg r' e' σ' H' → HRel K mg r' h' H' → ExRel K mg r' H' c dx x → W c dx σ' H'
def rdE (W : Wx) (f : Ev) : TE := fun σ H Q => ∃ r e h, ERel K mg r e σ H ∧ HRel K mg r h H ∧ OkE K mg W σ r H Q (f e h)
def rdT (W : Wx) (f : Tv) : TT := fun σ H Q => ∃ r e h, ERel K mg r e σ H ∧ HRel K mg r h H ∧ OkT K mg W σ r H Q (f e h)
def rdA (W : Wx) (f : Av) : TA := fun σ H Q => ∃ r e h, ERel K mg r e σ H ∧ HRel K mg r h H ∧ OkA K mg W σ r H Q (f e h)
def rdS (W : Wx) (f : Sv) : TS := fun N σ H => ∃ r e h, ERel K mg r e σ H ∧ HRel K mg r h H ∧ OkS K mg W r H N (f e h)
end
abbrev DenE (X : Cx) (W : Wx) (e : Expr) (f : Ev) : Prop := PE X e (rdE X.K X.mg W f)
abbrev DenT (X : Cx) (W : Wx) (e : Expr) (f : Tv) : Prop := PT X e (rdT X.K X.mg W f)
abbrev DenA (X : Cx) (W : Wx) (es : List Expr) (f : Av) : Prop := PA X es (rdA X.K X.mg W f)
abbrev DenS (X : Cx) (W : Wx) (st : Stmt) (f : Sv) : Prop := PS X st (rdS X.K X.mg W f)
abbrev DenB (X : Cx) (W : Wx) (st : List Stmt) (f : Sv) : Prop := PSs X st (rdS X.K X.mg W f)
section
variable {X : Cx}
theorem PE.imp {e : Expr} {t t' : TE} (h : PE X e t) (q : ∀ σ H Q, t' σ H Q → t σ H Q) : PE X e t' := ⟨fun pins s σ H Q I z => h.run pins s σ H Q I (q σ H Q z)⟩
theorem PT.imp {e : Expr} {t t' : TT} (h : PT X e t) (q : ∀ σ H Q, t' σ H Q → t σ H Q) : PT X e t' := ⟨fun pins s σ H Q I z => h.run pins s σ H Q I (q σ H Q z)⟩
theorem PW.imp {e : Expr} {t t' : TT} (h : PW X e t) (q : ∀ σ H Q, t' σ H Q → t σ H Q) : PW X e t' := ⟨fun wh pins s σ H Q I z => h.run wh pins s σ H Q I (q σ H Q z)⟩
theorem PA.imp {es : List Expr} {t t' : TA} (h : PA X es t) (q : ∀ σ H Q, t' σ H Q → t σ H Q) : PA X es t' := ⟨fun pos pins s σ H Q I z => h.run pos pins s σ H Q I (q σ H Q z)⟩
theorem PS.imp {st : Stmt} {t t' : TS} (h : PS X st t) (q : ∀ N σ H, t' N σ H → t N σ H) : PS X st t' := ⟨fun pins s σ H N I z => h.run pins s σ H N I (q N σ H z)⟩
theorem PSs.imp {st : List Stmt} {t t' : TS} (h : PSs X st t) (q : ∀ N σ H, t' N σ H → t N σ H) : PSs X st t' := ⟨fun pins s σ H N I z => h.run pins s σ H N I (q N σ H z)⟩
end
section
variable {K : PySem.W.Frag} {mg : Str → Option Value} {W : Wx} {σ : L2.St} {r r' r1 : List Addr} {H H' H1 H0 : Hp} {h : AH} {e : Env}
theorem RelT.mono {v : V} {d : D} (s : Step r H r' H') (q : RelT K mg H0 r H v d) : RelT K mg H0 r' H' v d := by
  cases q with
  | val q => exact .val (q.mono s.mn)
  | tl a b c q => exact .tl a (s.keep _ _ b c NoOwn.of) (s.notin c b NoOwn.of) (q.mono s.mn)
theorem RelT.u {v : V} {d : D} (q : RelT K mg H0 r H v d) : RelU K mg r H v d := by
  cases q with
  | val q => exact .val q
  | tl a b c q => exact .tl (.of rfl) b c q
theorem RelT.back {v : V} {d : D} (s : Step r H r1 H1) (q : RelT K mg H1 r' H' v d) : RelT K mg H r' H' v d := by
  cases q with
  | val q => exact .val q
  | tl a b c q => exact .tl (s.stay _ a) b c q
theorem OkE.after {Q : VK} {o : Out D} (s : Step r H r1 H1) (q : OkE K mg W σ r H Q o) : OkE K mg W σ r1 H1 Q o := by
  cases o with
  | stuck => exact q
  | ok d h' => exact fun v r' H' s' hr t => q v r' H' (s.trans s') hr (t.back s)
  | exc x h' => exact fun c dx r' H' s' hr t => q c dx r' H' (s.trans s') hr t
theorem OkT.after {Q : Bool → Hp → Prop} {o : Out Bool} (s : Step r H r1 H1) (q : OkT K mg W σ r H Q o) : OkT K mg W σ r1 H1 Q o := by
  cases o with
  | stuck => exact q
  | ok d h' => exact fun r' H' s' hr => q r' H' (s.trans s') hr
  | exc x h' => exact fun c dx r' H' s' hr t => q c dx r' H' (s.trans s') hr t
theorem OkA.after {Q : List V → Hp → Prop} {o : Out (List D)} (s : Step r H r1 H1) (q : OkA K mg W σ r H Q o) : OkA K mg W σ r1 H1 Q o := by
  cases o with
  | stuck => exact q
  | ok d h' => exact fun v r' H' s' hr t => q v r' H' (s.trans s') hr t
  | exc x h' => exact fun c dx r' H' s' hr t => q c dx r' H' (s.trans s') hr t
theorem OkS.after {N : Ends} {o : Fl} (s : Step r H r1 H1) (q : OkS K mg W r H N o) : OkS K mg W r1 H1 N o := by
  cases o with
  | stuck => exact q
  | nx e' h' => exact fun σ' r' H' s' => q σ' r' H' (s.trans s')
  | brk e' h' => exact fun σ' r' H' s' => q σ' r' H' (s.trans s')
  | cont e' h' => exact fun σ' r' H' s' => q σ' r' H' (s.trans s')
  | ret d h' => exact fun v r' H' s' hr t => q v r' H' (s.trans s') hr (t.back s)
  | exc x e' h' => exact fun c dx σ' r' H' s' => q c dx σ' r' H' (s.trans s')
theorem rdE_bind {f : Ev} {k : D → AH → Out D} {Q Q' : VK} (er : ERel K mg r e σ H) (hr : HRel K mg r h H) (ok : OkE K mg W σ r H Q ((f e h).bind k))
    (hk : ∀ d h1 v r1 H1, Step r H r1 H1 → HRel K mg r1 h1 H1 → RelT K mg H r1 H1 v d → ERel K mg r1 e σ H1 → OkE K mg W σ r1 H1 Q (k d h1) → Q' v H1) : rdE K mg W f σ H Q' := by
  refine ⟨r, e, h, er, hr, ?_⟩
  cases hf : f e h with
  | stuck => rw [hf] at ok; exact ok
  | ok d h1 => rw [hf] at ok; exact fun v r1 H1 s q t => hk d h1 v r1 H1 s q t (er.mono s.mn) (OkE.after s ok)
  | exc x h1 => rw [hf] at ok; exact ok
theorem rdE_bindT {f : Ev} {k : D → AH → Out Bool} {Q : Bool → Hp → Prop} {Q' : VK} (er : ERel K mg r e σ H) (hr : HRel K mg r h H) (ok : OkT K mg W σ r H Q ((f e h).bind k))
    (hk : ∀ d h1 v r1 H1, Step r H r1 H1 → HRel K mg r1 h1 H1 → RelT K mg H r1 H1 v d → ERel K mg r1 e σ H1 → OkT K mg W σ r1 H1 Q (k d h1) → Q' v H1) : rdE K mg W f σ H Q' := by
  refine ⟨r, e, h, er, hr, ?_⟩
  cases hf : f e h with
  | stuck => rw [hf] at ok; exact ok
  | ok d h1 => rw [hf] at ok; exact fun v r1 H1 s q t => hk d h1 v r1 H1 s q t (er.mono s.mn) (OkT.after s ok)
  | exc x h1 => rw [hf] at ok; exact ok
theorem rdT_bindT {f : Tv} {k : Bool → AH → Out Bool} {Q Q' : Bool → Hp → Prop} (er : ERel K mg r e σ H) (hr : HRel K mg r h H) (ok : OkT K mg W σ r H Q ((f e h).bind k))
    (hk : ∀ d h1 r1 H1, Step r H r1 H1 → HRel K mg r1 h1 H1 → ERel K mg r1 e σ H1 → OkT K mg W σ r1 H1 Q (k d h1) → Q' d H1) : rdT K mg W f σ H Q' := by
  refine ⟨r, e, h, er, hr, ?_⟩
  cases hf : f e h with
  | stuck => rw [hf] at ok; exact ok
  | ok d h1 => rw [hf] at ok; exact fun r1 H1 s q => hk d h1 r1 H1 s q (er.mono s.mn) (OkT.after s ok)
  | exc x h1 => rw [hf] at ok; exact ok
theorem rdT_bindE {f : Tv} {k : Bool → AH → Out D} {Q : VK} {Q' : Bool → Hp → Prop} (er : ERel K mg r e σ H) (hr : HRel K mg r h H) (ok : OkE K mg W σ r H Q ((f e h).bind k))
    (hk : ∀ d h1 r1 H1, Step r H r1 H1 → HRel K mg r1 h1 H1 → ERel K mg r1 e σ H1 → OkE K mg W σ r1 H1 Q (k d h1) → Q' d H1) : rdT K mg W f σ H Q' := by
  refine ⟨r, e, h, er, hr, ?_⟩
  cases hf : f e h with
  | stuck => rw [hf] at ok; exact ok
  | ok d h1 => rw [hf] at ok; exact fun r1 H1 s q => hk d h1 r1 H1 s q (er.mono s.mn) (OkE.after s ok)
  | exc x h1 => rw [hf] at ok; exact ok
theorem rdE_bindA {f : Ev} {k : D → AH → Out (List D)} {Q : List V → Hp → Prop} {Q' : VK} (er : ERel K mg r e σ H) (hr : HRel K mg r h H) (ok : OkA K mg W σ r H Q ((f e h).bind k))
    (hk : ∀ d h1 v r1 H1, Step r H r1 H1 → HRel K mg r1 h1 H1 → RelT K mg H r1 H1 v d → ERel K mg r1 e σ H1 → OkA K mg W σ r1 H1 Q (k d h1) → Q' v H1) : rdE K mg W f σ H Q' := by
  refine ⟨r, e, h, er, hr, ?_⟩
  cases hf : f e h with
  | stuck => rw [hf] at ok; exact ok
  | ok d h1 => rw [hf] at ok; exact fun v r1 H1 s q t => hk d h1 v r1 H1 s q t (er.mono s.mn) (OkA.after s ok)
  | exc x h1 => rw [hf] at ok; exact ok
theorem rdA_bindA {f : Av} {k : List D → AH → Out (List D)} {Q Q' : List V → Hp → Prop} (er : ERel K mg r e σ H) (hr : HRel K mg r h H) (ok : OkA K mg W σ r H Q ((f e h).bind k))
    (hk : ∀ d h1 v r1 H1, Step r H r1 H1 → HRel K mg r1 h1 H1 → RelTs K mg r1 H1 v d → ERel K mg r1 e σ H1 → OkA K mg W σ r1 H1 Q (k d h1) → Q' v H1) : rdA K mg W f σ H Q' := by
  refine ⟨r, e, h, er, hr, ?_⟩
  cases hf : f e h with
  | stuck => rw [hf] at ok; exact ok
  | ok d h1 => rw [hf] at ok; exact fun v r1 H1 s q t => hk d h1 v r1 H1 s q t (er.mono s.mn) (OkA.after s ok)
  | exc x h1 => rw [hf] at ok; exact ok
theorem rdA_bindE {f : Av} {k : List D → AH → Out D} {Q : VK} {Q' : List V → Hp → Prop} (er : ERel K mg r e σ H) (hr : HRel K mg r h H) (ok : OkE K mg W σ r H Q ((f e h).bind k))
    (hk : ∀ d h1 v r1 H1, Step r H r1 H1 → HRel K mg r1 h1 H1 → RelTs K mg r1 H1 v d → ERel K mg r1 e σ H1 → OkE K mg W σ r1 H1 Q (k d h1) → Q' v H1) : rdA K mg W f σ H Q' := by
  refine ⟨r, e, h, er, hr, ?_⟩
  cases hf : f e h with
  | stuck => rw [hf] at ok; exact ok
  | ok d h1 => rw [hf] at ok; exact fun v r1 H1 s q t => hk d h1 v r1 H1 s q t (er.mono s.mn) (OkE.after s ok)
  | exc x h1 => rw [hf] at ok; exact ok
def Out.toFl {α : Type} (o : Out α) (e : Env) (k : α → AH → Fl) : Fl :=
  match o with
  | .stuck => .stuck
  | .ok a h => k a h
  | .exc x h => .exc x e h
@[simp] theorem Out.toFl_ok {α : Type} (a : α) (h : AH) (e : Env) (k : α → AH → Fl) : (Out.ok a h).toFl e k = k a h := nrfl0 rfl
theorem rdE_bindS {f : Ev} {k : D → AH → Fl} {N : Ends} {Q' : VK} (er : ERel K mg r e σ H) (hr : HRel K mg r h H) (ok : OkS K mg W r H N ((f e h).toFl e k))
    (hk : ∀ d h1 v r1 H1, Step r H r1 H1 → HRel K mg r1 h1 H1 → RelT K mg H r1 H1 v d → ERel K mg r1 e σ H1 → OkS K mg W r1 H1 N (k d h1) → Q' v H1) : rdE K mg W f σ H Q' := by
  refine ⟨r, e, h, er, hr, ?_⟩
  cases hf : f e h with
  | stuck => rw [hf] at ok; exact ok
  | ok d h1 => rw [hf] at ok; exact fun v r1 H1 s q t => hk d h1 v r1 H1 s q t (er.mono s.mn) (OkS.after s ok)
  | exc x h1 => rw [hf] at ok; exact fun c dx r' H' s q t => ok c dx σ r' H' s (er.mono s.mn) q t
theorem rdT_bindS {f : Tv} {k : Bool → AH → Fl} {N : Ends} {Q' : Bool → Hp → Prop} (er : ERel K mg r e σ H) (hr : HRel K mg r h H) (ok : OkS K mg W r H N ((f e h).toFl e k))
    (hk : ∀ d h1 r1 H1, Step r H r1 H1 → HRel K mg r1 h1 H1 → ERel K mg r1 e σ H1 → OkS K mg W r1 H1 N (k d h1) → Q' d H1) : rdT K mg W f σ H Q' := by
  refine ⟨r, e, h, er, hr, ?_⟩
  cases hf : f e h with
  | stuck => rw [hf] at ok; exact ok
  | ok d h1 => rw [hf] at ok; exact fun r1 H1 s q => hk d h1 r1 H1 s q (er.mono s.mn) (OkS.after s ok)
  | exc x h1 => rw [hf] at ok; exact fun c dx r' H' s q t => ok c dx σ r' H' s (er.mono s.mn) q t
end
section
variable {X : Cx} {W : Wx}
def evVar (i : Nat) : Ev := fun e h => match e[i]? with
  | some (some d) => .ok d h
  | _ => .stuck
theorem den_var {i : Nat} {x : Str} {pos : Pos} (hN : X.N[i]? = some x) (hv : Vis X.env.scope x) (hd : (x == ("__debug__" : Str)) = false := by decide) (hcd : (x == ("__classdict__" : Str)) = false := by decide) : DenE X W (.Name x pos) (evVar i) :=
  PE.imp (pe_var hN hv hd hcd) fun σ H Q ⟨r, e, h, er, hr, ok⟩ => by
    unfold evVar at ok
    split at ok
    · rename_i d hd
      obtain ⟨v, h1, h2⟩ := er.at_ i d hd
      exact ⟨v, h1, ok v r H (Step.refl r H) hr (.val h2)⟩
    · exact ok.elim
def evC (d : D) : Ev := fun _ h => .ok d h
theorem den_int {i : Int} {j pos} : DenE X W (.Constant (.int i) j pos) (evC (.int i)) := PE.imp pe_int fun σ H Q ⟨r, e, h, er, hr, ok⟩ => ok _ r H (Step.refl r H) hr (.val (.int i))
theorem den_bl {b : Bool} {j pos} : DenE X W (.Constant (.bool b) j pos) (evC (.bl b)) := PE.imp pe_bl fun σ H Q ⟨r, e, h, er, hr, ok⟩ => ok _ r H (Step.refl r H) hr (.val (.bl b))
theorem den_non {j pos} : DenE X W (.Constant .none j pos) (evC .non) := PE.imp pe_non fun σ H Q ⟨r, e, h, er, hr, ok⟩ => ok _ r H (Step.refl r H) hr (.val .non)
theorem den_str {x : Str} {j pos} : DenE X W (.Constant (.str x) j pos) (evC (.str x)) := PE.imp pe_str fun σ H Q ⟨r, e, h, er, hr, ok⟩ => ok _ r H (Step.refl r H) hr (.val (.str x))
theorem den_glob {x : Str} {v : V} {u : Value} {d : D} {pos : Pos} (hg : Gl X x) (hm : X.mg x = some u) (rv : RelV v u) (hd : ∀ r H, Rel X.K X.mg r H v d) (hdb : (x == ("__debug__" : Str)) = false := by decide) : DenE X W (.Name x pos) (evC d) :=
  PE.imp (pe_glob hg hm rv hdb) fun σ H Q ⟨r, e, h, er, hr, ok⟩ => ok _ r H (Step.refl r H) hr (.val (hd r H))
def promote (d : D) (h : AH) : Out D := match d with
  | .tl xs => .ok (.ref h.length) (h ++ [.lst xs])
  | d => .ok d h
def pv (f : Ev) : Ev := fun e h => (f e h).bind promote
theorem Step.push {r : List Addr} {H : Hp} {p : Addr} (hp : p ∉ r) {H0 : Hp} {r0 : List Addr} (s : Step r0 H0 r H) (h0 : Fr H0 p) : Step r0 H0 (r ++ [p]) H where
  pre := s.pre.trans (List.prefix_append _ _)
  new := fun a ha hn => by
    rcases List.mem_append.mp ha with z | z
    · exact s.new a z hn
    · rw [List.mem_singleton] at z; rw [z]; exact h0
  keep := s.keep
  stay := s.stay
  frz := s.frz
theorem push_ok {K : PySem.W.Frag} {mg : Str → Option Value} {r : List Addr} {H : Hp} {h : AH} {p : Addr} {vs : List V} {xs : List D} (hr : HRel K mg r h H) (b : H p = some (.lst vs)) (c : p ∉ r) (q : Rels K mg r H vs xs) :
    HRel K mg (r ++ [p]) (h ++ [.lst xs]) H ∧ Rel K mg (r ++ [p]) H (.ref p) (.ref h.length) := by
  have m : Mo r H (r ++ [p]) H := Mo.push b (fun z => z) NoOwn.of
  have hl : (r ++ [p])[h.length]? = some p := by rw [← hr.len, List.getElem?_append_right (Nat.le_refl _), Nat.sub_self]; rfl
  exact ⟨hr.push (ob := .lst xs) c m ⟨vs, b, q.mono m.toMn⟩, .ref hl⟩
end
section
variable (K : PySem.W.Frag) (mg : Str → Option Value)
def OkV (W : Wx) (σ : L2.St) (r : List Addr) (H : Hp) (Q : VK) : Out D → Prop
  | .stuck => False
  | .ok d h' => ∀ v r' H', Step r H r' H' → HRel K mg r' h' H' → Rel K mg r' H' v d → Q v H'
  | .exc x h' => ∀ c dx r' H', Step r H r' H' → HRel K mg r' h' H' → ExRel K mg r' H' c dx x → W c dx σ H'
def OkVs (W : Wx) (σ : L2.St) (r : List Addr) (H : Hp) (Q : List V → Hp → Prop) : Out (List D) → Prop
  | .stuck => False
  | .ok d h' => ∀ v r' H', Step r H r' H' → HRel K mg r' h' H' → Rels K mg r' H' v d → Q v H'
  | .exc x h' => ∀ c dx r' H', Step r H r' H' → HRel K mg r' h' H' → ExRel K mg r' H' c dx x → W c dx σ H'
def rdV (W : Wx) (f : Ev) : TE := fun σ H Q => ∃ r e h, ERel K mg r e σ H ∧ HRel K mg r h H ∧ OkV K mg W σ r H Q (f e h)
def rdVs (W : Wx) (f : Av) : TA := fun σ H Q => ∃ r e h, ERel K mg r e σ H ∧ HRel K mg r h H ∧ OkVs K mg W σ r H Q (f e h)
end
section
variable {K : PySem.W.Frag} {mg : Str → Option Value} {W : Wx} {σ : L2.St} {r r' r1 : List Addr} {H H' H1 H0 : Hp} {h : AH} {e : Env}
theorem OkVs.after {Q : List V → Hp → Prop} {o : Out (List D)} (s : Step r H r1 H1) (q : OkVs K mg W σ r H Q o) : OkVs K mg W σ r1 H1 Q o := by
  cases o with
  | stuck => exact q
  | ok d h' => exact fun v r' H' s' hr t => q v r' H' (s.trans s') hr t
  | exc x h' => exact fun c dx r' H' s' hr t => q c dx r' H' (s.trans s') hr t
theorem rdV_then {f : Ev} {Q' : VK} (er : ERel K mg r e σ H) (hr : HRel K mg r h H) (h0 : f e h ≠ .stuck) (hx : ∀ x h1, f e h = .exc x h1 → ∀ c dx r' H', Step r H r' H' → HRel K mg r' h1 H' → ExRel K mg r' H' c dx x → W c dx σ H')
    (hk : ∀ d h1 v r1 H1, f e h = .ok d h1 → Step r H r1 H1 → HRel K mg r1 h1 H1 → Rel K mg r1 H1 v d → ERel K mg r1 e σ H1 → Q' v H1) : rdV K mg W f σ H Q' := by
  refine ⟨r, e, h, er, hr, ?_⟩
  cases hf : f e h with
  | stuck => exact absurd hf h0
  | ok d h1 => exact fun v r1 H1 s q t => hk d h1 v r1 H1 hf s q t (er.mono s.mn)
  | exc x h1 => exact hx x h1 hf
theorem rdV_bind {f : Ev} {k : D → AH → Out D} {Q Q' : VK} (er : ERel K mg r e σ H) (hr : HRel K mg r h H) (ok : OkE K mg W σ r H Q ((f e h).bind k))
    (hk : ∀ d h1 v r1 H1, Step r H r1 H1 → HRel K mg r1 h1 H1 → Rel K mg r1 H1 v d → ERel K mg r1 e σ H1 → OkE K mg W σ r1 H1 Q (k d h1) → Q' v H1) : rdV K mg W f σ H Q' :=
  rdV_then er hr (fun z => by rw [z] at ok; exact ok) (fun x h1 z => by rw [z] at ok; exact ok) fun d h1 v r1 H1 z s q t e1 => hk d h1 v r1 H1 s q t e1 (by rw [z] at ok; exact OkE.after s ok)
theorem rdV_bindVs {f : Ev} {k : D → AH → Out (List D)} {Q : List V → Hp → Prop} {Q' : VK} (er : ERel K mg r e σ H) (hr : HRel K mg r h H) (ok : OkVs K mg W σ r H Q ((f e h).bind k))
    (hk : ∀ d h1 v r1 H1, Step r H r1 H1 → HRel K mg r1 h1 H1 → Rel K mg r1 H1 v d → ERel K mg r1 e σ H1 → OkVs K mg W σ r1 H1 Q (k d h1) → Q' v H1) : rdV K mg W f σ H Q' :=
  rdV_then er hr (fun z => by rw [z] at ok; exact ok) (fun x h1 z => by rw [z] at ok; exact ok) fun d h1 v r1 H1 z s q t e1 => hk d h1 v r1 H1 s q t e1 (by rw [z] at ok; exact OkVs.after s ok)
theorem rdV_bindS {f : Ev} {k : D → AH → Fl} {N : Ends} {Q' : VK} (er : ERel K mg r e σ H) (hr : HRel K mg r h H) (ok : OkS K mg W r H N ((f e h).toFl e k))
    (hk : ∀ d h1 v r1 H1, Step r H r1 H1 → HRel K mg r1 h1 H1 → Rel K mg r1 H1 v d → ERel K mg r1 e σ H1 → OkS K mg W r1 H1 N (k d h1) → Q' v H1) : rdV K mg W f σ H Q' :=
  rdV_then er hr (fun z => by rw [z] at ok; exact ok) (fun x h1 z => by rw [z] at ok; exact fun c dx r' H' s q t => ok c dx σ r' H' s (er.mono s.mn) q t) fun d h1 v r1 H1 z s q t e1 => hk d h1 v r1 H1 s q t e1 (by rw [z] at ok; exact OkS.after s ok)
theorem rdVs_bind {f : Av} {k : List D → AH → Out D} {Q : VK} {Q' : List V → Hp → Prop} (er : ERel K mg r e σ H) (hr : HRel K mg r h H) (ok : OkE K mg W σ r H Q ((f e h).bind k))
    (hk : ∀ d h1 v r1 H1, Step r H r1 H1 → HRel K mg r1 h1 H1 → Rels K mg r1 H1 v d → ERel K mg r1 e σ H1 → OkE K mg W σ r1 H1 Q (k d h1) → Q' v H1) : rdVs K mg W f σ H Q' := by
  refine ⟨r, e, h, er, hr, ?_⟩
  cases hf : f e h with
  | stuck => rw [hf] at ok; exact ok
  | ok d h1 => rw [hf] at ok; exact fun v r1 H1 s q t => hk d h1 v r1 H1 s q t (er.mono s.mn) (OkE.after s ok)
  | exc x h1 => rw [hf] at ok; exact ok
theorem rdVs_bindVs {f : Av} {k : List D → AH → Out (List D)} {Q Q' : List V → Hp → Prop} (er : ERel K mg r e σ H) (hr : HRel K mg r h H) (ok : OkVs K mg W σ r H Q ((f e h).bind k))
    (hk : ∀ d h1 v r1 H1, Step r H r1 H1 → HRel K mg r1 h1 H1 → Rels K mg r1 H1 v d → ERel K mg r1 e σ H1 → OkVs K mg W σ r1 H1 Q (k d h1) → Q' v H1) : rdVs K mg W f σ H Q' := by
  refine ⟨r, e, h, er, hr, ?_⟩
  cases hf : f e h with
  | stuck => rw [hf] at ok; exact ok
  | ok d h1 => rw [hf] at ok; exact fun v r1 H1 s q t => hk d h1 v r1 H1 s q t (er.mono s.mn) (OkVs.after s ok)
  | exc x h1 => rw [hf] at ok; exact ok
end
abbrev DenV (X : Cx) (W : Wx) (e : Expr) (f : Ev) : Prop := PE X e (rdV X.K X.mg W f)
abbrev DenVs (X : Cx) (W : Wx) (es : List Expr) (f : Av) : Prop := PA X es (rdVs X.K X.mg W f)
section
variable {X : Cx} {W : Wx}
theorem den_pv {ex : Expr} {f : Ev} (hf : DenE X W ex f) : DenV X W ex (pv f) := PE.imp hf fun σ H Q ⟨r, e, h, er, hr, ok⟩ => by
  unfold pv at ok
  refine ⟨r, e, h, er, hr, ?_⟩
  cases hf : f e h with
  | stuck => rw [hf] at ok; exact ok
  | exc x h1 => rw [hf] at ok; exact ok
  | ok d h1 =>
    rw [hf] at ok
    intro v r1 H1 s hr1 t
    cases t with
    | @val v d q =>
      have e : promote d h1 = .ok d h1 := by cases q <;> rfl
      rw [Out.bind_ok, e] at ok
      exact ok v r1 H1 s hr1 q
    | @tl p vs xs a b c q =>
      obtain ⟨g1, g2⟩ := push_ok hr1 b c q
      exact ok _ _ _ (Step.push c s a) g1 g2
def evs : List Ev → Av
  | [], _, h => .ok [] h
  | f :: fs, e, h => (f e h).bind fun d h1 => (evs fs e h1).bind fun ds h2 => .ok (d :: ds) h2
def evsV : List Ev → Av
  | [], _, h => .ok [] h
  | f :: fs, e, h => (pv f e h).bind fun d h1 => (evsV fs e h1).bind fun ds h2 => .ok (d :: ds) h2
theorem den_nil : DenA X W [] (evs []) := PA.imp pa_nil fun σ H Q ⟨r, e, h, er, hr, ok⟩ => ok _ r H (Step.refl r H) hr .nil
theorem den_cons {ex : Expr} {es : List Expr} {f : Ev} {fs : List Ev} (hf : DenE X W ex f) (hfs : DenA X W es (evs fs)) (hs : starEach (ex :: es) X.env = (false, eval ex X.env) :: starEach es X.env := by rfl) : DenA X W (ex :: es) (evs (f :: fs)) :=
  PA.imp (pa_cons hf hfs hs) fun σ H Q ⟨r, e, h, er, hr, ok⟩ => by
    unfold evs at ok
    refine rdE_bindA er hr ok fun d h1 v r1 H1 s1 hr1 t1 er1 ok1 => ?_
    refine rdA_bindA er1 hr1 ok1 fun ds h2 vs r2 H2 s2 hr2 t2 er2 ok2 => ?_
    exact ok2 _ r2 H2 (Step.refl _ _) hr2 (.cons (t1.mono s2).u t2)
theorem den_nilV : DenVs X W [] (evsV []) := PA.imp pa_nil fun σ H Q ⟨r, e, h, er, hr, ok⟩ => ok _ r H (Step.refl r H) hr .nil
theorem den_consV {ex : Expr} {es : List Expr} {f : Ev} {fs : List Ev} (hf : DenE X W ex f) (hfs : DenVs X W es (evsV fs)) (hs : starEach (ex :: es) X.env = (false, eval ex X.env) :: starEach es X.env := by rfl) : DenVs X W (ex :: es) (evsV (f :: fs)) :=
  PA.imp (pa_cons (den_pv hf) hfs hs) fun σ H Q ⟨r, e, h, er, hr, ok⟩ => by
    unfold evsV at ok
    refine rdV_bindVs er hr ok fun d h1 v r1 H1 s1 hr1 t1 er1 ok1 => ?_
    refine rdVs_bindVs er1 hr1 ok1 fun ds h2 vs r2 H2 s2 hr2 t2 er2 ok2 => ?_
    exact ok2 _ r2 H2 (Step.refl _ _) hr2 (.cons (t1.mono s2.mn) t2)
def evTup (fs : List Ev) : Ev := fun e h => (evsV fs e h).bind fun ds h1 => if ds.length ≤ 16777216 then .ok (.tup ds) h1 else .stuck
def evLst (fs : List Ev) : Ev := fun e h => (evsV fs e h).bind fun ds h1 => if ds.length ≤ 16777216 then .ok (.tl ds) h1 else .stuck
theorem den_tup {es : List Expr} {fs : List Ev} {k : Nat} {pos : Pos} (h : DenVs X W es (evsV fs)) : DenE X W (.Tuple es k pos) (evTup fs) := PE.imp (pe_tup h) fun σ H Q ⟨r, e, h, er, hr, ok⟩ => by
  unfold evTup at ok
  refine rdVs_bind er hr ok fun ds h1 vs r1 H1 s1 hr1 t1 er1 ok1 => ?_
  split at ok1
  · rename_i hz
    refine ⟨by rw [t1.length]; exact hz, fun p hp => ?_⟩
    have s2 : Step r1 H1 r1 (upd H1 p (.tup vs)) := Step.alloc hp
    exact ok1 _ r1 _ s2 (hr1.alloc hp) (.val (.tup ⟨fun z => hr1.there z hp, upd_same⟩ (t1.mono s2.mn)))
  · exact ok1.elim
theorem den_lst {es : List Expr} {fs : List Ev} {pos : Pos} (h : DenVs X W es (evsV fs)) : DenE X W (.List es pos) (evLst fs) := PE.imp (pe_lst h) fun σ H Q ⟨r, e, h, er, hr, ok⟩ => by
  unfold evLst at ok
  refine rdVs_bind er hr ok fun ds h1 vs r1 H1 s1 hr1 t1 er1 ok1 => ?_
  split at ok1
  · rename_i hz
    refine ⟨by rw [t1.length]; exact hz, fun p hp => ?_⟩
    have s2 : Step r1 H1 r1 (upd H1 p (.lst vs)) := Step.alloc hp
    exact ok1 _ r1 _ s2 (hr1.alloc hp) (.tl (.of hp) upd_same (fun z => hr1.there z hp) (t1.mono s2.mn))
  · exact ok1.elim
end
end BW

set_option Elab.async false
set_option linter.all false
set_option maxRecDepth 100000
set_option maxHeartbeats 4000000
namespace BW
open PySem PySem.Spec PyProof.Rows L2
variable [Tb]
def ofO (o : Option D) (h : AH) : Out D := match o with
  | some d => .ok d h
  | none => .stuck
theorem nrfl {α : Sort u} {a b : α} (h : a = b) : a = b := h
@[simp] theorem ofO_some (d : D) (h : AH) : ofO (some d) h = .ok d h := nrfl rfl
section
variable (K : PySem.W.Frag) (mg : Str → Option Value)
def rdO (g : AH → D → D → Option D) : R2 := fun x y H Q => ∃ r h dx dy d, HRel K mg r h H ∧ RelU K mg r H x dx ∧ RelU K mg r H y dy ∧ g h dx dy = some d ∧ ∀ v H', Step r H r H' → HRel K mg r h H' → RelT K mg H r H' v d → Q v H'
def rdC (g : AH → List D → Option D) : List V → Hp → VK → Prop := fun vs H Q => ∃ r h ds d, HRel K mg r h H ∧ RelTs K mg r H vs ds ∧ g h ds = some d ∧ ∀ v H', Step r H r H' → HRel K mg r h H' → RelT K mg H r H' v d → Q v H'
end
abbrev OpD (X : Cx) (f : Value → Value → Sem Value) (g : AH → D → D → Option D) : Prop := OpR X f (rdO X.K X.mg g)
abbrev CallD (X : Cx) (f : Value) (g : AH → List D → Option D) : Prop := CallR X f (rdC X.K X.mg g)
def evOp (g : AH → D → D → Option D) (fa fb : Ev) : Ev := fun e h => (fa e h).bind fun x h1 => (fb e h1).bind fun y h2 => ofO (g h2 x y) h2
def evB (g : AH → List D → Option D) (fs : List Ev) : Ev := fun e h => (evs fs e h).bind fun ds h1 => ofO (g h1 ds) h1
section
variable {X : Cx} {W : Wx}
theorem rdO_of {K : PySem.W.Frag} {mg : Str → Option Value} {g : AH → D → D → Option D} {fa fb : Ev} {σ : L2.St} {H : Hp} {Q : VK} (q : rdE K mg W (evOp g fa fb) σ H Q) : tOp (rdO K mg g) (rdE K mg W fa) (rdE K mg W fb) σ H Q := by
  obtain ⟨r, e, h, er, hr, ok⟩ := q
  unfold evOp at ok
  refine rdE_bind er hr ok fun x h1 v r1 H1 s1 hr1 t1 er1 ok1 => ?_
  refine rdE_bind er1 hr1 ok1 fun y h2 w r2 H2 s2 hr2 t2 er2 ok2 => ?_
  cases hg : g h2 x y with
  | none => rw [hg] at ok2; exact ok2.elim
  | some d =>
    rw [hg] at ok2
    exact ⟨r2, h2, x, y, d, hr2, (t1.mono s2).u, t2.u, hg, fun v H' s q t => ok2 v r2 H' s q t⟩
theorem den_op {a b : Expr} {op : Operator} {pos : Pos} {g : AH → D → D → Option D} {fa fb : Ev} (ho : OpD X (binaryOp op) g) (ha : DenE X W a fa) (hb : DenE X W b fb) : DenE X W (.BinOp a op b pos) (evOp g fa fb) :=
  PE.imp (pe_op ho ha hb) fun σ H Q q => rdO_of q
theorem den_cmp {a b : Expr} {op : CmpOp} {pos : Pos} {g : AH → D → D → Option D} {fa fb : Ev} (ho : OpD X (compareOp op) g) (ha : DenE X W a fa) (hb : DenE X W b fb) (hm : behindInMarks op b = false := by first | exact nomark _ | rfl) : DenE X W (.Compare a [op] [b] pos) (evOp g fa fb) :=
  PE.imp (pe_cmpR ho ha hb hm) fun σ H Q q => rdO_of q
theorem rdC_of {K : PySem.W.Frag} {mg : Str → Option Value} {g : AH → List D → Option D} {fs : List Ev} {σ : L2.St} {H : Hp} {Q : VK} (q : rdE K mg W (evB g fs) σ H Q) : tCB (rdC K mg g) (rdA K mg W (evs fs)) σ H Q := by
  obtain ⟨r, e, h, er, hr, ok⟩ := q
  unfold evB at ok
  refine rdA_bindE er hr ok fun x h1 v r1 H1 s1 hr1 t1 er1 ok1 => ?_
  cases hg : g h1 x with
  | none => rw [hg] at ok1; exact ok1.elim
  | some d =>
    rw [hg] at ok1
    exact ⟨r1, h1, x, d, hr1, t1, hg, fun v H' s q t => ok1 v r1 H' s q t⟩
theorem den_callB {x : Str} {id : String} {ex : Expr} {es : List Expr} {p pos : Pos} {g : AH → List D → Option D} {fs : List Ev} (hc : CallD X (.builtin id) g) (hg : Gl X x) (hm : X.mg x = none) (hv : bootBuiltins x = some (.builtin id)) (ha : DenA X W (ex :: es) (evs fs))
    (hn : x ≠ "__name__" := by decide) (hdb : (x == ("__debug__" : Str)) = false := by decide) (he : starEach (ex :: es) X.env = (false, eval ex X.env) :: starEach es X.env := by rfl) (hpl : (backTo pos (starEach es X.env)).any (·.1) = false := by rfl) :
    DenE X W (.Call (.Name x p) (ex :: es) [] pos) (evB g fs) :=
  PE.imp (pe_callB hc hg hm hv ha hn hdb he hpl) fun σ H Q q => rdC_of q
theorem den_callTy {x : Str} {T : String} {ex : Expr} {es : List Expr} {p pos : Pos} {g : AH → List D → Option D} {fs : List Ev} (hc : CallD X (.type T) g) (hg : Gl X x) (hm : X.mg x = none) (hv : bootBuiltins x = some (.type T)) (ha : DenA X W (ex :: es) (evs fs))
    (hn : x ≠ "__name__" := by decide) (hdb : (x == ("__debug__" : Str)) = false := by decide) (he : starEach (ex :: es) X.env = (false, eval ex X.env) :: starEach es X.env := by rfl) (hpl : (backTo pos (starEach es X.env)).any (·.1) = false := by rfl) :
    DenE X W (.Call (.Name x p) (ex :: es) [] pos) (evB g fs) :=
  PE.imp (pe_callTy hc hg hm hv ha hn hdb he hpl) fun σ H Q q => rdC_of q
theorem OpR.or {f : Value → Value → Sem Value} {r1 r2 : R2} (a : OpR X f r1) (b : OpR X f r2) : OpR X f (fun x y H Q => r1 x y H Q ∨ r2 x y H Q) := fun pins s σ H x y v u Q I rx ry q => by
  rcases q with q | q
  · exact a pins s σ H x y v u Q I rx ry q
  · exact b pins s σ H x y v u Q I rx ry q
theorem OpR.imp {f : Value → Value → Sem Value} {r1 r2 : R2} (a : OpR X f r1) (q : ∀ x y H Q, r2 x y H Q → r1 x y H Q) : OpR X f r2 := fun pins s σ H x y v u Q I rx ry z => a pins s σ H x y v u Q I rx ry (q x y H Q z)
theorem CallR.imp {f : Value} {r1 r2 : List V → Hp → VK → Prop} (a : CallR X f r1) (q : ∀ x H Q, r2 x H Q → r1 x H Q) : CallR X f r2 := fun pins s σ H xs us Q I rx z => a pins s σ H xs us Q I rx (q xs H Q z)
theorem RelU.tup_inv {K : PySem.W.Frag} {mg : Str → Option Value} {r : List Addr} {H : Hp} {v : V} {xs : List D} (q : RelU K mg r H v (.tup xs)) : ∃ a vs, v = .ref a ∧ SqTr K H r a vs ∧ Rels K mg r H vs xs := by
  cases q with
  | val q => cases q with
    | tup h1 h2 => exact ⟨_, _, rfl, h1, h2⟩
def lstOf (h : AH) : D → Option (List D)
  | .tl xs => some xs
  | .ref n => match h[n]? with
    | some (.lst xs) => some xs
    | _ => none
  | _ => none
def lstOfR (h : AH) : D → Option (List D)
  | .tl xs => some xs
  | .rl xs => some xs
  | .ref n => match h[n]? with
    | some (.lst xs) => some xs
    | _ => none
  | _ => none
theorem lstOf_inv {K : PySem.W.Frag} {mg : Str → Option Value} {r : List Addr} {h : AH} {H : Hp} {v : V} {d : D} {xs : List D} (hr : HRel K mg r h H) (q : RelU K mg r H v d) (e : lstOf h d = some xs) : ∃ a vs, v = .ref a ∧ H a = some (.lst vs) ∧ Rels K mg r H vs xs := by
  cases q with
  | tl a b c q => cases e; exact ⟨_, _, rfl, b, q⟩
  | val q => cases q with
    | @ref n a hn =>
      simp only [lstOf] at e
      · split at e
        · rename_i ys hy
          cases e
          obtain ⟨vs, h1, h2⟩ := hr.obj _ _ _ hy hn
          exact ⟨_, vs, rfl, h1, h2⟩
        · cases e
    | _ => cases e
theorem lstOfR_inv {K : PySem.W.Frag} {mg : Str → Option Value} {r : List Addr} {h : AH} {H : Hp} {v : V} {d : D} {xs : List D} (hr : HRel K mg r h H) (q : RelU K mg r H v d) (e : lstOfR h d = some xs) : ∃ a vs, v = .ref a ∧ SqL K H a vs ∧ Rels K mg r H vs xs := by
  cases q with
  | tl a b c q => cases e; exact ⟨_, _, rfl, .inl (.inl b), q⟩
  | val q => cases q with
    | @ref n a hn =>
      simp only [lstOfR] at e
      · split at e
        · rename_i ys hy
          cases e
          obtain ⟨vs, h1, h2⟩ := hr.obj _ _ _ hy hn
          exact ⟨_, vs, rfl, .inl (.inl h1), h2⟩
        · cases e
    | rl h1 h2 => cases e; exact ⟨_, _, rfl, h1.sq, h2⟩
    | _ => cases e
theorem newT {K : PySem.W.Frag} {mg : Str → Option Value} {r : List Addr} {h : AH} {H : Hp} {p : Addr} {vs : List V} {xs : List D} {Q : VK} (hr : HRel K mg r h H) (hp : H p = none) (q : Rels K mg r H vs xs)
    (k : ∀ v H', Step r H r H' → HRel K mg r h H' → RelT K mg H r H' v (.tup xs) → Q v H') : Q (.ref p) (upd H p (.tup vs)) := by
  have s : Step r H r (upd H p (.tup vs)) := Step.alloc hp
  exact k _ _ s (hr.alloc hp) (.val (.tup ⟨fun z => hr.there z hp, upd_same⟩ (q.mono s.mn)))
theorem newL {K : PySem.W.Frag} {mg : Str → Option Value} {r : List Addr} {h : AH} {H : Hp} {p : Addr} {vs : List V} {xs : List D} {Q : VK} (hr : HRel K mg r h H) (hp : H p = none) (q : Rels K mg r H vs xs)
    (k : ∀ v H', Step r H r H' → HRel K mg r h H' → RelT K mg H r H' v (.tl xs) → Q v H') : Q (.ref p) (upd H p (.lst vs)) := by
  have s : Step r H r (upd H p (.lst vs)) := Step.alloc hp
  exact k _ _ s (hr.alloc hp) (.tl (.of hp) upd_same (fun z => hr.there z hp) (q.mono s.mn))
def opAdd (h : AH) : D → D → Option D
  | .int a, .int b => some (.int (a + b))
  | .str a, .str b => if a.length + b.length ≤ sizeLine then some (.str (a ++ b)) else none
  | .tup a, .tup b => if a.length + b.length ≤ sizeLine then some (.tup (a ++ b)) else none
  | a, b => match lstOf h a, lstOf h b with
    | some xs, some ys => if xs.length + ys.length ≤ sizeLine then some (.tl (xs ++ ys)) else none
    | _, _ => none
def opSub (_ : AH) : D → D → Option D
  | .int a, .int b => some (.int (a - b))
  | _, _ => none
def smallI (i : Int) : Bool := decide (-(2 ^ 64) < i) && decide (i < 2 ^ 64)
def opMul (h : AH) : D → D → Option D
  | .int a, .int b => if smallI a || smallI b then some (.int (a * b)) else none
  | .tup xs, .int k => if k = 1 then some (.tup xs) else if xs ≠ [] ∧ 2 ≤ k ∧ k ≤ 1000 ∧ xs.length ≤ 1000 then some (.tup (List.replicate k.toNat xs).flatten) else none
  | a, .int k => match lstOf h a with
    | some xs => if -(2 ^ 63) ≤ k ∧ k < 2 ^ 63 ∧ xs.length * k.toNat ≤ sizeLine then some (.tl (List.replicate k.toNat xs).flatten) else none
    | none => none
  | _, _ => none
def opMod (_ : AH) : D → D → Option D
  | .int a, .int b => if 0 < b then some (.int (a % b)) else none
  | _, _ => none
def opFdiv (_ : AH) : D → D → Option D
  | .int a, .int b => if 0 < b ∧ b.natAbs.log2 < 9000 then some (.int (a / b)) else none
  | _, _ => none
def opPow (_ : AH) : D → D → Option D
  | .int a, .int b => if 0 ≤ b ∧ b ≤ 1000 ∧ a.natAbs < 2 ^ 1000 then some (.int (a ^ b.toNat)) else none
  | _, _ => none
theorem RelU.int_inv {K : PySem.W.Frag} {mg : Str → Option Value} {r : List Addr} {H : Hp} {v : V} {i : Int} (q : RelU K mg r H v (.int i)) : v = .int i := by
  cases q with
  | val q => cases q; rfl
theorem RelU.str_inv {K : PySem.W.Frag} {mg : Str → Option Value} {r : List Addr} {H : Hp} {v : V} {i : Str} (q : RelU K mg r H v (.str i)) : v = .str i := by
  cases q with
  | val q => cases q; rfl
theorem RelU.bl_inv {K : PySem.W.Frag} {mg : Str → Option Value} {r : List Addr} {H : Hp} {v : V} {i : Bool} (q : RelU K mg r H v (.bl i)) : v = .bl i := by
  cases q with
  | val q => cases q; rfl
theorem opd_sub : OpD X (binaryOp .Sub) opSub := OpR.imp op_sub fun x y H Q ⟨r, h, dx, dy, d, hr, tx, ty, hg, q⟩ => by
  unfold opSub at hg
  split at hg
  · cases hg; exact ⟨_, _, tx.int_inv, ty.int_inv, q _ H (Step.refl r H) hr (.val (.int _))⟩
  · cases hg
theorem opd_mod : OpD X (binaryOp .Mod) opMod := OpR.imp op_mod fun x y H Q ⟨r, h, dx, dy, d, hr, tx, ty, hg, q⟩ => by
  unfold opMod at hg
  split at hg
  · split at hg
    · cases hg; exact ⟨_, _, tx.int_inv, ty.int_inv, by assumption, q _ H (Step.refl r H) hr (.val (.int _))⟩
    · cases hg
  · cases hg
theorem opd_fdiv : OpD X (binaryOp .FloorDiv) opFdiv := OpR.imp op_fdivW fun x y H Q ⟨r, h, dx, dy, d, hr, tx, ty, hg, q⟩ => by
  unfold opFdiv at hg
  split at hg
  · split at hg
    · cases hg; exact ⟨_, _, tx.int_inv, ty.int_inv, by assumption, q _ H (Step.refl r H) hr (.val (.int _))⟩
    · cases hg
  · cases hg
def CPowW (i j : Int) : Prop := 0 ≤ j ∧ j ≤ 1000 ∧ i.natAbs < 2 ^ 1000
theorem op_powW : OpR X (binaryOp .Pow) (rI CPowW fun i j => .int (i ^ j.toNat)) := opI fun i j _ _ _ _ _ hc q => pow_int hc.1 (by
  have hb : Builtin.Int.intBits i ≤ 1000 := intBits_le hc.2.2
  have h0 : (0 : Int) ≤ j := hc.1
  have hj : j ≤ 1000 := hc.2.1
  have h1 : (Builtin.Int.intBits i : Int) * j ≤ 1000 * j := Int.mul_le_mul_of_nonneg_right (by omega) h0
  omega) q
theorem opd_pow : OpD X (binaryOp .Pow) opPow := OpR.imp op_powW fun x y H Q ⟨r, h, dx, dy, d, hr, tx, ty, hg, q⟩ => by
  unfold opPow at hg
  split at hg
  · split at hg
    · cases hg; exact ⟨_, _, tx.int_inv, ty.int_inv, by assumption, q _ H (Step.refl r H) hr (.val (.int _))⟩
    · cases hg
  · cases hg
theorem Rels.flat {K : PySem.W.Frag} {mg : Str → Option Value} {r : List Addr} {H : Hp} {vs : List V} {xs : List D} (q : Rels K mg r H vs xs) : ∀ n : Nat, Rels K mg r H (List.replicate n vs).flatten (List.replicate n xs).flatten
  | 0 => .nil
  | n + 1 => by
    rw [List.replicate_succ, List.replicate_succ, List.flatten_cons, List.flatten_cons]
    exact q.append (Rels.flat q n)
theorem Rels.nil_iff {K : PySem.W.Frag} {mg : Str → Option Value} {r : List Addr} {H : Hp} {vs : List V} {xs : List D} (q : Rels K mg r H vs xs) : vs = [] ↔ xs = [] := by
  cases q <;> simp
theorem opd_add : OpD X (binaryOp .Add) opAdd := OpR.imp (OpR.or (OpR.or op_add op_add_str) (OpR.or op_catA op_cat)) fun x y H Q ⟨r, h, dx, dy, d, hr, tx, ty, hg, q⟩ => by
  unfold opAdd at hg
  split at hg
  · cases hg; exact .inl (.inl ⟨_, _, tx.int_inv, ty.int_inv, q _ H (Step.refl r H) hr (.val (.int _))⟩)
  · split at hg
    · cases hg; exact .inl (.inr ⟨_, _, tx.str_inv, ty.str_inv, by assumption, q _ H (Step.refl r H) hr (.val (.str _))⟩)
    · cases hg
  · split at hg
    · rename_i hz
      cases hg
      obtain ⟨a, vs, rfl, h1, h2⟩ := tx.tup_inv
      obtain ⟨b, ws, rfl, h3, h4⟩ := ty.tup_inv
      refine .inr (.inl ⟨a, b, vs, ws, rfl, rfl, h1.sq, h3.sq, by rw [h2.length, h4.length]; exact hz, fun z => ?_, fun z1 z2 => ?_, fun z1 z2 p hp => ?_⟩)
      · rw [h2.nil_iff.mp z] at q
        exact q _ H (Step.refl r H) hr (.val (.tup h3 h4))
      · rw [h4.nil_iff.mp z2, List.append_nil] at q
        exact q _ H (Step.refl r H) hr (.val (.tup h1 h2))
      · exact newT hr hp (h2.append h4) q
    · cases hg
  · split at hg
    · rename_i xs ys ex ey
      split at hg
      · rename_i hz
        cases hg
        obtain ⟨a, vs, rfl, h1, h2⟩ := lstOf_inv hr tx ex
        obtain ⟨b, ws, rfl, h3, h4⟩ := lstOf_inv hr ty ey
        refine .inr (.inr ⟨a, b, vs, ws, rfl, rfl, h1, h3, by rw [h2.length, h4.length]; exact hz, fun p hp => ?_⟩)
        exact newL hr hp (h2.append h4) q
      · cases hg
    · cases hg
theorem smallI_ok {i : Int} (h : smallI i = true) : -(2 ^ 64) < i ∧ i < 2 ^ 64 := by
  unfold smallI at h
  simpa [Bool.and_eq_true, decide_eq_true_eq] using h
theorem tuple_mul1 (l : Addr) (items : Array Value) (n : Nat) (dd : Option Addr) (sl : Array (Option Value)) (u : Tok) :
    Meets (Builtin.«tuple.__mul__» ⟨[.ref l, .int 1 u], []⟩) (fun _ R s => s.heap.get? l = some { cls := .type "tuple", dict := dd, data := .seq items n, slots := sl } ∧ R (.ok (.ret (Value.ref l))) s) :=
  .of_wp fun prog w A R s h => by
    obtain ⟨hp, g, d, tk, os⟩ := s
    obtain ⟨hl, h⟩ := h
    have f1 := AutoSeq1.idx_int
    have c1 : (items.isEmpty || (1 : Int) == 1) = true := by simp
    wp_walk using wpAny_loadPart' hl
    repeat (first | (refine wpAny_ite_true (decide_eq_true c1) ?_; wp_walk using wpAny_loadPart' hl) | (refine wpAny_ite_false (decide_eq_false (by decide)) ?_; wp_walk using wpAny_loadPart' hl))
    wp_walk using wpAny_loadPart' hl
    exact ⟨_, rfl, h⟩
theorem op_rep1 : OpR X (binaryOp .Mult) (fun x y H Q => ∃ l xs, x = .ref l ∧ y = .int 1 ∧ SqT X.K H l xs ∧ Q (.ref l) H) := by
  intro pins s σ H x y v u Q I rx ry h
  obtain ⟨l, xs, rfl, rfl, hT, q⟩ := h
  cases rx
  obtain ⟨t, rfl⟩ := ry
  obtain ⟨its, r, ⟨⟨cls, dd, data, sl⟩, ho, hc, n, hd⟩, hs⟩ := I.tuple hT
  simp only at hc hd
  subst hc hd
  refine wpAny_binaryOp_repeat_ref (T := "tuple") (U := "int") (by decide) ⟨_, ho, rfl⟩ (fun s' => typeIs_int s' 1 t) noFill_tuple_mul F.fills_int_mul F.slot_int_rmul repeat_tuple F.slot_int_index.lookup
    (call_meets F.slot_int_rmul (typeIs_int s 1 t) F.entry_int_rmul (F.args_int_rmul_2 _ _) (int_rmul_tuple 1 t l its.toArray n dd sl)
      ⟨ho, rfl, ⟨_, ho, rfl⟩, call_meets F.slot_tuple_mul ⟨_, ho, rfl⟩ F.entry_tuple_mul (F.args_tuple_mul_2 _ _) (tuple_mul1 l its.toArray n dd sl t) ⟨ho, ?_⟩⟩)
  exact ⟨.ref l, H, I, rfl, q⟩
theorem opd_mul : OpD X (binaryOp .Mult) opMul := OpR.imp (OpR.or op_mul (OpR.or op_rep1 (OpR.or op_repT op_rep))) fun x y H Q ⟨r, h, dx, dy, d, hr, tx, ty, hg, q⟩ => by
  unfold opMul at hg
  split at hg
  · split at hg
    · rename_i hc
      cases hg
      refine .inl ⟨_, _, tx.int_inv, ty.int_inv, ?_, q _ H (Step.refl r H) hr (.val (.int _))⟩
      rcases Bool.or_eq_true_iff.mp hc with z | z
      · exact .inl (smallI_ok z)
      · exact .inr (smallI_ok z)
    · cases hg
  · split at hg
    · rename_i hc
      cases hg
      subst hc
      obtain ⟨a, vs, rfl, h1, h2⟩ := tx.tup_inv
      exact .inr (.inl ⟨a, vs, rfl, ty.int_inv, h1.sq, q _ H (Step.refl r H) hr (.val (.tup h1 h2))⟩)
    · split at hg
      · rename_i hc
        cases hg
        obtain ⟨a, vs, rfl, h1, h2⟩ := tx.tup_inv
        refine .inr (.inr (.inl ⟨a, _, vs, rfl, ty.int_inv, h1.sq, fun z => hc.1 (h2.nil_iff.mp z), hc.2.1, hc.2.2.1, by rw [h2.length]; exact hc.2.2.2, fun p hp => ?_⟩))
        exact newT hr hp (h2.flat _) q
      · cases hg
  · split at hg
    · rename_i xs ex
      split at hg
      · rename_i hc
        cases hg
        obtain ⟨a, vs, rfl, h1, h2⟩ := lstOf_inv hr tx ex
        refine .inr (.inr (.inr ⟨a, _, vs, rfl, ty.int_inv, h1, hc.1, hc.2.1, by rw [h2.length]; exact hc.2.2, fun p hp => ?_⟩))
        exact newL hr hp (h2.flat _) q
      · cases hg
    · cases hg
  · cases hg
end
end BW

set_option Elab.async false
set_option linter.all false
set_option maxRecDepth 100000
set_option maxHeartbeats 4000000
namespace BW
open PySem PySem.Spec PyProof.Rows L2
variable [Tb]
def allK {α β : Type} (f : α → Option β) : List α → Option (List β)
  | [] => some []
  | x :: xs => match f x, allK f xs with
    | some y, some ys => some (y :: ys)
    | _, _ => none
def dataK (h : AH) : Nat → D → Option PyData
  | _, .non => some .none
  | _, .bl b => some (.bool b)
  | _, .int i => some (.int i)
  | _, .str x => if PyData.strOk x = true then some (.str x) else none
  | n + 1, .tup xs => (allK (dataK h n) xs).map .tuple
  | n + 1, .tl xs => (allK (dataK h n) xs).map .list
  | n + 1, .rl xs => (allK (dataK h n) xs).map .list
  | n + 1, .ref k => match h[k]? with
    | some (.lst xs) => (allK (dataK h n) xs).map .list
    | _ => none
  | _, _ => none
theorem allK_shape {f : D → Option PyData} {P : PyData → Prop} (hf : ∀ x y, f x = some y → P y) : ∀ {xs : List D} {ys : List PyData}, allK f xs = some ys → ∀ y ∈ ys, P y
  | [], _, e, y, hy => by cases e; cases hy
  | x :: xs, _, e, y, hy => by
    unfold allK at e
    split at e
    · rename_i a as h1 h2
      cases e
      rcases List.mem_cons.mp hy with rfl | hy
      · exact hf _ _ h1
      · exact allK_shape hf h2 y hy
    · cases e
theorem canAll : ∀ {ys : List PyData}, (∀ y ∈ ys, PyData.canLay0 y = true) → PyData.canLayAll0 ys = true
  | [], _ => by simp [PyData.canLayAll0]
  | y :: ys, h => by simp [PyData.canLayAll0, h y List.mem_cons_self, canAll fun z hz => h z (List.mem_cons_of_mem _ hz)]
theorem depthAll_le {n : Nat} : ∀ {ys : List PyData}, (∀ y ∈ ys, y.depth ≤ n) → PyData.depthAll ys ≤ n
  | [], _ => by simp [PyData.depthAll]
  | y :: ys, h => by
    have h1 := h y List.mem_cons_self
    have h2 := depthAll_le fun z hz => h z (List.mem_cons_of_mem _ hz)
    simp [PyData.depthAll]; omega
theorem dataK_shape (h : AH) : ∀ (n : Nat) (d : D) (p : PyData), dataK h n d = some p → PyData.canLay0 p = true ∧ p.depth ≤ n := by
  intro n
  induction n with
  | zero =>
    intro d p e
    cases d <;> simp only [dataK] at e <;> first | (cases e; done) | (cases e; simp [PyData.canLay0, PyData.depth]; done) | skip
    split at e
    · cases e; rename_i hs; exact ⟨by simp [PyData.canLay0, hs], by simp [PyData.depth]⟩
    · cases e
  | succ n ih =>
    have list_ok : ∀ {xs : List D} {ys : List PyData}, allK (dataK h n) xs = some ys → PyData.canLayAll0 ys = true ∧ PyData.depthAll ys ≤ n := fun e =>
      ⟨canAll (allK_shape (fun x y z => (ih x y z).1) e), depthAll_le (allK_shape (fun x y z => (ih x y z).2) e)⟩
    intro d p e
    cases d with
    | str x =>
      simp only [dataK] at e
      split at e
      · cases e; rename_i hs; exact ⟨by simp [PyData.canLay0, hs], by simp [PyData.depth]⟩
      · cases e
    | tup xs =>
      simp only [dataK, Option.map_eq_some_iff] at e
      obtain ⟨ys, e1, rfl⟩ := e
      have := list_ok e1
      exact ⟨by simp [PyData.canLay0, this.1], by simp [PyData.depth]; omega⟩
    | tl xs =>
      simp only [dataK, Option.map_eq_some_iff] at e
      obtain ⟨ys, e1, rfl⟩ := e
      have := list_ok e1
      exact ⟨by simp [PyData.canLay0, this.1], by simp [PyData.depth]; omega⟩
    | ref k =>
      simp only [dataK] at e
      split at e
      · simp only [Option.map_eq_some_iff] at e
        obtain ⟨ys, e1, rfl⟩ := e
        have := list_ok e1
        exact ⟨by simp [PyData.canLay0, this.1], by simp [PyData.depth]; omega⟩
      · cases e
    | rl xs =>
      simp only [dataK, Option.map_eq_some_iff] at e
      obtain ⟨ys, e1, rfl⟩ := e
      have := list_ok e1
      exact ⟨by simp [PyData.canLay0, this.1], by simp [PyData.depth]; omega⟩
    | exc c xs => cases e
    | kt xs => cases e
    | _ => simp only [dataK] at e; cases e; simp [PyData.canLay0, PyData.depth]
section
variable {K : PySem.W.Frag} {mg : Str → Option Value} {r : List Addr} {h : AH} {H : Hp}
theorem dp_all {n : Nat} (ih : ∀ (d : D) (p : PyData) (v : V), dataK h n d = some p → Rel K mg r H v d → Dp K H v p) : ∀ {vs : List V} {xs : List D} {ps : List PyData}, Rels K mg r H vs xs → allK (dataK h n) xs = some ps → DpAll K H vs ps
  | _, _, _, .nil, e => by cases e; exact .nil
  | _, _, _, .cons q t, e => by
    unfold allK at e
    split at e
    · rename_i a as h1 h2
      cases e
      exact .cons (ih _ _ _ h1 q) (dp_all ih t h2)
    · cases e
theorem dp_of (hr : HRel K mg r h H) : ∀ (n : Nat) (d : D) (p : PyData) (v : V), dataK h n d = some p → Rel K mg r H v d → Dp K H v p := by
  intro n
  induction n with
  | zero =>
    intro d p v e q
    cases q with
    | non => cases e; exact .non
    | bl b => cases e; exact .bl b
    | int i => cases e; exact .int i
    | str x => simp only [dataK] at e; split at e <;> cases e; exact .str x
    | _ => cases e
  | succ n ih =>
    intro d p v e q
    cases q with
    | non => cases e; exact .non
    | bl b => cases e; exact .bl b
    | int i => cases e; exact .int i
    | str x => simp only [dataK] at e; split at e <;> cases e; exact .str x
    | tup h1 h2 =>
      simp only [dataK, Option.map_eq_some_iff] at e
      obtain ⟨ys, e1, rfl⟩ := e
      exact .tup h1.sq (dp_all ih h2 e1)
    | ref hn =>
      simp only [dataK] at e
      split at e
      · rename_i xs hx
        simp only [Option.map_eq_some_iff] at e
        obtain ⟨ys, e1, rfl⟩ := e
        obtain ⟨vs, z1, z2⟩ := hr.obj _ _ _ hx hn
        exact .lst (.inl (.inl z1)) (dp_all ih z2 e1)
      · cases e
    | rl h1 h2 =>
      simp only [dataK, Option.map_eq_some_iff] at e
      obtain ⟨ys, e1, rfl⟩ := e
      exact .lst h1.sq (dp_all ih h2 e1)
    | _ => cases e
theorem dp_ofU (hr : HRel K mg r h H) {n : Nat} {d : D} {p : PyData} {v : V} (e : dataK h n d = some p) (q : RelU K mg r H v d) : Dp K H v p := by
  cases q with
  | val q => exact dp_of hr n d p v e q
  | tl a b c q =>
    cases n with
    | zero => cases e
    | succ n =>
      simp only [dataK, Option.map_eq_some_iff] at e
      obtain ⟨ys, e1, rfl⟩ := e
      exact .lst (.inl (.inl b)) (dp_all (fun d p v => dp_of hr n d p v) q e1)
end
theorem shaped_of {h : AH} {n : Nat} {d : D} {p : PyData} (hn : n ≤ 64) (e : dataK h n d = some p) : SeqAt.shaped p = true := by
  obtain ⟨h1, h2⟩ := dataK_shape h n d p e
  unfold SeqAt.shaped
  simp only [Bool.and_eq_true, decide_eq_true_eq]
  exact ⟨h1, by omega⟩
def eqD (h : AH) (x y : D) : Option Bool := match dataK h 9 x, dataK h 9 y with
  | some a, some b => some (PyData.eqv a b)
  | _, _ => none
def opEq (h : AH) (x y : D) : Option D := (eqD h x y).map .bl
def opNe (h : AH) (x y : D) : Option D := (eqD h x y).map fun b => .bl (!b)
def cmpI (p : Int → Int → Bool) (_ : AH) : D → D → Option D
  | .int a, .int b => some (.bl (p a b))
  | _, _ => none
def opLt := cmpI fun a b => decide (a < b)
def opLe := cmpI fun a b => decide (a ≤ b)
def opGt := cmpI fun a b => decide (b < a)
def opGe := cmpI fun a b => decide (b ≤ a)
def flatD : D → Option V
  | .non => some .non
  | .bl b => some (.bl b)
  | .int i => some (.int i)
  | .str x => some (.str x)
  | _ => none
def seqOf (h : AH) : D → Option (List D)
  | .tup xs => some xs
  | d => lstOfR h d
section
variable {X : Cx} {W : Wx}
theorem opd_eq (hu : X.A.units + 64 < cLine) : OpD X (compareOp .Eq) opEq := OpR.imp (op_eqD hu) fun x y H Q ⟨r, h, dx, dy, d, hr, tx, ty, hg, q⟩ => by
  unfold opEq eqD at hg
  split at hg
  · rename_i a b ha hb
    cases hg
    exact ⟨a, b, dp_ofU hr ha tx, dp_ofU hr hb ty, shaped_of (by decide) ha, shaped_of (by decide) hb, q _ H (Step.refl r H) hr (.val (.bl _))⟩
  · cases hg
theorem opd_ne (hu : X.A.units + 64 < cLine) : OpD X (compareOp .NotEq) opNe := OpR.imp (op_neD hu) fun x y H Q ⟨r, h, dx, dy, d, hr, tx, ty, hg, q⟩ => by
  unfold opNe eqD at hg
  split at hg
  · rename_i a b ha hb
    cases hg
    exact ⟨a, b, dp_ofU hr ha tx, dp_ofU hr hb ty, shaped_of (by decide) ha, shaped_of (by decide) hb, q _ H (Step.refl r H) hr (.val (.bl _))⟩
  · cases hg
theorem opd_cmpI {op : CmpOp} {p : Int → Int → Bool} (ho : OpR X (compareOp op) (rI0 fun i j => .bl (p i j))) : OpD X (compareOp op) (cmpI p) := OpR.imp ho fun x y H Q ⟨r, h, dx, dy, d, hr, tx, ty, hg, q⟩ => by
  unfold cmpI at hg
  split at hg
  · cases hg; exact ⟨_, _, tx.int_inv, ty.int_inv, q _ H (Step.refl r H) hr (.val (.bl _))⟩
  · cases hg
theorem opd_lt : OpD X (compareOp .Lt) opLt := opd_cmpI op_lt
theorem opd_le : OpD X (compareOp .LtE) opLe := opd_cmpI op_le
theorem opd_gt : OpD X (compareOp .Gt) opGt := opd_cmpI op_gt
theorem opd_ge : OpD X (compareOp .GtE) opGe := opd_cmpI op_ge
theorem flat_rel {K : PySem.W.Frag} {mg : Str → Option Value} {r : List Addr} {H : Hp} {v w : V} {d : D} (e : flatD d = some w) (q : RelU K mg r H v d) : v = w ∧ flatV w = true := by
  cases q with
  | val q => cases q <;> cases e <;> exact ⟨rfl, rfl⟩
  | tl => cases e
theorem seqOf_inv {K : PySem.W.Frag} {mg : Str → Option Value} {r : List Addr} {h : AH} {H : Hp} {v : V} {d : D} {xs : List D} (hr : HRel K mg r h H) (q : RelU K mg r H v d) (e : seqOf h d = some xs) : ∃ a vs, v = .ref a ∧ (SqL K H a vs ∨ SqT K H a vs) ∧ Rels K mg r H vs xs := by
  unfold seqOf at e
  split at e
  · cases e
    obtain ⟨a, vs, e1, e2, e3⟩ := q.tup_inv
    exact ⟨a, vs, e1, .inr e2.sq, e3⟩
  · obtain ⟨a, vs, e1, e2, e3⟩ := lstOfR_inv hr q e
    exact ⟨a, vs, e1, .inl e2, e3⟩
def evChain (g g' : AH → D → D → Option D) (fa fb fc : Ev) : Ev := fun e h => (fa e h).bind fun x h1 => (fb e h1).bind fun y h2 => match g h2 x y with
  | some (.bl true) => (fc e h2).bind fun z h3 => ofO (g' h3 y z) h3
  | some (.bl false) => .ok (.bl false) h2
  | _ => .stuck
theorem rd_chain {K : PySem.W.Frag} {mg : Str → Option Value} {g g' : AH → D → D → Option D} {fa fb fc : Ev} {σ : L2.St} {H : Hp} {Q : VK} (q : rdE K mg W (evChain g g' fa fb fc) σ H Q) : tChain (rdO K mg g) (rdO K mg g') (rdE K mg W fa) (rdE K mg W fb) (rdE K mg W fc) σ H Q := by
  obtain ⟨r, e, h, er, hr, ok⟩ := q
  unfold evChain at ok
  refine rdE_bind er hr ok fun x h1 v r1 H1 s1 hr1 t1 er1 ok1 => ?_
  refine rdE_bind er1 hr1 ok1 fun y h2 w r2 H2 s2 hr2 t2 er2 ok2 => ?_
  split at ok2
  · rename_i hg
    refine ⟨r2, h2, x, y, _, hr2, (t1.mono s2).u, t2.u, hg, fun v3 H3 s3 hr3 t3 => ⟨true, t3.u.bl_inv, ?_⟩⟩
    rw [if_pos rfl]
    refine rdE_bind (er2.mono s3.mn) hr3 (OkE.after s3 ok2) fun z h4 v4 r4 H4 s4 hr4 t4 er4 ok4 => ?_
    cases hg' : g' h4 y z with
    | none => rw [hg'] at ok4; exact ok4.elim
    | some d =>
      rw [hg'] at ok4
      exact ⟨r4, h4, y, z, d, hr4, ((t2.mono s3).mono s4).u, t4.u, hg', fun v H' s q t => ok4 v r4 H' s q t⟩
  · rename_i hg
    refine ⟨r2, h2, x, y, _, hr2, (t1.mono s2).u, t2.u, hg, fun v3 H3 s3 hr3 t3 => ⟨false, t3.u.bl_inv, ?_⟩⟩
    rw [if_neg Bool.false_ne_true]
    exact ok2 _ r2 H3 s3 hr3 (.val (.bl _))
  · exact ok2.elim
theorem den_chain {a b c : Expr} {op op' : CmpOp} {pos : Pos} {g g' : AH → D → D → Option D} {fa fb fc : Ev} (ho : OpD X (compareOp op) g) (ho' : OpD X (compareOp op') g') (ha : DenE X W a fa) (hb : DenE X W b fb) (hc : DenE X W c fc)
    (hm : lastMarks [op, op'] [b, c] = false := by with_unfolding_all rfl) : DenE X W (.Compare a [op, op'] [b, c] pos) (evChain g g' fa fb fc) :=
  PE.imp (pe_chain ho ho' ha hb hc hm) fun σ H Q q => rd_chain q
def tvOf (f : Ev) : Tv := fun e h => (f e h).bind fun d h1 => match d with
  | .bl b => .ok b h1
  | _ => .stuck
theorem rdT_of {K : PySem.W.Frag} {mg : Str → Option Value} {f : Ev} {σ : L2.St} {H : Hp} {Q : Bool → Hp → Prop} (q : rdT K mg W (tvOf f) σ H Q) : tB (rdE K mg W f) σ H Q := by
  obtain ⟨r, e, h, er, hr, ok⟩ := q
  unfold tvOf at ok
  refine rdE_bindT er hr ok fun d h1 v r1 H1 s1 hr1 t1 er1 ok1 => ?_
  cases d with
  | bl b => exact ⟨b, t1.u.bl_inv, ok1 r1 H1 (Step.refl _ _) hr1⟩
  | _ => exact ok1.elim
theorem den_tval {ex : Expr} {f : Ev} (hf : DenE X W ex f) (he : ∀ whole, isTrue ex X.env whole = (do let v ← whole; standAt ex.pos; holding [v] (truthy v)) := by intro _; rfl) : DenT X W ex (tvOf f) :=
  PT.imp (pt_val hf he) fun σ H Q q => rdT_of q
theorem den_tcmp {a b : Expr} {op : CmpOp} {pos : Pos} {g : AH → D → D → Option D} {fa fb : Ev} (ho : OpD X (compareOp op) g) (ha : DenE X W a fa) (hb : DenE X W b fb) (hm : behindInMarks op b = false := by first | exact nomark _ | rfl) : DenT X W (.Compare a [op] [b] pos) (tvOf (evOp g fa fb)) :=
  PT.imp (pt_cmpR ho ha hb hm) fun σ H Q q => by
    have q2 : tB (rdE X.K X.mg W (evOp g fa fb)) σ H Q := rdT_of q
    exact rdO_of q2
def tvAnd (t u : Tv) : Tv := fun e h => (t e h).bind fun b h1 => if b then u e h1 else .ok false h1
def tvOr (t u : Tv) : Tv := fun e h => (t e h).bind fun b h1 => if b then .ok true h1 else u e h1
def tvNot (t : Tv) : Tv := fun e h => (t e h).bind fun b h1 => .ok (!b) h1
abbrev DenW (X : Cx) (W : Wx) (e : Expr) (f : Tv) : Prop := PW X e (rdT X.K X.mg W f)
theorem den_and1 {a : Expr} {pos : Pos} {t : Tv} (ha : DenT X W a t) : DenW X W (.BoolOp .And [a] pos) t := pw_and1 ha
theorem den_or1 {a : Expr} {pos : Pos} {t : Tv} (ha : DenT X W a t) : DenW X W (.BoolOp .Or [a] pos) t := pw_or1 ha
theorem den_and {a b : Expr} {rest : List Expr} {pos : Pos} {t u : Tv} (ha : DenT X W a t) (hb : DenW X W (.BoolOp .And (b :: rest) pos) u) : DenW X W (.BoolOp .And (a :: b :: rest) pos) (tvAnd t u) :=
  PW.imp (pw_and ha hb) fun σ H Q ⟨r, e, h, er, hr, ok⟩ => by
    unfold tvAnd at ok
    refine rdT_bindT er hr ok fun d h1 r1 H1 s1 hr1 er1 ok1 => ?_
    cases d with
    | true => rw [if_pos rfl]; exact ⟨r1, e, h1, er1, hr1, ok1⟩
    | false => rw [if_neg Bool.false_ne_true]; exact ok1 r1 H1 (Step.refl _ _) hr1
theorem den_or {a b : Expr} {rest : List Expr} {pos : Pos} {t u : Tv} (ha : DenT X W a t) (hb : DenW X W (.BoolOp .Or (b :: rest) pos) u) : DenW X W (.BoolOp .Or (a :: b :: rest) pos) (tvOr t u) :=
  PW.imp (pw_or ha hb) fun σ H Q ⟨r, e, h, er, hr, ok⟩ => by
    unfold tvOr at ok
    refine rdT_bindT er hr ok fun d h1 r1 H1 s1 hr1 er1 ok1 => ?_
    cases d with
    | false => rw [if_neg Bool.false_ne_true]; exact ⟨r1, e, h1, er1, hr1, ok1⟩
    | true => rw [if_pos rfl]; exact ok1 r1 H1 (Step.refl _ _) hr1
theorem den_tnot {a : Expr} {pos : Pos} {t : Tv} (ha : DenT X W a t) : DenT X W (.UnaryOp .Not a pos) (tvNot t) := PT.imp (pt_not ha) fun σ H Q ⟨r, e, h, er, hr, ok⟩ => by
  unfold tvNot at ok
  exact rdT_bindT er hr ok fun d h1 r1 H1 s1 hr1 er1 ok1 => ok1 r1 H1 (Step.refl _ _) hr1
def evAnd (f g : Ev) : Ev := fun e h => (f e h).bind fun d h1 => match d with
  | .bl true => g e h1
  | .bl false => .ok (.bl false) h1
  | _ => .stuck
def evOr (f g : Ev) : Ev := fun e h => (f e h).bind fun d h1 => match d with
  | .bl true => .ok (.bl true) h1
  | .bl false => g e h1
  | _ => .stuck
def evNot (f : Ev) : Ev := fun e h => (f e h).bind fun d h1 => match d with
  | .bl b => .ok (.bl (!b)) h1
  | _ => .stuck
theorem den_vone {a : Expr} {op} {pos : Pos} {f : Ev} (ha : DenE X W a f) : DenE X W (.BoolOp op [a] pos) f := pe_one ha
theorem den_vand {a b : Expr} {rest : List Expr} {pos : Pos} {f g : Ev} (ha : DenE X W a f) (hb : DenE X W (.BoolOp .And (b :: rest) pos) g) : DenE X W (.BoolOp .And (a :: b :: rest) pos) (evAnd f g) :=
  PE.imp (pe_and ha hb) fun σ H Q ⟨r, e, h, er, hr, ok⟩ => by
    unfold evAnd at ok
    refine rdE_bind er hr ok fun d h1 v r1 H1 s1 hr1 t1 er1 ok1 => ?_
    split at ok1
    · exact ⟨true, t1.u.bl_inv, by rw [if_pos rfl]; exact ⟨r1, e, h1, er1, hr1, ok1⟩⟩
    · exact ⟨false, t1.u.bl_inv, by rw [if_neg Bool.false_ne_true]; exact ok1 _ r1 H1 (Step.refl _ _) hr1 (.val (.bl _))⟩
    · exact ok1.elim
theorem den_vor {a b : Expr} {rest : List Expr} {pos : Pos} {f g : Ev} (ha : DenE X W a f) (hb : DenE X W (.BoolOp .Or (b :: rest) pos) g) : DenE X W (.BoolOp .Or (a :: b :: rest) pos) (evOr f g) :=
  PE.imp (pe_or ha hb) fun σ H Q ⟨r, e, h, er, hr, ok⟩ => by
    unfold evOr at ok
    refine rdE_bind er hr ok fun d h1 v r1 H1 s1 hr1 t1 er1 ok1 => ?_
    split at ok1
    · exact ⟨true, t1.u.bl_inv, by rw [if_pos rfl]; exact ok1 _ r1 H1 (Step.refl _ _) hr1 (.val (.bl _))⟩
    · exact ⟨false, t1.u.bl_inv, by rw [if_neg Bool.false_ne_true]; exact ⟨r1, e, h1, er1, hr1, ok1⟩⟩
    · exact ok1.elim
theorem den_vnot {a : Expr} {pos : Pos} {f : Ev} (ha : DenE X W a f) : DenE X W (.UnaryOp .Not a pos) (evNot f) := PE.imp (pe_not ha) fun σ H Q ⟨r, e, h, er, hr, ok⟩ => by
  unfold evNot at ok
  refine rdE_bind er hr ok fun d h1 v r1 H1 s1 hr1 t1 er1 ok1 => ?_
  split at ok1
  · exact ⟨_, t1.u.bl_inv, ok1 _ r1 H1 (Step.refl _ _) hr1 (.val (.bl _))⟩
  · exact ok1.elim
def evIf (t : Tv) (f g : Ev) : Ev := fun e h => (t e h).bind fun b h1 => if b then f e h1 else g e h1
theorem den_if {c a b : Expr} {pos : Pos} {t : Tv} {f g : Ev} (hc : DenT X W c t) (ha : DenE X W a f) (hb : DenE X W b g) : DenE X W (.IfExp c a b pos) (evIf t f g) :=
  PE.imp (pe_ifExp hc ha hb) fun σ H Q ⟨r, e, h, er, hr, ok⟩ => by
    unfold evIf at ok
    refine rdT_bindE er hr ok fun d h1 r1 H1 s1 hr1 er1 ok1 => ?_
    cases d with
    | true => rw [if_pos rfl]; exact ⟨r1, e, h1, er1, hr1, ok1⟩
    | false => rw [if_neg Bool.false_ne_true]; exact ⟨r1, e, h1, er1, hr1, ok1⟩
def evNeg (f : Ev) : Ev := fun e h => (f e h).bind fun d h1 => match d with
  | .int i => .ok (.int (-i)) h1
  | _ => .stuck
theorem den_neg {a : Expr} {pos : Pos} {f : Ev} (ha : DenE X W a f) : DenE X W (.UnaryOp .USub a pos) (evNeg f) := PE.imp (pe_un un_neg ha) fun σ H Q ⟨r, e, h, er, hr, ok⟩ => by
  unfold evNeg at ok
  refine rdE_bind er hr ok fun d h1 v r1 H1 s1 hr1 t1 er1 ok1 => ?_
  split at ok1
  · exact ⟨_, t1.u.int_inv, ok1 _ r1 H1 (Step.refl _ _) hr1 (.val (.int _))⟩
  · exact ok1.elim
end
end BW

set_option Elab.async false
set_option linter.all false
set_option maxRecDepth 100000
set_option maxHeartbeats 4000000
namespace BW
open PySem PySem.Spec PyProof.Rows L2
variable [Tb]
def opIx (h : AH) (x y : D) : Option D := match y with
  | .int i => match x with
    | .str z => if z.length ≤ sizeLine then (atI z.cps.toList i).map fun c => .str ⟨#[c]⟩ else none
    | x => (seqOf h x).bind fun xs => atI xs i
  | _ => none
theorem Rels.atI {K : PySem.W.Frag} {mg : Str → Option Value} {r : List Addr} {H : Hp} {vs : List V} {xs : List D} {i : Int} {x : D} (q : Rels K mg r H vs xs) (e : L2.atI xs i = some x) : ∃ v, L2.atI vs i = some v ∧ Rel K mg r H v x := by
  unfold L2.atI at e ⊢
  rw [q.length]
  cases hj : ixN xs.length i with
  | none => rw [hj] at e; cases e
  | some j =>
    rw [hj] at e
    simp only [Option.bind_some] at e ⊢
    exact q.get' e
def cutD (xs : List D) (lo hi : Option Int) : List D := (xs.drop (HT.sIx xs.length 0 lo)).take (HT.sIx xs.length xs.length hi - HT.sIx xs.length 0 lo)
theorem Rels.cutD {K : PySem.W.Frag} {mg : Str → Option Value} {r : List Addr} {H : Hp} {vs : List V} {xs : List D} (q : Rels K mg r H vs xs) (lo hi : Option Int) : Rels K mg r H (cutV vs lo hi) (BW.cutD xs lo hi) := by
  unfold cutV BW.cutD
  rw [q.length]
  exact (q.drop _).take _
section
variable {X : Cx} {W : Wx}
theorem ixd : IxR X (rdO X.K X.mg opIx) := fun value slice pins s σ H x y v u Q I rx ry q => by
  obtain ⟨r, h, dx, dy, d, hr, tx, ty, hg, q⟩ := q
  unfold opIx at hg
  split at hg
  · split at hg
    · split at hg
      · rename_i hz
        simp only [Option.map_eq_some_iff] at hg
        obtain ⟨c, hc, rfl⟩ := hg
        exact ix_str value slice pins s σ H x y v u Q I rx ry ⟨_, _, c, tx.str_inv, ty.int_inv, hz, hc, q _ H (Step.refl r H) hr (.val (.str _))⟩
      · cases hg
    · simp only [Option.bind_eq_some_iff] at hg
      obtain ⟨xs, h1, h2⟩ := hg
      obtain ⟨a, vs, rfl, h3, h4⟩ := seqOf_inv hr tx h1
      obtain ⟨w, h5, h6⟩ := h4.atI h2
      rcases h3 with h3 | h3
      · exact ix_list value slice pins s σ H _ y v u Q I rx ry ⟨a, vs, _, w, rfl, ty.int_inv, h3, h5, q _ H (Step.refl r H) hr (.val h6)⟩
      · exact ix_tup value slice pins s σ H _ y v u Q I rx ry ⟨a, vs, _, w, rfl, ty.int_inv, h3, h5, q _ H (Step.refl r H) hr (.val h6)⟩
  · cases hg
theorem den_ix {a b : Expr} {pos : Pos} {fa fb : Ev} (ha : DenE X W a fa) (hb : DenE X W b fb) (hs : PlainIx b := by exact fun _ _ => rfl) : DenE X W (.Subscript a b pos) (evOp opIx fa fb) :=
  PE.imp (pe_ix ixd ha hb hs) fun σ H Q q => rdO_of q
abbrev Pv := Env → AH → Out (Option Int)
def pvNone : Pv := fun _ h => .ok none h
def pvSome (f : Ev) : Pv := fun e h => (f e h).bind fun d h1 => match d with
  | .int i => .ok (some i) h1
  | _ => .stuck
def OkP (K : PySem.W.Frag) (mg : Str → Option Value) (W : Wx) (σ : L2.St) (r : List Addr) (H : Hp) (Q : Option Int → Hp → Prop) : Out (Option Int) → Prop
  | .stuck => False
  | .ok d h' => ∀ r' H', Step r H r' H' → HRel K mg r' h' H' → Q d H'
  | .exc x h' => ∀ c dx r' H', Step r H r' H' → HRel K mg r' h' H' → ExRel K mg r' H' c dx x → W c dx σ H'
def rdP (K : PySem.W.Frag) (mg : Str → Option Value) (W : Wx) (f : Pv) : TO := fun σ H Q => ∃ r e h, ERel K mg r e σ H ∧ HRel K mg r h H ∧ OkP K mg W σ r H Q (f e h)
abbrev DenP (X : Cx) (W : Wx) (o : Option Expr) (f : Pv) : Prop := PO X o (rdP X.K X.mg W f)
theorem PO.imp {o : Option Expr} {t t' : TO} (h : PO X o t) (q : ∀ σ H Q, t' σ H Q → t σ H Q) : PO X o t' := ⟨fun pins s σ H Q I z => h.run pins s σ H Q I (q σ H Q z)⟩
theorem den_pnone : DenP X W none pvNone := PO.imp po_none fun σ H Q ⟨r, e, h, er, hr, ok⟩ => ok r H (Step.refl r H) hr
theorem den_psome {ex : Expr} {f : Ev} (hf : DenE X W ex f) : DenP X W (some ex) (pvSome f) := PO.imp (po_some hf) fun σ H Q ⟨r, e, h, er, hr, ok⟩ => by
  unfold pvSome at ok
  refine ⟨r, e, h, er, hr, ?_⟩
  cases hf : f e h with
  | stuck => rw [hf] at ok; exact ok
  | exc x h1 => rw [hf] at ok; exact ok
  | ok d h1 =>
    rw [hf] at ok
    intro v r1 H1 s q t
    cases d with
    | int i => exact ⟨i, t.u.int_inv, ok r1 H1 s q⟩
    | _ => exact ok.elim
def slD (h : AH) (x : D) (lo hi : Option Int) : Option D := match x with
  | .str z => if z.length ≤ sizeLine then some (.str (cutS z lo hi)) else none
  | .tup xs => some (.tup (cutD xs lo hi))
  | x => (lstOfR h x).map fun xs => .tl (cutD xs lo hi)
def evSl (f : Ev) (lo hi : Pv) : Ev := fun e h => (f e h).bind fun x h1 => (lo e h1).bind fun l h2 => (hi e h2).bind fun u h3 => ofO (slD h3 x l u) h3
theorem cutD_whole {xs : List D} {lo hi : Option Int} (h : HT.sIx xs.length 0 lo = 0 ∧ HT.sIx xs.length xs.length hi = xs.length) : cutD xs lo hi = xs := by
  unfold cutD
  rw [h.1, h.2]
  simp
def rdSl (K : PySem.W.Frag) (mg : Str → Option Value) : V → Option Int → Option Int → Hp → VK → Prop := fun x lo hi H Q => ∃ r h dx d, HRel K mg r h H ∧ RelU K mg r H x dx ∧ slD h dx lo hi = some d ∧ ∀ v H', Step r H r H' → HRel K mg r h H' → RelT K mg H r H' v d → Q v H'
theorem SlR.imp {r1 r2 : V → Option Int → Option Int → Hp → VK → Prop} (a : SlR X r1) (q : ∀ x lo hi H Q, r2 x lo hi H Q → r1 x lo hi H Q) : SlR X r2 := fun pins s σ H x v vl vu lo hi sl Q I rx hs pl pu z => a pins s σ H x v vl vu lo hi sl Q I rx hs pl pu (q _ _ _ _ _ z)
theorem sld : SlR X (rdSl X.K X.mg) := SlR.imp (SlR.or sl_str (SlR.or sl_tupA sl_list)) fun x lo hi H Q ⟨r, h, dx, d, hr, tx, hg, q⟩ => by
  unfold slD at hg
  split at hg
  · split at hg
    · cases hg; rename_i hz; exact .inl ⟨_, tx.str_inv, hz, q _ H (Step.refl r H) hr (.val (.str _))⟩
    · cases hg
  · cases hg
    obtain ⟨a, vs, rfl, h1, h2⟩ := tx.tup_inv
    refine .inr (.inl ⟨a, vs, rfl, h1.sq, fun z => ?_, fun z p hp => ?_⟩)
    · rw [h2.length] at z
      rw [cutD_whole z] at q
      exact q _ H (Step.refl r H) hr (.val (.tup h1 h2))
    · exact newT hr hp (h2.cutD lo hi) q
  · simp only [Option.map_eq_some_iff] at hg
    obtain ⟨xs, h1, rfl⟩ := hg
    obtain ⟨a, vs, rfl, h3, h4⟩ := lstOfR_inv hr tx h1
    exact .inr (.inr ⟨a, vs, rfl, h3, fun p hp => newL hr hp (h4.cutD lo hi) q⟩)
theorem rdP_bind {K : PySem.W.Frag} {mg : Str → Option Value} {σ : L2.St} {r : List Addr} {H : Hp} {h : AH} {e : Env} {f : Pv} {k : Option Int → AH → Out D} {Q : VK} {Q' : Option Int → Hp → Prop} (er : ERel K mg r e σ H) (hr : HRel K mg r h H) (ok : OkE K mg W σ r H Q ((f e h).bind k))
    (hk : ∀ d h1 r1 H1, Step r H r1 H1 → HRel K mg r1 h1 H1 → ERel K mg r1 e σ H1 → OkE K mg W σ r1 H1 Q (k d h1) → Q' d H1) : rdP K mg W f σ H Q' := by
  refine ⟨r, e, h, er, hr, ?_⟩
  cases hf : f e h with
  | stuck => rw [hf] at ok; exact ok
  | ok d h1 => rw [hf] at ok; exact fun r1 H1 s q => hk d h1 r1 H1 s q (er.mono s.mn) (OkE.after s ok)
  | exc x h1 => rw [hf] at ok; exact ok
theorem den_sl {ex : Expr} {lo hi : Option Expr} {p2 pos : Pos} {f : Ev} {fl fh : Pv} (hf : DenE X W ex f) (hl : DenP X W lo fl) (hh : DenP X W hi fh) : DenE X W (.Subscript ex (.Slice lo hi none p2) pos) (evSl f fl fh) :=
  PE.imp (pe_slice sld hf hl hh) fun σ H Q ⟨r, e, h, er, hr, ok⟩ => by
    unfold evSl at ok
    refine rdE_bind er hr ok fun x h1 v r1 H1 s1 hr1 t1 er1 ok1 => ?_
    refine rdP_bind er1 hr1 ok1 fun l h2 r2 H2 s2 hr2 er2 ok2 => ?_
    refine rdP_bind er2 hr2 ok2 fun u h3 r3 H3 s3 hr3 er3 ok3 => ?_
    cases hg : slD h3 x l u with
    | none => rw [hg] at ok3; exact ok3.elim
    | some d =>
      rw [hg] at ok3
      exact ⟨r3, h3, x, d, hr3, ((t1.mono s2).mono s3).u, hg, fun v H' s q t => ok3 v r3 H' s q t⟩
def bLen (h : AH) : List D → Option D
  | [.str z] => if z.length ≤ sizeLine then some (.int z.length) else none
  | [x] => (seqOf h x).map fun xs => .int xs.length
  | _ => none
def bTuple (h : AH) : List D → Option D
  | [.tup xs] => some (.tup xs)
  | [x] => (lstOfR h x).map .tup
  | _ => none
def bList (h : AH) : List D → Option D
  | [x] => (seqOf h x).map .tl
  | _ => none
def bInt (_ : AH) : List D → Option D
  | [.int i] => some (.int i)
  | [.bl b] => some (.int (if b then 1 else 0))
  | _ => none
def blsOf : List D → Option (List Bool)
  | [] => some []
  | .bl b :: xs => (blsOf xs).map (b :: ·)
  | _ => none
def intsOf : List D → Option (List Int)
  | [] => some []
  | .int b :: xs => (intsOf xs).map (b :: ·)
  | _ => none
def bAll (h : AH) : List D → Option D
  | [x] => ((lstOfR h x).bind blsOf).map fun bs => .bl (bs.all id)
  | _ => none
theorem bls_rel {K : PySem.W.Frag} {mg : Str → Option Value} {r : List Addr} {H : Hp} : ∀ {vs : List V} {xs : List D} {bs : List Bool}, Rels K mg r H vs xs → blsOf xs = some bs → vs = bs.map V.bl
  | _, _, _, .nil, e => by cases e; rfl
  | _, _, _, .cons q t, e => by
    cases q with
    | bl b =>
      simp only [blsOf, Option.map_eq_some_iff] at e
      obtain ⟨cs, e1, rfl⟩ := e
      rw [bls_rel t e1]; rfl
    | _ => simp [blsOf] at e
theorem ints_rel {K : PySem.W.Frag} {mg : Str → Option Value} {r : List Addr} {H : Hp} : ∀ {vs : List V} {xs : List D} {bs : List Int}, Rels K mg r H vs xs → intsOf xs = some bs → vs = bs.map V.int
  | _, _, _, .nil, e => by cases e; rfl
  | _, _, _, .cons q t, e => by
    cases q with
    | int b =>
      simp only [intsOf, Option.map_eq_some_iff] at e
      obtain ⟨cs, e1, rfl⟩ := e
      rw [ints_rel t e1]; rfl
    | _ => simp [intsOf] at e
theorem RelTs.one {K : PySem.W.Frag} {mg : Str → Option Value} {r : List Addr} {H : Hp} {vs : List V} {d : D} (q : RelTs K mg r H vs [d]) : ∃ v, vs = [v] ∧ RelU K mg r H v d := by
  cases q with
  | cons a b => cases b; exact ⟨_, rfl, a⟩
theorem RelTs.two {K : PySem.W.Frag} {mg : Str → Option Value} {r : List Addr} {H : Hp} {vs : List V} {d d' : D} (q : RelTs K mg r H vs [d, d']) : ∃ v v', vs = [v, v'] ∧ RelU K mg r H v d ∧ RelU K mg r H v' d' := by
  cases q with
  | cons a b => cases b with
    | cons b c => cases c; exact ⟨_, _, rfl, a, b⟩
theorem cd_len : CallD X (.builtin "len") bLen := CallR.imp call_len fun vs H Q ⟨r, h, ds, d, hr, ts, hg, q⟩ => by
  unfold bLen at hg
  split at hg
  · split at hg
    · cases hg
      rename_i hz
      obtain ⟨v, rfl, t⟩ := ts.one
      obtain rfl := t.str_inv
      exact ⟨_, _, rfl, ⟨hz, rfl⟩, q _ H (Step.refl r H) hr (.val (.int _))⟩
    · cases hg
  · simp only [Option.map_eq_some_iff] at hg
    obtain ⟨xs, h1, rfl⟩ := hg
    obtain ⟨v, rfl, t⟩ := ts.one
    obtain ⟨a, ws, rfl, h2, h3⟩ := seqOf_inv hr t h1
    refine ⟨_, xs.length, rfl, ?_, q _ H (Step.refl r H) hr (.val (.int _))⟩
    rcases h2 with h2 | h2
    · exact .inl ⟨ws, h2, h3.length.symm⟩
    · exact .inr ⟨ws, h2, h3.length.symm⟩
  · cases hg
theorem cd_tuple : CallD X (.type "tuple") bTuple := CallR.imp call_tuple_of fun vs H Q ⟨r, h, ds, d, hr, ts, hg, q⟩ => by
  unfold bTuple at hg
  split at hg
  · cases hg
    obtain ⟨v, rfl, t⟩ := ts.one
    obtain ⟨a, ws, rfl, h1, h2⟩ := t.tup_inv
    exact ⟨a, ws, rfl, .inr ⟨h1.sq, q _ H (Step.refl r H) hr (.val (.tup h1 h2))⟩⟩
  · simp only [Option.map_eq_some_iff] at hg
    obtain ⟨xs, h1, rfl⟩ := hg
    obtain ⟨v, rfl, t⟩ := ts.one
    obtain ⟨a, ws, rfl, h2, h3⟩ := lstOfR_inv hr t h1
    exact ⟨a, ws, rfl, .inl ⟨h2, fun p hp => newT hr hp h3 q⟩⟩
  · cases hg
theorem cd_list : CallD X (.type "list") bList := CallR.imp call_list_of fun vs H Q ⟨r, h, ds, d, hr, ts, hg, q⟩ => by
  unfold bList at hg
  split at hg
  · simp only [Option.map_eq_some_iff] at hg
    obtain ⟨xs, h1, rfl⟩ := hg
    obtain ⟨v, rfl, t⟩ := ts.one
    obtain ⟨a, ws, rfl, h2, h3⟩ := seqOf_inv hr t h1
    exact ⟨a, ws, rfl, h2, fun p hp => newL hr hp h3 q⟩
  · cases hg
theorem cd_int : CallD X (.type "int") bInt := CallR.imp call_int1 fun vs H Q ⟨r, h, ds, d, hr, ts, hg, q⟩ => by
  unfold bInt at hg
  split at hg
  · cases hg
    obtain ⟨v, rfl, t⟩ := ts.one
    obtain rfl := t.int_inv
    exact .inl ⟨_, rfl, q _ H (Step.refl r H) hr (.val (.int _))⟩
  · cases hg
    obtain ⟨v, rfl, t⟩ := ts.one
    obtain rfl := t.bl_inv
    exact .inr ⟨_, rfl, q _ H (Step.refl r H) hr (.val (.int _))⟩
  · cases hg
theorem cd_all (hc : X.calm = true) : CallD X (.builtin "all") bAll := CallR.imp (cr_all hc) fun vs H Q ⟨r, h, ds, d, hr, ts, hg, q⟩ => by
  unfold bAll at hg
  split at hg
  · simp only [Option.map_eq_some_iff, Option.bind_eq_some_iff] at hg
    obtain ⟨bs, ⟨xs, h1, h2⟩, rfl⟩ := hg
    obtain ⟨v, rfl, t⟩ := ts.one
    obtain ⟨a, ws, rfl, h3, h4⟩ := lstOfR_inv hr t h1
    obtain rfl := bls_rel h4 h2
    exact ⟨a, bs, rfl, h3, q _ H (Step.refl r H) hr (.val (.bl _))⟩
  · cases hg
end
end BW

set_option Elab.async false
set_option linter.all false
set_option maxRecDepth 100000
set_option maxHeartbeats 4000000
namespace BW
open PySem PySem.Spec PyProof.Rows L2
variable [Tb]
abbrev Gv := D → Env → AH → Out Env
section
variable (K : PySem.W.Frag) (mg : Str → Option Value)
def OkG (r : List Addr) (H : Hp) (Q : L2.St → Hp → Prop) : Out Env → Prop
  | .ok e' h' => ∀ σ' r' H', Step r H r' H' → ERel K mg r' e' σ' H' → HRel K mg r' h' H' → Q σ' H'
  | _ => False
def rdG (g : Gv) : TG := fun v σ H Q => ∃ r e h d, ERel K mg r e σ H ∧ HRel K mg r h H ∧ Rel K mg r H v d ∧ OkG K mg r H Q (g d e h)
def rdGs (g : List D → Env → AH → Out Env) : TGs := fun vs σ H Q => ∃ r e h ds, ERel K mg r e σ H ∧ HRel K mg r h H ∧ Rels K mg r H vs ds ∧ OkG K mg r H Q (g ds e h)
end
abbrev DenG (X : Cx) (tg : Expr) (g : Gv) : Prop := PG X tg (rdG X.K X.mg g)
abbrev DenGs (X : Cx) (tg : List Expr) (g : List D → Env → AH → Out Env) : Prop := PGs X tg (rdGs X.K X.mg g)
def gvName (i : Nat) : Gv := fun d e h => .ok (e.set i (some d)) h
def gvs : List Gv → List D → Env → AH → Out Env
  | [], [], e, h => .ok e h
  | g :: gs, d :: ds, e, h => match g d e h with
    | .ok e1 h1 => gvs gs ds e1 h1
    | _ => .stuck
  | _, _, _, _ => .stuck
def gvTup (gs : List Gv) : Gv := fun d e h => match d with
  | .tup ds => gvs gs ds e h
  | _ => .stuck
def gvSubL (fo fi : Ev) : Gv := fun d e h => match fo e h with
  | .ok o h1 => match fi e h1 with
    | .ok i h2 => match o, i with
      | .ref n, .int k => match h2[n]? with
        | some (.lst xs) => match ixN xs.length k with
          | some j => .ok e (h2.set n (.lst (xs.set j d)))
          | none => .stuck
        | _ => .stuck
      | _, _ => .stuck
    | _ => .stuck
  | _ => .stuck
section
variable {X : Cx}
theorem PG.imp {tg : Expr} {t t' : TG} (h : PG X tg t) (q : ∀ v σ H Q, t' v σ H Q → t v σ H Q) : PG X tg t' := ⟨fun pins s σ H v u Q I r z => h.run pins s σ H v u Q I r (q v σ H Q z)⟩
theorem PGs.imp {tg : List Expr} {t t' : TGs} (h : PGs X tg t) (q : ∀ v σ H Q, t' v σ H Q → t v σ H Q) : PGs X tg t' := ⟨fun pins s σ H v u Q I r z => h.run pins s σ H v u Q I r (q v σ H Q z)⟩
theorem OkG.after {K : PySem.W.Frag} {mg : Str → Option Value} {r r1 : List Addr} {H H1 : Hp} {Q : L2.St → Hp → Prop} {o : Out Env} (s : Step r H r1 H1) (q : OkG K mg r H Q o) : OkG K mg r1 H1 Q o := by
  cases o with
  | ok e' h' => exact fun σ' r' H' s' => q σ' r' H' (s.trans s')
  | _ => exact q
theorem den_gname {i : Nat} {x : Str} {pos : Pos} (hN : X.N.Nodup) (hi : X.N[i]? = some x) (hx : Loc X.env.scope x) (hf : X.fn x = true ∨ X.env.scope.names.lookup x = some .local := by first | exact .inl rfl | exact .inr rfl | assumption) : DenG X (.Name x pos) (gvName i) :=
  PG.imp (pg_name hN hi hx hf) fun v σ H Q ⟨r, e, h, d, er, hr, q, ok⟩ => ok _ r H (Step.refl r H) (er.set i q) hr
theorem den_gnil : DenGs X [] (gvs []) := PGs.imp pgs_nil fun vs σ H Q ⟨r, e, h, ds, er, hr, q, ok⟩ => by
  cases q with
  | nil => exact ⟨rfl, ok _ r H (Step.refl r H) er hr⟩
  | cons => exact ok.elim
theorem den_gcons {t : Expr} {ts : List Expr} {g : Gv} {gs : List Gv} (hg : DenG X t g) (hgs : DenGs X ts (gvs gs)) (hs : (assignEach (t :: ts) X.env).map (·.2) = assign t X.env :: (assignEach ts X.env).map (·.2) := by rfl) : DenGs X (t :: ts) (gvs (g :: gs)) :=
  PGs.imp (pgs_cons hg hgs hs) fun vs σ H Q ⟨r, e, h, ds, er, hr, q, ok⟩ => by
    cases q with
    | nil => exact ok.elim
    | @cons v vs d ds q1 q2 =>
      refine ⟨v, vs, rfl, r, e, h, d, er, hr, q1, ?_⟩
      simp only [gvs] at ok
      cases hgd : g d e h with
      | ok e1 h1 => rw [hgd] at ok; exact fun σ' r' H' s' er' hr' => ⟨r', e1, h1, ds, er', hr', q2.mono s'.mn, OkG.after s' ok⟩
      | stuck => rw [hgd] at ok; exact ok.elim
      | exc x h1 => rw [hgd] at ok; exact ok.elim
theorem gvs_len : ∀ {gs : List Gv} {ds : List D} {e : Env} {h : AH} {e' : Env} {h' : AH}, gvs gs ds e h = .ok e' h' → ds.length = gs.length
  | [], [], _, _, _, _, _ => rfl
  | [], _ :: _, _, _, _, _, z => by simp [gvs] at z
  | _ :: _, [], _, _, _, _, z => by simp [gvs] at z
  | g :: gs, d :: ds, e, h, e', h', z => by
    simp only [gvs] at z
    split at z
    · rw [List.length_cons, List.length_cons, gvs_len z]
    · cases z
theorem den_gtup {ts : List Expr} {gs : List Gv} {k : Nat} {pos : Pos} (hc : X.calm = true) (hg : DenGs X ts (gvs gs)) (hn : (assignEach ts X.env).length = gs.length := by rfl) (hst : (assignEach ts X.env).findIdx? (·.1) = none := by rfl) : DenG X (.Tuple ts k pos) (gvTup gs) :=
  PG.imp (pg_tup (n := gs.length) hc hg hn hst) fun v σ H Q ⟨r, e, h, d, er, hr, q, ok⟩ => by
    cases d with
    | tup ds =>
      obtain ⟨a, vs, rfl, h1, h2⟩ := RelU.tup_inv (RelT.val q : RelU X.K X.mg r H v (.tup ds))
      refine ⟨a, vs, rfl, h1.sq, ?_, r, e, h, ds, er, hr, h2, ok⟩
      rw [h2.length]
      simp only [gvTup] at ok
      cases hz : gvs gs ds e h with
      | ok e1 h1 => exact gvs_len hz
      | stuck => rw [hz] at ok; exact ok.elim
      | exc => rw [hz] at ok; exact ok.elim
    | _ => exact ok.elim
theorem den_gsubL {o i : Expr} {pos : Pos} {fo fi : Ev} {W : Wx} (ho : DenE X W o fo) (hi : DenE X W i fi)
    (ha : ∀ z, assign (.Subscript o i pos) X.env z = (do
      let zo ← holding [z] (eval o X.env)
      let zi ← holding [z, zo] (eval i X.env)
      standAt pos
      holding [z, zo, zi] (setItem zo zi z)
      release [z, zo, zi] []) := by intro _; rfl) : DenG X (.Subscript o i pos) (gvSubL fo fi) :=
  PG.imp (pg_sub ho hi set_list ha) fun v σ H Q ⟨r, e, h, d, er, hr, q, ok⟩ => by
    unfold gvSubL at ok
    refine ⟨r, e, h, er, hr, ?_⟩
    cases hfo : fo e h with
    | stuck => rw [hfo] at ok; exact ok.elim
    | exc => rw [hfo] at ok; exact ok.elim
    | ok o h1 =>
      rw [hfo] at ok
      dsimp only at ok
      refine fun v1 r1 H1 s1 hr1 t1 => ⟨r1, e, h1, er.mono s1.mn, hr1, ?_⟩
      cases hfi : fi e h1 with
      | stuck => rw [hfi] at ok; exact ok.elim
      | exc => rw [hfi] at ok; exact ok.elim
      | ok i h2 =>
        rw [hfi] at ok
        dsimp only at ok
        refine fun v2 r2 H2 s2 hr2 t2 => ?_
        split at ok
        · rename_i n k
          split at ok
          · rename_i xs hx
            split at ok
            · rename_i j hj
              obtain ⟨p, vs, rfl, h5, h6⟩ := lstOf_inv (d := .ref n) (xs := xs) hr2 (t1.mono s2).u (by simp only [lstOf, hx])
              obtain rfl := t2.u.int_inv
              have hn : r2[n]? = some p := by
                cases (t1.mono s2) with
                | val z => exact z.ref_inv
              have hp : p ∈ r2 := List.mem_of_getElem? hn
              have s3 : Step r2 H2 r2 (upd H2 p (.lst (vs.set j v))) := Step.mut hp (by rw [h5]; exact fun _ _ z => nomatch z)
              have q2 : Rel X.K X.mg r2 H2 v d := (q.mono s1.mn).mono s2.mn
              refine ⟨p, vs, k, j, rfl, rfl, h5, by rw [h6.length]; exact hj, ?_⟩
              refine ok σ r2 _ ((s1.trans s2).trans s3) (((er.mono s1.mn).mono s2.mn).mono s3.mn) ?_
              exact hr2.put (ob := .lst (xs.set j d)) hn ⟨vs.set j v, upd_same, (h6.set q2 j).mono s3.mn⟩
            · exact ok.elim
          · exact ok.elim
        · exact ok.elim
end
def svNil : Sv := fun e h => .nx e h
def svSeq (a b : Sv) : Sv := fun e h => match a e h with
  | .nx e1 h1 => b e1 h1
  | o => o
def svExpr (f : Ev) : Sv := fun e h => (f e h).toFl e fun _ h1 => .nx e h1
def svRet (f : Ev) : Sv := fun e h => (f e h).toFl e fun d h1 => .ret d h1
def svIf (t : Tv) (a b : Sv) : Sv := fun e h => (t e h).toFl e fun c h1 => if c then a e h1 else b e h1
def svAsg (f : Ev) (g : Gv) : Sv := fun e h => (pv f e h).toFl e fun d h1 => match g d e h1 with
  | .ok e1 h2 => .nx e1 h2
  | _ => .stuck
section
variable {X : Cx} {W : Wx}
theorem den_bnil : DenB X W [] svNil := PSs.imp pss_nil fun N σ H ⟨r, e, h, er, hr, ok⟩ => ok σ r H (Step.refl r H) er hr
theorem den_bcons {st : Stmt} {sts : List Stmt} {a b : Sv} (ha : DenS X W st a) (hb : DenB X W sts b) : DenB X W (st :: sts) (svSeq a b) := PSs.imp (pss_cons ha hb) fun N σ H ⟨r, e, h, er, hr, ok⟩ => by
  refine ⟨r, e, h, er, hr, ?_⟩
  unfold svSeq at ok
  cases ha : a e h with
  | nx e1 h1 => rw [ha] at ok; exact fun σ' r' H' s er' hr' => ⟨r', e1, h1, er', hr', OkS.after s ok⟩
  | stuck => rw [ha] at ok; exact ok
  | ret d h1 => rw [ha] at ok; exact ok
  | brk e1 h1 => rw [ha] at ok; exact ok
  | cont e1 h1 => rw [ha] at ok; exact ok
  | exc x e1 h1 => rw [ha] at ok; exact ok
theorem den_bone {st : Stmt} {a : Sv} (ha : DenS X W st a) : DenB X W [st] a := pss_one ha
theorem den_expr {ex : Expr} {pos : Pos} {f : Ev} (hf : DenE X W ex f) (hs : swapsWith ex none pos.line X.env = pure false := by rfl) : DenS X W (.Expr ex pos) (svExpr f) := PS.imp (ps_expr hf hs) fun N σ H ⟨r, e, h, er, hr, ok⟩ => by
  unfold svExpr at ok
  exact rdE_bindS er hr ok fun d h1 v r1 H1 s1 hr1 t1 er1 ok1 => ok1 σ r1 H1 (Step.refl _ _) er1 hr1
theorem den_ret {ex : Expr} {pos : Pos} {f : Ev} (hf : DenE X W ex f) : DenS X W (.Return (some ex) pos) (svRet f) := PS.imp (ps_ret hf) fun N σ H ⟨r, e, h, er, hr, ok⟩ => by
  unfold svRet at ok
  refine ⟨r, e, h, er, hr, ?_⟩
  cases hfe : f e h with
  | stuck => rw [hfe] at ok; exact ok
  | ok d h1 => rw [hfe] at ok; exact ok
  | exc x h1 => rw [hfe] at ok; exact fun c dx r' H' s hr' t => ok c dx σ r' H' s (er.mono s.mn) hr' t
theorem den_ifS {c : Expr} {a b : List Stmt} {pos : Pos} {t : Tv} {fa fb : Sv} (hc : DenT X W c t) (ha : DenB X W a fa) (hb : DenB X W b fb) : DenS X W (.If c a b pos) (svIf t fa fb) := PS.imp (ps_if hc ha hb) fun N σ H ⟨r, e, h, er, hr, ok⟩ => by
  unfold svIf at ok
  refine rdT_bindS er hr ok fun d h1 r1 H1 s1 hr1 er1 ok1 => ?_
  cases d with
  | true => rw [if_pos rfl]; exact ⟨r1, e, h1, er1, hr1, ok1⟩
  | false => rw [if_neg Bool.false_ne_true]; exact ⟨r1, e, h1, er1, hr1, ok1⟩
theorem rd_asg {K : PySem.W.Frag} {mg : Str → Option Value} {f : Ev} {g : Gv} {N : Ends} {σ : L2.St} {H : Hp} (q : rdS K mg W (svAsg f g) N σ H) : tAsg (rdV K mg W (pv f)) (rdG K mg g) N σ H := by
  obtain ⟨r, e, h, er, hr, ok⟩ := q
  unfold svAsg at ok
  refine rdV_bindS er hr ok fun d h1 v r1 H1 s1 hr1 t1 er1 ok1 => ?_
  refine ⟨r1, e, h1, d, er1, hr1, t1, ?_⟩
  cases hg : g d e h1 with
  | ok e1 h2 => rw [hg] at ok1; exact fun σ' r' H' s er' hr' => ok1 σ' r' H' s er' hr'
  | stuck => rw [hg] at ok1; exact ok1
  | exc => rw [hg] at ok1; exact ok1
theorem den_asg {tg ex : Expr} {pos : Pos} {f : Ev} {g : Gv} (hf : DenE X W ex f) (hg : DenG X tg g) (hs : swapsWithSole [tg] ex pos.line X.env = pure false := by rfl) (hw : swappedStores [tg] ex X.env = pure none := by rfl) (h1 : (assignEach [tg] X.env).map (·.2) = [assign tg X.env] := by rfl) : DenS X W (.Assign [tg] ex pos) (svAsg f g) := by
  exact PS.imp (ps_asg (den_pv hf) hg hs hw h1) fun N σ H q => rd_asg q
theorem den_set {i : Nat} {x : Str} {ex : Expr} {pos pos' : Pos} {f : Ev} (hN : X.N.Nodup) (hi : X.N[i]? = some x) (hx : Loc X.env.scope x) (hf : DenE X W ex f) (hs : swapsWith ex (some (.Name x pos')) pos.line X.env = pure false := by rfl) (hfn : X.fn x = true ∨ X.env.scope.names.lookup x = some .local := by first | exact .inl rfl | exact .inr rfl | assumption) : DenS X W (.Assign [.Name x pos'] ex pos) (svAsg f (gvName i)) :=
  PS.imp (ps_set hN hi hx (den_pv hf) hs hfn) fun N σ H q => by
    obtain ⟨r, e, h, er, hr, ok⟩ := q
    unfold svAsg at ok
    exact rdV_bindS er hr ok fun d h1 v r1 H1 s1 hr1 t1 er1 ok1 => ok1 _ r1 H1 (Step.refl _ _) (er1.set i t1) hr1
end
end BW

set_option Elab.async false
set_option linter.all false
set_option maxRecDepth 100000
set_option maxHeartbeats 4000000
namespace BW
open PySem PySem.Spec PyProof.Rows L2
variable [Tb]
inductive GO where
  | lst (xs : List D)
  | two (xs : List D) (m : Nat) (ys : List D)
  deriving DecidableEq
structure Its where
  xs : List D
  /-- the list that must stay as it is -/
  g : Option (Nat × GO) := none
def guardOk (g : Option (Nat × GO)) (h : AH) : Bool := match g with
  | none => true
  | some (n, .lst xs) => decide (h[n]? = some (.lst xs))
  | some (n, .two xs m ys) => decide (h[n]? = some (.lst xs)) && decide (h[m]? = some (.lst ys))
abbrev Iv := Env → AH → Out Its
section
variable (K : PySem.W.Frag) (mg : Str → Option Value)
def WalkRel (J : It) (r : List Addr) (H : Hp) (it : Its) : Prop := ∃ (G : Hp → Prop) (Y : Nat → Hp → V → Hp → Prop), Walk J it.xs.length G Y ∧
  (∀ r' H' h', Step r H r' H' → HRel K mg r' h' H' → guardOk it.g h' = true → G H') ∧
  (∀ i r1 h1 H1 x H2, i < it.xs.length → Step r H r1 H1 → HRel K mg r1 h1 H1 → guardOk it.g h1 = true → Y i H1 x H2 → Step r1 H1 r1 H2 ∧ HRel K mg r1 h1 H2 ∧ ∃ d, it.xs[i]? = some d ∧ Rel K mg r1 H2 x d)
def OkI (W : Wx) (σ : L2.St) (r : List Addr) (H : Hp) (R : It → Hp → Prop) : Out Its → Prop
  | .stuck => False
  | .ok it h' => ∀ J r' H', Step r H r' H' → HRel K mg r' h' H' → WalkRel K mg J r' H' it → R J H'
  | .exc x h' => ∀ c dx r' H', Step r H r' H' → HRel K mg r' h' H' → ExRel K mg r' H' c dx x → W c dx σ H'
def rdI (W : Wx) (f : Iv) : TI := fun σ H R => ∃ r e h, ERel K mg r e σ H ∧ HRel K mg r h H ∧ OkI K mg W σ r H R (f e h)
end
abbrev DenI (X : Cx) (W : Wx) (tg iter : Expr) (f : Iv) : Prop := PI X tg iter (rdI X.K X.mg W f)
section
variable {X : Cx} {W : Wx}
theorem PI.imp {tg iter : Expr} {t t' : TI} (h : PI X tg iter t) (q : ∀ σ H R, t' σ H R → t σ H R) : PI X tg iter t' := ⟨fun pins s σ H R I z => h.run pins s σ H R I (q σ H R z)⟩
theorem PI.or {tg iter : Expr} {t u : TI} (h : PI X tg iter t) (h' : PI X tg iter u) : PI X tg iter (fun σ H R => t σ H R ∨ u σ H R) := ⟨fun pins s σ H R I z => by
  rcases z with z | z
  · exact h.run pins s σ H R I z
  · exact h'.run pins s σ H R I z⟩
def itsOf (h : AH) : D → Option Its
  | .tup xs => some { xs := xs }
  | .tl xs => some { xs := xs }
  | .rl xs => some { xs := xs }
  | .ref n => match h[n]? with
    | some (.lst xs) => some { xs := xs, g := some (n, .lst xs) }
    | _ => none
  | _ => none
def ivSeq (f : Ev) : Iv := fun e h => (f e h).bind fun d h1 => match itsOf h1 d with
  | some it => .ok it h1
  | none => .stuck
theorem yat_ok {K : PySem.W.Frag} {mg : Str → Option Value} {r : List Addr} {H : Hp} {vs : List V} {xs : List D} (q : Rels K mg r H vs xs) : ∀ i r1 h1 H1 x H2, i < xs.length → Step r H r1 H1 → HRel K mg r1 h1 H1 → YAt vs i H1 x H2 → Step r1 H1 r1 H2 ∧ HRel K mg r1 h1 H2 ∧ ∃ d, xs[i]? = some d ∧ Rel K mg r1 H2 x d := by
  rintro i r1 h1 H1 x H2 hi s hr ⟨rfl, hx⟩
  obtain ⟨d, h1, h2⟩ := (q.mono s.mn).get hx
  exact ⟨Step.refl _ _, hr, d, h1, h2⟩
theorem walk_len {J : It} {n m : Nat} {G : Hp → Prop} {Y : Nat → Hp → V → Hp → Prop} (w : Walk J n G Y) (e : n = m) : Walk J m G Y := e ▸ w
theorem itsOf_list {K : PySem.W.Frag} {mg : Str → Option Value} {r : List Addr} {h : AH} {H : Hp} {v : V} {d : D} {it : Its} (hr : HRel K mg r h H) (q : RelU K mg r H v d) (e : itsOf h d = some it) (ht : ∀ xs, d ≠ .tup xs) :
    ∃ a vs, v = .ref a ∧ SqL K H a vs ∧ WalkRel K mg (Itl K a) r H it := by
  cases q with
  | @tl p vs xs a b c q =>
    cases e
    refine ⟨p, vs, rfl, .inl (.inl b), _, _, walk_len walk_list q.length, fun r' H' h' s _ _ => .inl (.inl (s.keep _ _ b c NoOwn.of)), fun i r1 h1 H1 x H2 hi s hr1 _ y => yat_ok q i r1 h1 H1 x H2 hi s hr1 y⟩
  | val q => cases q with
    | tup => exact absurd rfl (ht _)
    | @ref n a hn =>
      simp only [itsOf] at e
      split at e
      · rename_i xs hx
        cases e
        obtain ⟨vs, h1, h2⟩ := hr.obj _ _ _ hx hn
        refine ⟨a, vs, rfl, .inl (.inl h1), fun H => ∃ ws, SqL K H a ws ∧ ws.length = xs.length, fun i H1 x H2 => H2 = H1 ∧ ∀ ws, SqL K H1 a ws → ws[i]? = some x, ?_, ?_, ?_⟩
        · refine ⟨fun i H hi ⟨ws, z1, z2⟩ => ⟨ws, ws[i]'(by rw [z2]; exact hi), z1, by simp [z2, hi]⟩, fun H ⟨ws, z1, z2⟩ => ⟨ws, z1, by rw [z2]; exact Nat.le_refl _⟩, fun i H x H' hi ⟨ws, z1, z2⟩ y => ⟨y.1, y.2⟩⟩
        · intro r' H' h' s hr' hg
          simp only [guardOk, decide_eq_true_eq] at hg
          obtain ⟨ws, z1, z2⟩ := hr'.obj _ _ _ hg (s.get hn)
          exact ⟨ws, .inl (.inl z1), z2.length⟩
        · rintro i r1 h1 H1 x H2 hi s hr1 hg ⟨rfl, y⟩
          simp only [guardOk, decide_eq_true_eq] at hg
          obtain ⟨ws, z1, z2⟩ := hr1.obj _ _ _ hg (s.get hn)
          obtain ⟨d, z3, z4⟩ := z2.get (y ws (.inl (.inl z1)))
          exact ⟨Step.refl _ _, hr1, d, z3, z4⟩
      · cases e
    | @rl a vs xs h1 h2 =>
      cases e
      exact ⟨a, vs, rfl, h1.sq, _, _, walk_len walk_list h2.length, fun r' H' h' s _ _ => (h1.mono s.mn).sq, fun i r1 h1 H1 x H2 hi s hr1 _ y => yat_ok h2 i r1 h1 H1 x H2 hi s hr1 y⟩
    | _ => cases e
theorem walk_tuple {K : PySem.W.Frag} {mg : Str → Option Value} {r : List Addr} {H : Hp} {a : Addr} {vs : List V} {xs : List D} (h1 : SqTr K H r a vs) (h2 : Rels K mg r H vs xs) : WalkRel K mg (Itt K a) r H { xs := xs } :=
  ⟨_, _, walk_len walk_tup h2.length, fun r' H' h' s _ _ => (h1.mono s.mn).sq, fun i r1 h1 H1 x H2 hi s hr1 _ y => yat_ok h2 i r1 h1 H1 x H2 hi s hr1 y⟩
theorem rdI_bind {K : PySem.W.Frag} {mg : Str → Option Value} {σ : L2.St} {r : List Addr} {e : Env} {H : Hp} {h : AH} {f : Ev} {k : D → AH → Out Its} {R : It → Hp → Prop} {Q' : VK} (er : ERel K mg r e σ H) (hr : HRel K mg r h H) (ok : OkI K mg W σ r H R ((f e h).bind k))
    (hk : ∀ d h1 v r1 H1, f e h = .ok d h1 → Step r H r1 H1 → HRel K mg r1 h1 H1 → RelT K mg H r1 H1 v d → ERel K mg r1 e σ H1 → OkI K mg W σ r1 H1 R (k d h1) → Q' v H1) : rdE K mg W f σ H Q' := by
  refine ⟨r, e, h, er, hr, ?_⟩
  cases hf : f e h with
  | stuck => rw [hf] at ok; exact ok
  | ok d h1 =>
    rw [hf] at ok
    refine fun v r1 H1 s q t => hk d h1 v r1 H1 hf s q t (er.mono s.mn) ?_
    rw [Out.bind_ok] at ok
    cases hkd : k d h1 with
    | stuck => rw [hkd] at ok; exact ok
    | ok it h' => rw [hkd] at ok; exact fun J r' H' s' => ok J r' H' (s.trans s')
    | exc x h' => rw [hkd] at ok; exact fun c dx r' H' s' => ok c dx r' H' (s.trans s')
  | exc x h1 => rw [hf] at ok; exact ok
theorem den_iseq {tg ex : Expr} {f : Ev} (hf : DenE X W ex f) : DenI X W tg ex (ivSeq f) := PI.imp (PI.or (pi_list hf) (pi_tup hf)) fun σ H R ⟨r, e, h, er, hr, ok⟩ => by
  unfold ivSeq at ok
  cases hfe : f e h with
  | stuck => rw [hfe] at ok; exact ok.elim
  | exc x h1 => exact .inl ⟨r, e, h, er, hr, by rw [hfe] at ok ⊢; exact ok⟩
  | ok d h1 =>
    cases hi : itsOf h1 d with
    | none => rw [hfe, Out.bind_ok, hi] at ok; exact ok.elim
    | some it =>
      by_cases ht : ∃ xs, d = .tup xs
      · obtain ⟨xs, rfl⟩ := ht
        cases hi
        refine .inr (rdI_bind er hr ok fun d' h1' v r1 H1 hz s1 hr1 t1 er1 ok1 => ?_)
        rw [hfe] at hz
        cases hz
        obtain ⟨a, vs, rfl, z1, z2⟩ := t1.u.tup_inv
        exact ⟨a, rfl, ⟨vs, z1.sq⟩, ok1 _ r1 H1 (Step.refl _ _) hr1 (walk_tuple z1 z2)⟩
      · refine .inl (rdI_bind er hr ok fun d' h1' v r1 H1 hz s1 hr1 t1 er1 ok1 => ?_)
        rw [hfe] at hz
        cases hz
        obtain ⟨a, vs, rfl, z1, z2⟩ := itsOf_list hr1 t1.u hi (fun xs z => ht ⟨xs, z⟩)
        rw [hi] at ok1
        exact ⟨a, rfl, ⟨vs, z1⟩, ok1 _ r1 H1 (Step.refl _ _) hr1 z2⟩
def rangeD (lo : Int) (n : Nat) : List D := (List.range n).map fun i => .int (lo + (i : Nat))
def in62 (i : Int) : Bool := decide (-(2 ^ 62) ≤ i) && decide (i < 2 ^ 62)
theorem walk_rng {K : PySem.W.Frag} {mg : Str → Option Value} {r : List Addr} {H : Hp} {lo : Int} {n : Nat} : WalkRel K mg (Itr lo n) r H { xs := rangeD lo n } := by
  have hl : (rangeD lo n).length = n := by simp [rangeD]
  refine ⟨_, _, walk_len walk_range hl.symm, fun _ _ _ _ _ _ => trivial, ?_⟩
  rintro i r1 h1 H1 x H2 hi s hr1 _ ⟨rfl, rfl⟩
  rw [show (Its.mk (rangeD lo n) none).xs = rangeD lo n from rfl, hl] at hi
  exact ⟨Step.refl _ _, hr1, .int (lo + i), by simp [rangeD, hi], .int _⟩
end
end BW

set_option Elab.async false
set_option linter.all false
set_option maxRecDepth 100000
set_option maxHeartbeats 4000000
namespace BW
open PySem PySem.Spec PyProof.Rows L2
variable [Tb]
section
variable {X : Cx} {W : Wx}
theorem OkI.after {K : PySem.W.Frag} {mg : Str → Option Value} {σ : L2.St} {r r1 : List Addr} {H H1 : Hp} {R : It → Hp → Prop} {o : Out Its} (s : Step r H r1 H1) (q : OkI K mg W σ r H R o) : OkI K mg W σ r1 H1 R o := by
  cases o with
  | stuck => exact q
  | ok it h' => exact fun J r' H' s' => q J r' H' (s.trans s')
  | exc x h' => exact fun c dx r' H' s' => q c dx r' H' (s.trans s')
def ivBy (fs : List Ev) (k : List D → AH → Out Its) : Iv := fun e h => (evs fs e h).bind k
theorem rdA_bindI {K : PySem.W.Frag} {mg : Str → Option Value} {σ : L2.St} {r : List Addr} {e : Env} {H : Hp} {h : AH} {f : Av} {k : List D → AH → Out Its} {R : It → Hp → Prop} {Q' : List V → Hp → Prop} (er : ERel K mg r e σ H) (hr : HRel K mg r h H) (ok : OkI K mg W σ r H R ((f e h).bind k))
    (hk : ∀ d h1 v r1 H1, Step r H r1 H1 → HRel K mg r1 h1 H1 → RelTs K mg r1 H1 v d → ERel K mg r1 e σ H1 → OkI K mg W σ r1 H1 R (k d h1) → Q' v H1) : rdA K mg W f σ H Q' := by
  refine ⟨r, e, h, er, hr, ?_⟩
  cases hf : f e h with
  | stuck => rw [hf] at ok; exact ok
  | ok d h1 => rw [hf] at ok; exact fun v r1 H1 s q t => hk d h1 v r1 H1 s q t (er.mono s.mn) (OkI.after s ok)
  | exc x h1 => rw [hf] at ok; exact ok
def kR1 : List D → AH → Out Its
  | [.int n], h => if in62 n then .ok { xs := rangeD 0 n.toNat } h else .stuck
  | _, _ => .stuck
def kR2 : List D → AH → Out Its
  | [.int a, .int b], h => if in62 a && in62 b then .ok { xs := rangeD a (b - a).toNat } h else .stuck
  | _, _ => .stuck
theorem in62_ok {i : Int} (h : in62 i = true) : -(2 ^ 62) ≤ i ∧ i < 2 ^ 62 := by
  unfold in62 at h
  simpa [Bool.and_eq_true, decide_eq_true_eq] using h
theorem den_range1 {a tg : Expr} {p pos : Pos} {f : Ev} (hg : Gl X "range") (hm : X.mg "range" = none) (ha : DenA X W [a] (evs [f])) (hs : starEach [a] X.env = [(false, eval a X.env)] := by rfl) : DenI X W tg (.Call (.Name "range" p) [a] [] pos) (ivBy [f] kR1) :=
  PI.imp (pi_range1 hg hm ha hs) fun σ H R ⟨r, e, h, er, hr, ok⟩ => by
    refine rdA_bindI (k := kR1) er hr ok fun ds h1 vs r1 H1 s1 hr1 t1 er1 ok1 => ?_
    unfold kR1 at ok1
    split at ok1
    · split at ok1
      · rename_i hz
        obtain ⟨v, rfl, t⟩ := t1.one
        obtain rfl := t.int_inv
        obtain ⟨z1, z2⟩ := in62_ok hz
        exact ⟨_, rfl, z1, z2, ok1 _ r1 H1 (Step.refl _ _) hr1 walk_rng⟩
      · exact ok1.elim
    · exact ok1.elim
theorem den_range2 {a b tg : Expr} {p pos : Pos} {f g : Ev} (hg : Gl X "range") (hm : X.mg "range" = none) (ha : DenA X W [a, b] (evs [f, g])) (hs : starEach [a, b] X.env = [(false, eval a X.env), (false, eval b X.env)] := by rfl) (hs2 : starEach [b] X.env = [(false, eval b X.env)] := by rfl) : DenI X W tg (.Call (.Name "range" p) [a, b] [] pos) (ivBy [f, g] kR2) :=
  PI.imp (pi_range2 hg hm ha hs hs2) fun σ H R ⟨r, e, h, er, hr, ok⟩ => by
    refine rdA_bindI (k := kR2) er hr ok fun ds h1 vs r1 H1 s1 hr1 t1 er1 ok1 => ?_
    unfold kR2 at ok1
    split at ok1
    · split at ok1
      · rename_i hz
        obtain ⟨v, v', rfl, t, t'⟩ := t1.two
        obtain rfl := t.int_inv
        obtain rfl := t'.int_inv
        obtain ⟨z0, z3⟩ := Bool.and_eq_true_iff.mp hz
        exact ⟨_, _, rfl, ⟨(in62_ok z0).1, (in62_ok z0).2, (in62_ok z3).1, (in62_ok z3).2⟩, ok1 _ r1 H1 (Step.refl _ _) hr1 walk_rng⟩
      · exact ok1.elim
    · exact ok1.elim
def forGo (g : Option (Nat × GO)) (gv : Gv) (body : Sv) : List D → Env → AH → Fl
  | [], e, h => if guardOk g h then .nx e h else .stuck
  | d :: ds, e, h => if guardOk g h then match gv d e h with
    | .ok e1 h1 => match body e1 h1 with
      | .nx e2 h2 => forGo g gv body ds e2 h2
      | .cont e2 h2 => forGo g gv body ds e2 h2
      | .brk e2 h2 => .nx e2 h2
      | o => o
    | _ => .stuck
    else .stuck
def svFor (iv : Iv) (gv : Gv) (body : Sv) : Sv := fun e h => (iv e h).toFl e fun it h1 => forGo it.g gv body it.xs e h1
theorem den_for {tg iter : Expr} {body : List Stmt} {pos : Pos} {iv : Iv} {gv : Gv} {fb : Sv} (hp : PassesOwn (model X.prog X.w) X.A X.env X.xe) (hc : X.calm = true) (hi : DenI X W tg iter iv) (hg : DenG X tg gv) (hb : DenB X W body fb)
    (hs : ∀ x, foldedSetIterable iter X.env x = pure x := by intro _; rfl) : DenS X W (.For tg iter body [] pos) (svFor iv gv fb) :=
  PS.imp (ps_for hp hc hi hg hb hs) fun N σ H ⟨r, e, h, er, hr, ok⟩ => by
    unfold svFor at ok
    refine ⟨r, e, h, er, hr, ?_⟩
    cases hiv : iv e h with
    | stuck => rw [hiv] at ok; exact ok
    | exc x h1 => rw [hiv] at ok; exact fun c dx r' H' s q t => ok c dx σ r' H' s (er.mono s.mn) q t
    | ok it h1 =>
      rw [hiv, Out.toFl_ok] at ok
      intro J r1 H1 s1 hr1 ⟨G, Y, wk, wg, wy⟩
      refine for_it wk (fun i σ' H' => ∃ r' e' h', Step r1 H1 r' H' ∧ ERel X.K X.mg r' e' σ' H' ∧ HRel X.K X.mg r' h' H' ∧ OkS X.K X.mg W r' H' N (forGo it.g gv fb (it.xs.drop i) e' h'))
        ⟨r1, e, h1, Step.refl _ _, er.mono s1.mn, hr1, OkS.after s1 ok⟩ ?_ ?_ ?_
      · rintro i σ' H' hi ⟨r', e', h', s', er', hr', ok'⟩
        refine wg r' H' h' s' hr' ?_
        cases hd : it.xs.drop i with
        | nil =>
          rw [hd] at ok'
          simp only [forGo] at ok'
          split at ok'
          · assumption
          · exact ok'.elim
        | cons d ds =>
          rw [hd] at ok'
          simp only [forGo] at ok'
          split at ok'
          · assumption
          · exact ok'.elim
      · rintro i x σ' H' H2 hi ⟨r', e', h', s', er', hr', ok'⟩ hy
        have hd : it.xs.drop i = it.xs[i] :: it.xs.drop (i + 1) := List.drop_eq_getElem_cons hi
        rw [hd] at ok'
        simp only [forGo] at ok'
        split at ok'
        · rename_i hgd
          obtain ⟨s2, hr2, d, hd2, q2⟩ := wy i r' h' H' x H2 hi s' hr' hgd hy
          rw [List.getElem?_eq_getElem hi] at hd2
          cases hd2
          refine ⟨r', e', h', _, er'.mono s2.mn, hr2, q2, ?_⟩
          cases hgv : gv it.xs[i] e' h' with
          | stuck => rw [hgv] at ok'; exact ok'
          | exc => rw [hgv] at ok'; exact ok'
          | ok e3 h3 =>
            rw [hgv] at ok'
            dsimp only at ok'
            intro σ3 r3 H3 s3 er3 hr3
            refine ⟨r3, e3, h3, er3, hr3, ?_⟩
            have ok3 := OkS.after (s2.trans s3) ok'
            cases hbd : fb e3 h3 with
            | stuck => rw [hbd] at ok3; exact ok3
            | nx e4 h4 =>
              rw [hbd] at ok3
              exact fun σ4 r4 H4 s4 er4 hr4 => ⟨r4, e4, h4, ((s'.trans s2).trans s3).trans s4, er4, hr4, OkS.after s4 ok3⟩
            | cont e4 h4 =>
              rw [hbd] at ok3
              exact fun σ4 r4 H4 s4 er4 hr4 => ⟨r4, e4, h4, ((s'.trans s2).trans s3).trans s4, er4, hr4, OkS.after s4 ok3⟩
            | brk e4 h4 => rw [hbd] at ok3; exact ok3
            | ret d h4 => rw [hbd] at ok3; exact ok3
            | exc x e4 h4 => rw [hbd] at ok3; exact ok3
        · exact ok'.elim
      · rintro σ' H' ⟨r', e', h', s', er', hr', ok'⟩
        rw [List.drop_length] at ok'
        simp only [forGo] at ok'
        split at ok'
        · exact ok' σ' r' H' (Step.refl _ _) er' hr'
        · exact ok'.elim
def svWhile (t : Tv) (body : Sv) : Nat → Sv
  | 0, _, _ => .stuck
  | n + 1, e, h => (t e h).toFl e fun b h1 => if b then match body e h1 with
      | .nx e2 h2 => svWhile t body n e2 h2
      | .cont e2 h2 => svWhile t body n e2 h2
      | .brk e2 h2 => .nx e2 h2
      | o => o
    else .nx e h1
theorem den_while {c : Expr} {body : List Stmt} {pos : Pos} {t : Tv} {fb : Sv} {n : Nat} (hp : PassesOwn (model X.prog X.w) X.A X.env X.xe) (hc : DenT X W c t) (hb : DenB X W body fb) : DenS X W (.While c body [] pos) (svWhile t fb n) :=
  PS.imp (ps_while hp hc hb) fun N σ H ⟨r, e, h, er, hr, ok⟩ => by
    refine ⟨fun m σ' H' => ∃ r' e' h', ERel X.K X.mg r' e' σ' H' ∧ HRel X.K X.mg r' h' H' ∧ OkS X.K X.mg W r' H' N (svWhile t fb m e' h'), ⟨n, r, e, h, er, hr, ok⟩, ?_⟩
    rintro m σ' H' ⟨r', e', h', er', hr', ok'⟩
    cases m with
    | zero => exact ok'.elim
    | succ m =>
      simp only [svWhile] at ok'
      refine rdT_bindS er' hr' ok' fun b h1 r1 H1 s1 hr1 er1 ok1 => ?_
      cases b with
      | false => rw [if_neg Bool.false_ne_true]; exact ok1 σ' r1 H1 (Step.refl _ _) er1 hr1
      | true =>
        rw [if_pos rfl]
        refine ⟨fun σ4 H4 => ∃ r4 e4 h4, ERel X.K X.mg r4 e4 σ4 H4 ∧ HRel X.K X.mg r4 h4 H4 ∧ OkS X.K X.mg W r4 H4 N (svWhile t fb m e4 h4), fun σ4 H4 z => ⟨m, Nat.lt_succ_self m, z⟩, r1, e', h1, er1, hr1, ?_⟩
        rw [if_pos rfl] at ok1
        cases hbd : fb e' h1 with
        | stuck => rw [hbd] at ok1; exact ok1
        | nx e4 h4 => rw [hbd] at ok1; exact fun σ4 r4 H4 s4 er4 hr4 => ⟨r4, e4, h4, er4, hr4, OkS.after s4 ok1⟩
        | cont e4 h4 => rw [hbd] at ok1; exact fun σ4 r4 H4 s4 er4 hr4 => ⟨r4, e4, h4, er4, hr4, OkS.after s4 ok1⟩
        | brk e4 h4 => rw [hbd] at ok1; exact ok1
        | ret d h4 => rw [hbd] at ok1; exact ok1
        | exc x e4 h4 => rw [hbd] at ok1; exact ok1
end
end BW

set_option Elab.async false
set_option linter.all false
set_option maxRecDepth 100000
set_option maxHeartbeats 4000000
namespace BW
open PySem PySem.Spec PyProof.Rows L2
variable [Tb]
def wipeE (e : Env) : List Nat → Env
  | [] => e
  | v :: vs => (wipeE e vs).set v none
def lcGo (g : Option (Nat × GO)) (gv : Gv) (tt : Tv) (elt : Ev) (e : Env) : List D → AH → Out (List D)
  | [], h => if guardOk g h then .ok [] h else .stuck
  | d :: ds, h => if guardOk g h then match gv d e h with
    | .ok e1 h1 => match tt e1 h1 with
      | .ok true h2 => match pv elt e1 h2 with
        | .ok y h3 => (lcGo g gv tt elt e ds h3).bind fun ys h4 => .ok (y :: ys) h4
        | _ => .stuck
      | .ok false h2 => lcGo g gv tt elt e ds h2
      | _ => .stuck
    | _ => .stuck
    else .stuck
def evLc (iv : Iv) (own : List Nat) (gv : Gv) (tt : Tv) (elt : Ev) : Ev := fun e h => (iv e h).bind fun it h1 => if it.xs.length < 16777216 then (lcGo it.g gv tt elt (wipeE e own) it.xs h1).bind fun ds h2 => .ok (.tl ds) h2 else .stuck
def tvYes : Tv := fun _ h => .ok true h
inductive Tgt where
  | one (i : Nat)
  | two (i j : Nat)
  | three (i j k : Nat)
def Tgt.gv : Tgt → Gv
  | .one i => gvName i
  | .two i j => gvTup [gvName i, gvName j]
  | .three i j k => gvTup [gvName i, gvName j, gvName k]
def Tgt.own : Tgt → List Nat
  | .one i => [i]
  | .two i j => [i, j]
  | .three i j k => [i, j, k]
section
variable {X : Cx} {W : Wx}
abbrev W0 : Wx := fun _ _ _ _ => False
theorem wipe_set {σ : L2.St} {v : Option V} {i : Nat} : ∀ {vs : List Nat}, i ∈ vs → wipe (σ.set i v) vs = wipe σ vs
  | [], h => by cases h
  | w :: vs, h => by
    unfold wipe
    by_cases hm : i ∈ vs
    · rw [wipe_set hm]
    · rcases List.mem_cons.mp h with rfl | h
      · have : ∀ (ws : List Nat), i ∉ ws → wipe (σ.set i v) ws = (wipe σ ws).set i v := by
          intro ws
          induction ws with
          | nil => intro _; rfl
          | cons a ws ih =>
            intro hn
            unfold wipe
            rw [ih (fun z => hn (List.mem_cons_of_mem _ z)), List.set_comm _ _ (fun z => hn (by rw [z]; exact List.mem_cons_self))]
        rw [this vs hm, List.set_set]
      · exact absurd h hm
theorem wipe_sub {σ : L2.St} : ∀ (vs ws : List Nat), (∀ v ∈ vs, v ∈ ws) → L2.wipe (L2.wipe σ vs) ws = L2.wipe σ ws
  | [], _, _ => rfl
  | v :: vs, ws, h => by
    show L2.wipe ((L2.wipe σ vs).set v none) ws = _
    rw [wipe_set (h v List.mem_cons_self)]
    exact wipe_sub vs ws fun z hz => h z (List.mem_cons_of_mem _ hz)
theorem ERel.wipe {K : PySem.W.Frag} {mg : Str → Option Value} {r : List Addr} {e : Env} {σ : L2.St} {H : Hp} (q : ERel K mg r e σ H) : ∀ vs : List Nat, ERel K mg r (wipeE e vs) (L2.wipe σ vs) H
  | [] => q
  | v :: vs => by
    have ih := ERel.wipe q vs
    unfold wipeE L2.wipe
    refine ⟨by rw [List.length_set, List.length_set]; exact ih.len, fun j y hy => ?_⟩
    by_cases hj : v = j
    · subst hj
      rw [List.getElem?_set] at hy
      simp only [if_true] at hy
      split at hy <;> cases hy
    · rw [List.getElem?_set_ne hj] at hy ⊢
      exact ih.at_ j y hy
def Tgt.tg (K : PySem.W.Frag) : Tgt → TG
  | .one i => gName i
  | .two i j => gTup K 2 (gCons (gName i) (gCons (gName j) gNil))
  | .three i j k => gTup K 3 (gCons (gName i) (gCons (gName j) (gCons (gName k) gNil)))
theorem tgt_run {K : PySem.W.Frag} {mg : Str → Option Value} (tg : Tgt) {r : List Addr} {H : Hp} {σ : L2.St} {x : V} {d : D} {e e1 : Env} {h h1 : AH} {Q : L2.St → Hp → Prop} (z : tg.gv d e h = .ok e1 h1) (er : ERel K mg r e σ H) (q : Rel K mg r H x d)
    (k : ∀ σ1, ERel K mg r e1 σ1 H → L2.wipe σ1 tg.own = L2.wipe σ tg.own → h1 = h → Q σ1 H) : tg.tg K x σ H Q := by
  cases tg with
  | one i =>
    simp only [Tgt.gv, gvName] at z
    cases z
    exact k _ (er.set i q) (wipe_set (by simp [Tgt.own])) rfl
  | two i j =>
    simp only [Tgt.gv, gvTup] at z
    split at z
    · rename_i ds
      rcases ds with _ | ⟨a, _ | ⟨b, _ | ⟨c, ds⟩⟩⟩ <;> simp [gvs, gvName] at z
      obtain ⟨rfl, rfl⟩ := z
      obtain ⟨p, vs, rfl, h1, h2⟩ := RelU.tup_inv (RelT.val q : RelU K mg r H x _)
      cases h2 with
      | cons q1 h2 => cases h2 with
        | cons q2 h2 =>
          cases h2
          exact ⟨p, _, rfl, h1.sq, rfl, _, _, rfl, _, _, rfl, rfl, k _ ((er.set i q1).set j q2) (by rw [wipe_set (by simp [Tgt.own]), wipe_set (by simp [Tgt.own])]) rfl⟩
    · cases z
  | three i j l =>
    simp only [Tgt.gv, gvTup] at z
    split at z
    · rename_i ds
      rcases ds with _ | ⟨a, _ | ⟨b, _ | ⟨c, _ | ⟨c', ds⟩⟩⟩⟩ <;> simp [gvs, gvName] at z
      obtain ⟨rfl, rfl⟩ := z
      obtain ⟨p, vs, rfl, h1, h2⟩ := RelU.tup_inv (RelT.val q : RelU K mg r H x _)
      cases h2 with
      | cons q1 h2 => cases h2 with
        | cons q2 h2 => cases h2 with
          | cons q3 h2 =>
            cases h2
            exact ⟨p, _, rfl, h1.sq, rfl, _, _, rfl, _, _, rfl, _, _, rfl, rfl, k _ (((er.set i q1).set j q2).set l q3) (by rw [wipe_set (by simp [Tgt.own]), wipe_set (by simp [Tgt.own]), wipe_set (by simp [Tgt.own])]) rfl⟩
    · cases z
theorem Step.mutNew {r r' : List Addr} {H H' : Hp} {p : Addr} {o : HO} (s : Step r H r' H') (h0 : H p = none) : Step r H r' (upd H' p o) where
  pre := s.pre
  new := s.new
  keep := fun b u e hb ho => by rw [upd_ne (ne_of_none e h0)]; exact s.keep b u e hb ho
  stay := fun b f => by
    by_cases hb : b = p
    · rw [hb]; exact .of h0
    · exact s.stay b fun u e => f u (by rw [upd_ne hb]; exact e)
  frz := fun b u w e => by rw [upd_ne (ne_of_none e h0)]; exact s.frz b u w e
theorem Mn.mutNew {r : List Addr} {H : Hp} {p : Addr} {u o : HO} (hp : H p = some u) (hf : ¬ Fixed u) : Mn r H r (upd H p o) :=
  ⟨List.prefix_refl _, fun b w e hb hw => ⟨hb, by
    have ne : b ≠ p := fun z => by subst z; rw [hp] at e; cases e; exact hf hw
    rw [upd_ne ne]; exact e⟩⟩
theorem Mo.mutNew {r : List Addr} {H : Hp} {p : Addr} {u o : HO} (hp : H p = some u) (hf : ¬ Fixed u) (hn : NoOwn u) (ho : ∀ ps, o ≠ .tbl ps := by intro _ z; cases z) : Mo r H r (upd H p o) :=
  ⟨Mn.mutNew hp hf, fun b y e hb => ⟨hb, by
    have ne : b ≠ p := fun z => by subst z; rw [hp] at e; cases e; exact hn.1 y rfl
    rw [upd_ne ne]; exact e⟩, fun b y e hb => ⟨hb, by
    have ne : b ≠ p := fun z => by subst z; rw [hp] at e; cases e; exact hn.2 y rfl
    rw [upd_ne ne]; exact e⟩⟩
theorem HRel.mutNew {K : PySem.W.Frag} {mg : Str → Option Value} {r : List Addr} {h : AH} {H : Hp} {p : Addr} {u o : HO} (q : HRel K mg r h H) (hn : p ∉ r) (hp : H p = some u) (hf : ¬ Fixed u) (ho : NoOwn u) (ht : ∀ ps, o ≠ .tbl ps := by intro _ z; cases z) : HRel K mg r h (upd H p o) :=
  q.mono (Mo.mutNew hp hf ho ht) fun a ha => upd_ne fun z => hn (z ▸ ha)
theorem Mn.trans {r r1 r2 : List Addr} {H H1 H2 : Hp} (s : Mn r H r1 H1) (t : Mn r1 H1 r2 H2) : Mn r H r2 H2 :=
  ⟨s.pre.trans t.pre, fun b o h hb ho => t.keep b o (s.keep b o h hb ho).2 (s.keep b o h hb ho).1 ho⟩
theorem rd_lc {K : PySem.W.Frag} {mg : Str → Option Value} {iv : Iv} {tg : Tgt} {tt : Tv} {elt : Ev} {σ : L2.St} {H : Hp} {Q : VK} (q : rdE K mg W (evLc iv tg.own tg.gv tt elt) σ H Q) : tLc (rdI K mg W iv) (tg.tg K) (rdT K mg W0 tt) (rdV K mg W0 (pv elt)) tg.own σ H Q := by
  obtain ⟨r, e, h, er, hr, ok⟩ := q
  unfold evLc at ok
  refine ⟨r, e, h, er, hr, ?_⟩
  cases hiv : iv e h with
  | stuck => rw [hiv] at ok; exact ok
  | exc x h1 => rw [hiv] at ok; exact ok
  | ok it h1 =>
    rw [hiv, Out.bind_ok] at ok
    intro J r1 H1 s1 hr1 ⟨G, Y, wk, wg, wy⟩ A hA
    split at ok
    · rename_i hlen
      have sA : Step r1 H1 r1 (upd H1 A (.lst [])) := Step.alloc hA
      -- what is left to be done behind the rest
      refine lc_it wk (fun i H' => ∃ r' h' acc ys, Step r1 H1 r' H' ∧ A ∉ r' ∧ H' A = some (.lst acc) ∧ acc.length ≤ i ∧ Rels K mg r' H' acc ys ∧ HRel K mg r' h' H' ∧
          OkE K mg W σ r H Q ((lcGo it.g tg.gv tt elt (wipeE e tg.own) (it.xs.drop i) h').bind fun ds h2 => .ok (.tl (ys ++ ds)) h2))
        ⟨r1, h1, [], [], sA, fun z => hr1.there z hA, upd_same, Nat.le_refl _, .nil, hr1.alloc hA, by simpa using ok⟩ ?_ ?_ ?_
      · rintro i H' hi ⟨r', h', acc, ys, s', hn, hacc, hle, hys, hr', ok'⟩
        refine wg r' H' h' s' hr' ?_
        cases hd : it.xs.drop i with
        | nil =>
          rw [hd] at ok'
          simp only [lcGo] at ok'
          split at ok'
          · assumption
          · exact ok'.elim
        | cons d ds =>
          rw [hd] at ok'
          simp only [lcGo] at ok'
          split at ok'
          · assumption
          · exact ok'.elim
      · rintro i x H' H2 hi ⟨r', h', acc, ys, s', hn, hacc, hle, hys, hr', ok'⟩ hy
        have hd : it.xs.drop i = it.xs[i] :: it.xs.drop (i + 1) := List.drop_eq_getElem_cons hi
        rw [hd] at ok'
        simp only [lcGo] at ok'
        split at ok'
        · rename_i hgd
          obtain ⟨s2, hr2, d, hd2, q2⟩ := wy i r' h' H' x H2 hi s' hr' hgd hy
          rw [List.getElem?_eq_getElem hi] at hd2
          cases hd2
          have er2 : ERel K mg r' (wipeE e tg.own) (L2.wipe σ tg.own) H2 := (er.mono ((s1.trans s').trans s2).mn).wipe _
          cases hgv : tg.gv it.xs[i] (wipeE e tg.own) h' with
          | stuck => rw [hgv] at ok'; exact ok'.elim
          | exc => rw [hgv] at ok'; exact ok'.elim
          | ok e3 h3 =>
            rw [hgv] at ok'
            dsimp only at ok'
            refine tgt_run tg hgv er2 q2 fun σ3 er3 hw3 eh => ⟨by rw [hw3, wipe_sub _ _ fun _ z => z], ?_⟩
            subst eh
            refine ⟨r', e3, h3, er3, hr2, ?_⟩
            have hacc2 : H2 A = some (.lst acc) := s2.keep _ _ hacc hn NoOwn.of
            cases htt : tt e3 h3 with
            | stuck => rw [htt] at ok'; exact ok'.elim
            | exc => rw [htt] at ok'; exact ok'.elim
            | ok b h4 =>
              rw [htt] at ok'
              intro r4 H4 s4 hr4
              have hacc4 : H4 A = some (.lst acc) := s4.keep _ _ hacc2 hn NoOwn.of
              have hn4 : A ∉ r4 := s4.notin hn hacc2 NoOwn.of
              have s14 : Step r1 H1 r4 H4 := (s'.trans s2).trans s4
              cases b with
              | false =>
                rw [if_neg Bool.false_ne_true]
                exact ⟨r4, h4, acc, ys, s14, hn4, hacc4, Nat.le_succ_of_le hle, hys.mono (s2.trans s4).mn, hr4, ok'⟩
              | true =>
                rw [if_pos rfl]
                dsimp only at ok'
                refine ⟨r4, e3, h4, er3.mono s4.mn, hr4, ?_⟩
                cases hel : pv elt e3 h4 with
                | stuck => rw [hel] at ok'; exact ok'.elim
                | exc => rw [hel] at ok'; exact ok'.elim
                | ok y h5 =>
                  rw [hel] at ok'
                  intro v5 r5 H5 s5 hr5 q5
                  have hacc5 : H5 A = some (.lst acc) := s5.keep _ _ hacc4 hn4 NoOwn.of
                  have hn5 : A ∉ r5 := s5.notin hn4 hacc4 NoOwn.of
                  have m5 : Mn r5 H5 r5 (upd H5 A (.lst (acc ++ [v5]))) := Mn.mutNew hacc5 (fun z => z)
                  refine ⟨acc, hacc5, Nat.lt_of_le_of_lt hle (Nat.lt_trans hi hlen), r5, h5, acc ++ [v5], ys ++ [y], (s14.trans s5).mutNew hA, hn5, upd_same, by rw [List.length_append, List.length_singleton]; omega, ?_, hr5.mutNew hn5 hacc5 (fun z => z) NoOwn.of, ?_⟩
                  · exact (((hys.mono (s2.trans s4).mn).mono s5.mn).mono m5).append (.cons (q5.mono m5) .nil)
                  · dsimp only at ok'
                    cases hrest : lcGo it.g tg.gv tt elt (wipeE e tg.own) (it.xs.drop (i + 1)) h5 with
                    | stuck => rw [hrest] at ok'; exact ok'
                    | exc => rw [hrest] at ok'; exact ok'
                    | ok zs h6 =>
                      rw [hrest] at ok'
                      simp only [Out.bind_ok, List.append_assoc, List.cons_append, List.nil_append] at ok' ⊢
                      exact ok'
        · exact ok'.elim
      · rintro H' ⟨r', h', acc, ys, s', hn, hacc, hle, hys, hr', ok'⟩
        rw [List.drop_length] at ok'
        simp only [lcGo] at ok'
        split at ok'
        · simp only [Out.bind_ok, List.append_nil] at ok'
          exact ok' _ r' H' (s1.trans s') hr' (.tl (s1.stay _ (.of hA)) hacc hn hys)
        · exact ok'.elim
    · exact ok.elim
end
end BW

set_option Elab.async false
set_option linter.all false
set_option maxRecDepth 100000
set_option maxHeartbeats 4000000
namespace BW
open PySem PySem.Spec PyProof.Rows L2
variable [Tb]
section
variable {X : Cx} {W : Wx}
theorem PTs.imp {ifs : List Expr} {t t' : TT} (h : PTs X ifs t) (q : ∀ σ H Q, t' σ H Q → t σ H Q) : PTs X ifs t' := ⟨fun pins s σ H Q I z => h.run pins s σ H Q I (q σ H Q z)⟩
abbrev DenTs (X : Cx) (ifs : List Expr) (tt : Tv) : Prop := PTs X ifs (rdT X.K X.mg W0 tt)
theorem den_noif : DenTs X [] tvYes := PTs.imp pts_nil fun σ H Q ⟨r, e, h, er, hr, ok⟩ => ok r H (Step.refl _ _) hr
theorem den_oneif {c : Expr} {t : Tv} (h : DenT X W0 c t) : DenTs X [c] t := pts_one h
theorem den_lc {elt tgE iter : Expr} {ifs : List Expr} {scope : Scope} {own : List (Str × Nat)} {pos : Pos} {iv : Iv} (t : Tgt) {tt : Tv} {el : Ev} (hc : X.calm = true) (hN : X.N.Nodup) (hi : DenI X W tgE iter iv) (hown : own.map (·.2) = t.own) (ok : BlkOk X.N X.env.scope scope own)
    (hg : ∀ (s : Shared) (H : Hp) (C : Addr) (cl : List (Str × Addr)) (fp : List Addr), PG (X.blk s H scope (compEnvC scope cl C X.env) fp) tgE (t.tg X.K)) (ht : ∀ (s : Shared) (H : Hp) (C : Addr) (cl : List (Str × Addr)) (fp : List Addr), DenTs (X.blk s H scope (compEnvC scope cl C X.env) fp) ifs tt)
    (he : ∀ (s : Shared) (H : Hp) (C : Addr) (cl : List (Str × Addr)) (fp : List Addr), DenE (X.blk s H scope (compEnvC scope cl C X.env) fp) W0 elt el) (hs : ∀ x, foldedSetIterable iter X.env x = pure x := by intro _; rfl) :
    DenE X W (.ListComp elt [⟨tgE, iter, ifs, 0⟩] scope pos) (evLc iv t.own t.gv tt el) :=
  PE.imp (pe_lc hc hN hi ok hg ht (fun s H C cl fp => den_pv (he s H C cl fp)) hs) fun σ H Q q => by
    rw [hown]
    exact rd_lc q
theorem den_setLc {i : Nat} {y : Str} {py : Pos} {elt tgE iter : Expr} {ifs : List Expr} {scope : Scope} {own : List (Str × Nat)} {pos spos : Pos} {iv : Iv} (t : Tgt) {tt : Tv} {el : Ev} (hc : X.calm = true) (hN : X.N.Nodup) (hy : X.N[i]? = some y) (hyl : X.env.scope.names.lookup y = some .local)
    (hsw : swapsWith (.ListComp elt [⟨tgE, iter, ifs, 0⟩] scope pos) (some (.Name y py)) spos.line X.env = pure true) (hi : DenI X W tgE iter iv) (hown : own.map (·.2) = t.own) (ok : BlkOk X.N X.env.scope scope own)
    (hg : ∀ (s : Shared) (H : Hp) (C : Addr) (cl : List (Str × Addr)) (fp : List Addr), PG (X.blk s H scope (compEnvC scope cl C X.env) fp) tgE (t.tg X.K)) (ht : ∀ (s : Shared) (H : Hp) (C : Addr) (cl : List (Str × Addr)) (fp : List Addr), DenTs (X.blk s H scope (compEnvC scope cl C X.env) fp) ifs tt)
    (he : ∀ (s : Shared) (H : Hp) (C : Addr) (cl : List (Str × Addr)) (fp : List Addr), DenE (X.blk s H scope (compEnvC scope cl C X.env) fp) W0 elt el) (hs : ∀ x, foldedSetIterable iter X.env x = pure x := by intro _; rfl) :
    DenS X W (.Assign [.Name y py] (.ListComp elt [⟨tgE, iter, ifs, 0⟩] scope pos) spos) (svAsg (evLc iv t.own t.gv tt el) (gvName i)) :=
  PS.imp (ps_setLc hc hN hy hyl hsw hi ok hg ht (fun s H C cl fp => den_pv (he s H C cl fp)) hs) fun N σ H q => by
    rw [hown]
    obtain ⟨r, e, h, er, hr, ok⟩ := q
    unfold svAsg pv at ok
    refine rd_lc (W := W) (mg := X.mg) (tt := tt) (elt := el) ⟨r, e, h, er, hr, ?_⟩
    cases hf : evLc iv t.own t.gv tt el e h with
    | stuck => rw [hf] at ok; exact ok
    | exc x h1 => rw [hf] at ok; exact fun c dx r' H' s q t => ok c dx σ r' H' s (er.mono s.mn) q t
    | ok d h1 =>
      rw [hf] at ok
      intro v r1 H1 s hr1 t
      cases t with
      | @val v d q =>
        have e0 : promote d h1 = .ok d h1 := by cases q <;> rfl
        rw [Out.bind_ok, e0] at ok
        exact ok _ r1 H1 s ((er.mono s.mn).set i q) hr1
      | @tl p vs xs a b c q =>
        obtain ⟨g1, g2⟩ := push_ok hr1 b c q
        have s2 := Step.push c s a
        exact ok _ _ H1 s2 ((er.mono s2.mn).set i g2) g1
end
def fin (h : AH) (d : D) (h' : AH) : Out D := match promote d h' with
  | .ok d1 h1 => if d1.lt h.length && oldOk h.length h h1 then .ok d1 (h1.take h.length) else .ok d1 h1
  | o => o
def finX (h : AH) (x : D) (h' : AH) : Out D := if x.lt h.length && oldOk h.length h h' then .exc x (h'.take h.length) else .exc x h'
def startE (n : Nat) (ds : List D) : Env := ds.map some ++ List.replicate (n - ds.length) none
def fnD (n : Nat) (body : Sv) : Fd := fun ds h => match body (startE n ds) h with
  | .ret d h' => fin h d h'
  | .nx _ h' => fin h .non h'
  | .exc x _ h' => finX h x h'
  | _ => .stuck
section
variable (K : PySem.W.Frag) (mg : Str → Option Value)
def OkF (r : List Addr) (H : Hp) (Q : VK) (E : XK) : Out D → Prop
  | .stuck => False
  | .ok d h' => ∀ v r' H', Step r H r' H' → HRel K mg r' h' H' → Rel K mg r' H' v d → Q v H'
  | .exc x h' => ∀ c dx r' H', Step r H r' H' → HRel K mg r' h' H' → ExRel K mg r' H' c dx x → E c dx H'
def spF (n : Nat) (d : Fd) : Sp := fun vs H Q E => ∃ r h ds, HRel K mg r h H ∧ Rels K mg r H vs ds ∧ ds.length = n ∧ OkF K mg r H Q E (d ds h)
end
section
variable {K : PySem.W.Frag} {mg : Str → Option Value}
theorem Step.cut {r r' : List Addr} {H H' : Hp} (s : Step r H r' H') : Step r H r H' := ⟨List.prefix_refl _, fun _ a b => absurd a b, s.keep, s.stay, s.frz⟩
theorem ExRel.cut {r r1 : List Addr} {H : Hp} {c : Value} {dx : Option Addr} {x : D} (hp : r <+: r1) (q : ExRel K mg r1 H c dx x) (z : x.lt r.length = true) : ExRel K mg r H c dx x := by
  cases q with
  | e0 h => exact .e0 h
  | e1 h hf hn hd q => exact .e1 h hf (fun z => hn (hp.subset z)) hd (q.cut hp (by simpa only [D.lt, D.lts, Bool.and_true] using z))
theorem fin_ok {r r1 : List Addr} {H H1 : Hp} {h h1 : AH} {v : V} {d : D} {Q : VK} {E : XK} (hr : HRel K mg r h H) (s : Step r H r1 H1) (hr1 : HRel K mg r1 h1 H1) (q : Rel K mg r1 H1 v d)
    (ok : OkF K mg r H Q E (if d.lt h.length && oldOk h.length h h1 then .ok d (h1.take h.length) else .ok d h1)) : Q v H1 := by
  split at ok
  · rename_i hz
    obtain ⟨z1, z2⟩ := Bool.and_eq_true_iff.mp hz
    rw [← hr.len] at z1 z2 ok
    exact ok v r H1 s.cut (hr.cutOld hr1 s.pre z2) (q.cut s.pre z1)
  · exact ok v r1 H1 s hr1 q
theorem fn_end {W : Wx} {n : Nat} {body : Sv} {r : List Addr} {H : Hp} {h : AH} {ds : List D} {Q : VK} {E : XK} (hr : HRel K mg r h H) (hW : ∀ c dx σ H, E c dx H → W c dx σ H) (ok : OkF K mg r H Q E (fnD n body ds h)) :
    OkS K mg W r H { nx := fun _ H' => Q .non H', rt := Q } (body (startE n ds) h) := by
  unfold fnD at ok
  cases hb : body (startE n ds) h with
  | stuck => rw [hb] at ok; exact ok
  | brk => rw [hb] at ok; exact ok.elim
  | cont => rw [hb] at ok; exact ok.elim
  | nx e' h' =>
    rw [hb] at ok
    exact fun σ' r' H' s er hr' => fin_ok (d := .non) hr s hr' .non ok
  | ret d h' =>
    rw [hb] at ok
    intro v r' H' s hr' t
    cases t with
    | @val v d q =>
      have e0 : promote d h' = .ok d h' := by cases q <;> rfl
      unfold fin at ok
      simp only [e0] at ok
      exact fin_ok hr s hr' q ok
    | @tl p vs xs a b c q =>
      obtain ⟨g1, g2⟩ := push_ok hr' b c q
      exact fin_ok hr (Step.push c s a) g1 g2 ok
  | exc x e' h' =>
    rw [hb] at ok
    intro c dx σ' r' H' s er hr' t
    dsimp only [finX] at ok
    split at ok
    · rename_i hz
      obtain ⟨z1, z2⟩ := Bool.and_eq_true_iff.mp hz
      rw [← hr.len] at z1 z2 ok
      exact hW _ _ _ _ (ok c dx r H' s.cut (hr.cutOld hr' s.pre z2) (t.cut s.pre z1))
    · exact hW _ _ _ _ (ok c dx r' H' s hr' t)
theorem start_rel {N : List Str} {r : List Addr} {H : Hp} {vs : List V} {ds : List D} (q : Rels K mg r H vs ds) : ERel K mg r (startE N.length ds) (L2.start N vs) H := by
  refine ⟨by unfold startE L2.start; simp [q.length], fun i x hx => ?_⟩
  unfold startE at hx
  unfold L2.start
  have hi : i < ds.length := by
    by_cases h : i < ds.length
    · exact h
    · rw [List.getElem?_append_right (by rw [List.length_map]; omega)] at hx
      simp [List.getElem?_replicate] at hx
  rw [List.getElem?_append_left (by rw [List.length_map]; exact hi), List.getElem?_map] at hx
  obtain ⟨y, hy1, hy2⟩ : ∃ y, ds[i]? = some y ∧ y = x := by
    cases e : ds[i]? with
    | none => rw [e] at hx; cases hx
    | some y => rw [e] at hx; cases hx; exact ⟨_, rfl, rfl⟩
  subst hy2
  obtain ⟨v, h1, h2⟩ := q.get' hy1
  refine ⟨v, ?_, h2⟩
  rw [List.getElem?_append_left (by rw [List.length_map, q.length]; exact hi), List.getElem?_map, h1]
  rfl
theorem fn_ok {P : Program} {w : World} {base : Heap} {x qual : Str} {st : Stmt} {f : Addr} {fd : FuncData} {N ps : List Str} {k : Nat} {body : Sv} (F : Fun K x qual st f fd) (S : FnScope N ps (defScope st))
    (hb : ∀ (cdv : Value) (A : Around) (outer : List PySem.Env) (s : Shared) (H : Hp) (E : XK), Room k (A.deeper (envOfC qual (defScope st) s.heap.objs.size f cdv)) →
      DenB (cxOf (L2.CX P w) P w K mg base N qual (defScope st) f cdv A outer s H E) (fun c dx _ H => E c dx H) (defBody st) body) : FnOk P w K mg base (L2.CX P w) (k + 1) f fd ps (spF K mg ps.length (fnD N.length body)) :=
  F.okX S (fun vs H Q E ⟨r, h, ds, hr, q, e, _⟩ => by rw [q.length, e]) fun cdv A outer s H vs Q E hr ⟨r, h, ds, hrel, q, e, ok⟩ =>
    ⟨_, hb cdv A outer s H E hr, r, startE N.length ds, h, start_rel q, hrel, fn_end hrel (fun _ _ _ _ z => z) ok⟩
end
def evCall (d : Fd) (fs : List Ev) : Ev := fun e h => (evsV fs e h).bind d
theorem evsV_len : ∀ {fs : List Ev} {e : Env} {h : AH} {ds : List D} {h1 : AH}, evsV fs e h = .ok ds h1 → ds.length = fs.length
  | [], _, _, _, _, z => by cases z; rfl
  | f :: fs, e, h, ds, h1, z => by
    unfold evsV at z
    cases hf : pv f e h with
    | stuck => rw [hf] at z; cases z
    | exc => rw [hf] at z; cases z
    | ok d h2 =>
      rw [hf, Out.bind_ok] at z
      cases hr : evsV fs e h2 with
      | stuck => rw [hr] at z; cases z
      | exc => rw [hr] at z; cases z
      | ok ds' h3 =>
        rw [hr, Out.bind_ok] at z
        cases z
        rw [List.length_cons, List.length_cons, evsV_len hr]
theorem rd_call {K : PySem.W.Frag} {mg : Str → Option Value} {W : Wx} {d : Fd} {fs : List Ev} {n : Nat} {σ : L2.St} {H : Hp} {Q : VK} (hn : fs.length = n) (q : rdE K mg W (evCall d fs) σ H Q) : rdVs K mg W (evsV fs) σ H fun vs H1 => spF K mg n d vs H1 Q (WE W σ) := by
  obtain ⟨r, e, h, er, hr, ok⟩ := q
  unfold evCall at ok
  refine ⟨r, e, h, er, hr, ?_⟩
  cases hf : evsV fs e h with
  | stuck => rw [hf] at ok; exact ok
  | exc x h1 => rw [hf] at ok; exact ok
  | ok ds h1 =>
    rw [hf, Out.bind_ok] at ok
    intro vs r1 H1 s1 hr1 t1
    refine ⟨r1, h1, ds, hr1, t1, by rw [evsV_len hf, hn], ?_⟩
    have ok1 := OkE.after s1 ok
    cases hd : d ds h1 with
    | stuck => rw [hd] at ok1; exact ok1
    | exc x h2 => rw [hd] at ok1; exact ok1
    | ok y h2 => rw [hd] at ok1; exact fun v r' H' s' hr' t => ok1 v r' H' s' hr' (.val t)
section
variable {X : Cx} {W : Wx}
theorem den_call {k n : Nat} {f : Addr} {fd : FuncData} {ps : List Str} {d : Fd} {x : Str} {p pos : Pos} {ex : Expr} {es : List Expr} {fs : List Ev} (F : FnOk X.prog X.w X.K X.mg X.base (L2.CX X.prog X.w) k f fd ps (spF X.K X.mg n d)) (hr : Room k X.A) (hg : Gl X x) (hm : X.mg x = some (.ref f))
    (hk : PySem.W.keepIn X.K (.ref f) = true) (hb : Binds X.K fd ps []) (tk : Takes X W) (ha : DenVs X W (ex :: es) (evsV fs)) (hn : fs.length = n := by rfl) (hdb : (x == ("__debug__" : Str)) = false := by decide)
    (he : starEach (ex :: es) X.env = (false, eval ex X.env) :: starEach es X.env := by rfl) (hpl : (backTo pos (starEach es X.env)).any (·.1) = false := by rfl) : DenE X W (.Call (.Name x p) (ex :: es) [] pos) (evCall d fs) :=
  PE.imp (pe_callS F hr hg hm hk hb (fun σ => passAt tk σ) ha hdb he hpl) fun σ H Q q => rd_call hn q
end
end BW

set_option Elab.async false
set_option linter.all false
set_option maxRecDepth 100000
set_option maxHeartbeats 4000000
namespace BW
open PySem PySem.Spec PyProof.Rows L2
variable [Tb]
structure Bi (mg : Str → Option Value) : Prop where
  len : mg "len" = none
  tuple : mg "tuple" = none
  list : mg "list" = none
  int : mg "int" = none
  range : mg "range" = none
  enumerate : mg "enumerate" = none
  zip : mg "zip" = none
  isinstance : mg "isinstance" = none
  all : mg "all" = none
  any : mg "any" = none
  sum : mg "sum" = none
  min : mg "min" = none
  max : mg "max" = none
  sorted : mg "sorted" = none
  repr : mg "repr" = none
  str : mg "str" = none
  set : mg "set" = none
  bool : mg "bool" = none
  super : mg "super" = none
  valueError : mg "ValueError" = none
  overflowError : mg "OverflowError" = none
def Fn (P : Program) (w : World) (K : PySem.W.Frag) (mg : Str → Option Value) (base : Heap) (x : Str) (k n : Nat) (d : Fd) : Prop :=
  ∃ f fd ps, FnOk P w K mg base (L2.CX P w) k f fd ps (spF K mg n d) ∧ Binds K fd ps [] ∧ mg x = some (.ref f) ∧ PySem.W.keepIn K (.ref f) = true
section
variable {P : Program} {w : World} {K : PySem.W.Frag} {mg : Str → Option Value} {base : Heap}
theorem fn_mk {x qual : Str} {st : Stmt} {f : Addr} {fd : FuncData} {N ps : List Str} (k : Nat) {body : Sv} (F : Fun K x qual st f fd) (m : mg x = some (.ref f)) (S : FnScope N ps (defScope st)) (b : Binds K fd ps [])
    (hb : ∀ (cdv : Value) (A : Around) (outer : List PySem.Env) (s : Shared) (H : Hp) (E : XK), Room k (A.deeper (envOfC qual (defScope st) s.heap.objs.size f cdv)) →
      DenB (cxOf (L2.CX P w) P w K mg base N qual (defScope st) f cdv A outer s H E) (fun c dx _ H => E c dx H) (defBody st) body) : Fn P w K mg base x (k + 1) ps.length (fnD N.length body) :=
  ⟨f, fd, ps, fn_ok F S hb, b, m, F.kp⟩
end
section
variable {X : Cx} {W : Wx}
theorem dv (i : Nat) {x : Str} {pos : Pos} (hN : X.N[i]? = some x := by rfl) (hv : Vis X.env.scope x := by first | exact Or.inl rfl | exact Or.inr (Or.inl rfl) | exact Or.inr (Or.inr rfl)) (hd : (x == ("__debug__" : Str)) = false := by decide) (hcd : (x == ("__classdict__" : Str)) = false := by decide) : DenE X W (.Name x pos) (evVar i) := den_var hN hv hd hcd
theorem den_callF {j k n : Nat} {d : Fd} {x : Str} {p pos : Pos} {ex : Expr} {es : List Expr} {fs : List Ev} (F : Fn X.prog X.w X.K X.mg X.base x k n d) (hr : Room j X.A) (tk : Takes X W) (ha : DenVs X W (ex :: es) (evsV fs)) (hjk : k ≤ j := by decide) (hg : Gl X x := by rfl)
    (hn : fs.length = n := by rfl) (hdb : (x == ("__debug__" : Str)) = false := by decide)
    (he : starEach (ex :: es) X.env = (false, eval ex X.env) :: starEach es X.env := by rfl) (hpl : (backTo pos (starEach es X.env)).any (·.1) = false := by rfl) : DenE X W (.Call (.Name x p) (ex :: es) [] pos) (evCall d fs) := by
  obtain ⟨f, fd, ps, h1, h2, h3, h4⟩ := F
  exact den_call h1 (hr.mono hjk) hg h3 h4 h2 tk ha hn hdb he hpl
end
end BW

set_option Elab.async false
set_option linter.all false
set_option maxRecDepth 100000
set_option maxHeartbeats 4000000
namespace BW
open PySem PySem.Spec PyProof.Rows L2
variable [Tb]
def setAll : Env → List Nat → List D → Option Env
  | e, [], [] => some e
  | e, i :: is, d :: ds => setAll (e.set i (some d)) is ds
  | _, _, _ => none
def svPar (fs : List Ev) (ix : List Nat) : Sv := fun e h => (evsV fs e h).toFl e fun ds h1 => match setAll e ix ds with
  | some e1 => .nx e1 h1
  | none => .stuck
section
variable {X : Cx} {W : Wx}
theorem rdVs_bindS {K : PySem.W.Frag} {mg : Str → Option Value} {σ : L2.St} {r : List Addr} {e : Env} {H : Hp} {h : AH} {f : Av} {k : List D → AH → Fl} {N : Ends} {Q' : List V → Hp → Prop} (er : ERel K mg r e σ H) (hr : HRel K mg r h H) (ok : OkS K mg W r H N ((f e h).toFl e k))
    (hk : ∀ d h1 v r1 H1, Step r H r1 H1 → HRel K mg r1 h1 H1 → Rels K mg r1 H1 v d → ERel K mg r1 e σ H1 → OkS K mg W r1 H1 N (k d h1) → Q' v H1) : rdVs K mg W f σ H Q' := by
  refine ⟨r, e, h, er, hr, ?_⟩
  cases hf : f e h with
  | stuck => rw [hf] at ok; exact ok
  | ok d h1 => rw [hf] at ok; exact fun v r1 H1 s q t => hk d h1 v r1 H1 s q t (er.mono s.mn) (OkS.after s ok)
  | exc x h1 => rw [hf] at ok; exact fun c dx r' H' s q t => ok c dx σ r' H' s (er.mono s.mn) q t
theorem den_par2 {i j : Nat} {x y : Str} {a b : Expr} {f g : Ev} {px py pt pos : Pos} {kt k2 pt2} (ha : DenVs X W [a, b] (evsV [f, g])) (hN : X.N.Nodup) (hi : X.N[i]? = some x) (hj : X.N[j]? = some y) (hij : i ≠ j := by decide) (hc : X.calm = true := by rfl)
    (hx : X.env.scope.names.lookup x = some .local := by rfl) (hy : X.env.scope.names.lookup y = some .local := by rfl)
    (hw : swappedStores [.Tuple [.Name x px, .Name y py] kt pt] (.Tuple [a, b] k2 pt2) X.env = pure (some [x, y]) := by rfl)
    (hs : swapsWithSole [.Tuple [.Name x px, .Name y py] kt pt] (.Tuple [a, b] k2 pt2) pos.line X.env = pure false := by rfl) :
    DenS X W (.Assign [.Tuple [.Name x px, .Name y py] kt pt] (.Tuple [a, b] k2 pt2) pos) (svPar [f, g] [i, j]) :=
  PS.imp (ps_par hc hN hi hj hij hx hy ha hw hs) fun N σ H ⟨r, e, h, er, hr, ok⟩ => by
    unfold svPar at ok
    refine rdVs_bindS er hr ok fun ds h1 vs r1 H1 s1 hr1 t1 er1 ok1 => ?_
    cases t1 with
    | nil => exact ok1.elim
    | cons q1 t1 => cases t1 with
      | nil => exact ok1.elim
      | cons q2 t1 => cases t1 with
        | nil => exact ⟨_, _, rfl, ok1 _ r1 H1 (Step.refl _ _) ((er1.set i q1).set j q2) hr1⟩
        | cons => exact ok1.elim
theorem evsV_cases2 {f g : Ev} {e : Env} {h : AH} {ds : List D} {h1 : AH} (z : evsV [f, g] e h = .ok ds h1) : ∃ a b, ds = [a, b] := by
  have := evsV_len z
  match ds, this with
  | [a, b], _ => exact ⟨a, b, rfl⟩
theorem par_eq2 {f g : Ev} {i j : Nat} : svPar [f, g] [i, j] = svAsg (evTup [f, g]) (gvTup [gvName i, gvName j]) := by
  funext e h
  unfold svPar svAsg pv evTup
  cases hz : evsV [f, g] e h with
  | stuck => rfl
  | exc => rfl
  | ok ds h1 =>
    obtain ⟨a, b, rfl⟩ := evsV_cases2 hz
    rfl
theorem den_parG2 {tg ex : Expr} {pos : Pos} {f g : Ev} {i j : Nat} (hf : DenE X W ex (evTup [f, g])) (hg : DenG X tg (gvTup [gvName i, gvName j])) (hs : swapsWithSole [tg] ex pos.line X.env = pure false := by rfl) (hw : swappedStores [tg] ex X.env = pure none := by rfl) (h1 : (assignEach [tg] X.env).map (·.2) = [assign tg X.env] := by rfl) : DenS X W (.Assign [tg] ex pos) (svPar [f, g] [i, j]) := by
  rw [par_eq2]; exact den_asg hf hg hs hw h1
def svAug (i : Nat) (op : Int → Int → Int) (f : Ev) : Sv := fun e h => match e[i]? with
  | some (some (.int a)) => (f e h).toFl e fun d h1 => match d with
    | .int b => .nx (e.set i (some (.int (op a b)))) h1
    | _ => .stuck
  | _ => .stuck
def keyD : D → Option Key
  | .int i => some (.inl i)
  | .str x => some (.inr x)
  | _ => none
def keysD : D → Option (List Key)
  | .tup xs => allK keyD xs
  | _ => none
section
variable {κ β : Type} [DecidableEq κ]
def valD (kvs : List (κ × β)) (k : κ) : Option β := (kvs.find? fun kv => decide (kv.1 = k)).map (·.2)
def putD (kvs : List (κ × β)) (k : κ) (v : β) : List (κ × β) :=
  if (kvs.any fun kv => decide (kv.1 = k)) then kvs.map (fun kv => if kv.1 = k then (kv.1, v) else kv) else kvs ++ [(k, v)]
end
theorem RelK.val {K : PySem.W.Frag} {mg : Str → Option Value} {r : List Addr} {H : Hp} {k : Key} : ∀ {vs : List (Key × V)} {xs : List (Key × D)} {x : D}, RelK K mg r H vs xs → valD xs k = some x → ∃ v, valV vs k = some v ∧ Rel K mg r H v x
  | _, _, _, .nil, e => by cases e
  | _, _, x, @RelK.cons _ _ _ _ k' v y vs xs q t, e => by
    unfold valD at e
    unfold valV
    by_cases hk : k' = k
    · simp only [List.find?_cons, hk, decide_true, Option.map_some] at e ⊢
      cases e
      exact ⟨v, rfl, q⟩
    · simp only [List.find?_cons, hk, decide_false] at e ⊢
      exact RelK.val t e
theorem RelKT.val {K : PySem.W.Frag} {mg : Str → Option Value} {r : List Addr} {H : Hp} {k : List Key} : ∀ {vs : List (List Key × V)} {xs : List (List Key × D)} {x : D}, RelKT K mg r H vs xs → valD xs k = some x → ∃ v, valV vs k = some v ∧ Rel K mg r H v x
  | _, _, _, .nil, e => by cases e
  | _, _, x, @RelKT.cons _ _ _ _ k' v y vs xs q t, e => by
    unfold valD at e
    unfold valV
    by_cases hk : k' = k
    · simp only [List.find?_cons, hk, decide_true, Option.map_some] at e ⊢
      cases e
      exact ⟨v, rfl, q⟩
    · simp only [List.find?_cons, hk, decide_false] at e ⊢
      exact RelKT.val t e
theorem RelK.any {K : PySem.W.Frag} {mg : Str → Option Value} {r : List Addr} {H : Hp} {k : Key} : ∀ {vs : List (Key × V)} {xs : List (Key × D)}, RelK K mg r H vs xs → (vs.any fun kv => decide (kv.1 = k)) = (xs.any fun kv => decide (kv.1 = k))
  | _, _, .nil => rfl
  | _, _, .cons q t => by simp only [List.any_cons, RelK.any t]
theorem RelK.mapPut {K : PySem.W.Frag} {mg : Str → Option Value} {r : List Addr} {H : Hp} {k : Key} {v : V} {x : D} (q : Rel K mg r H v x) : ∀ {vs : List (Key × V)} {xs : List (Key × D)}, RelK K mg r H vs xs → RelK K mg r H (vs.map fun kv => if kv.1 = k then (kv.1, v) else kv) (xs.map fun kv => if kv.1 = k then (kv.1, x) else kv)
  | _, _, .nil => .nil
  | _, _, @RelK.cons _ _ _ _ k' _ _ _ _ q' t => by
    simp only [List.map_cons]
    by_cases hk : k' = k
    · simp only [hk, if_true]; exact .cons q (RelK.mapPut q t)
    · simp only [hk, if_false]; exact .cons q' (RelK.mapPut q t)
theorem RelK.append {K : PySem.W.Frag} {mg : Str → Option Value} {r : List Addr} {H : Hp} : ∀ {vs vs' : List (Key × V)} {xs xs' : List (Key × D)}, RelK K mg r H vs xs → RelK K mg r H vs' xs' → RelK K mg r H (vs ++ vs') (xs ++ xs')
  | _, _, _, _, .nil, q => q
  | _, _, _, _, .cons h t, q => .cons h (RelK.append t q)
theorem RelK.put {K : PySem.W.Frag} {mg : Str → Option Value} {r : List Addr} {H : Hp} {k : Key} {v : V} {x : D} {vs : List (Key × V)} {xs : List (Key × D)} (t : RelK K mg r H vs xs) (q : Rel K mg r H v x) : RelK K mg r H (putK vs k v) (putD xs k x) := by
  unfold putK putD
  rw [t.any]
  split
  · exact t.mapPut q
  · exact t.append (.cons q .nil)
theorem RelK.length {K : PySem.W.Frag} {mg : Str → Option Value} {r : List Addr} {H : Hp} : ∀ {vs : List (Key × V)} {xs : List (Key × D)}, RelK K mg r H vs xs → vs.length = xs.length
  | _, _, .nil => rfl
  | _, _, .cons _ t => by simp only [List.length_cons, RelK.length t]
theorem key_rel {K : PySem.W.Frag} {mg : Str → Option Value} {r : List Addr} {H : Hp} {v : V} {d : D} {k : Key} (e : keyD d = some k) (q : RelU K mg r H v d) : v = kV k := by
  cases d with
  | int i => cases e; exact q.int_inv
  | str x => cases e; exact q.str_inv
  | _ => cases e
theorem keys_rel {K : PySem.W.Frag} {mg : Str → Option Value} {r : List Addr} {H : Hp} : ∀ {vs : List V} {xs : List D} {ks : List Key}, allK keyD xs = some ks → Rels K mg r H vs xs → vs = ks.map kV
  | _, _, _, e, .nil => by cases e; rfl
  | _, _, _, e, .cons q t => by
    unfold allK at e
    split at e
    · rename_i a as h1 h2
      cases e
      rw [key_rel h1 (.val q), keys_rel h2 t]; rfl
    · cases e
def dgD (h : AH) (o k : D) : Option D := match o with
  | .ref n => match h[n]? with
    | some (.dk kvs) => (keyD k).bind fun q => valD kvs q
    | some (.dt kvs) => (keysD k).bind fun q => valD kvs q
    | _ => none
  | _ => none
def evDg (f g : Ev) : Ev := fun e h => (f e h).bind fun o h1 => (g e h1).bind fun k h2 => ofO (dgD h2 o k) h2
theorem den_dg {o i : Expr} {pos : Pos} {f g : Ev} (hu : X.A.units + 1 < cLine) (ho : DenE X W o f) (hi : DenE X W i g) (hs : NoSl i := by exact fun _ _ => rfl) : DenE X W (.Subscript o i pos) (evDg f g) :=
  PE.imp (pe_dget hu ho hi hs) fun σ H Q ⟨r, e, h, er, hr, ok⟩ => by
    unfold evDg at ok
    refine rdE_bind er hr ok fun x h1 v r1 H1 s1 hr1 t1 er1 ok1 => ?_
    refine rdE_bind er1 hr1 ok1 fun y h2 w r2 H2 s2 hr2 t2 er2 ok2 => ?_
    have t1' := t1.mono s2
    unfold dgD at ok2
    split at ok2
    · rename_i n
      cases t1' with
      | val t1' =>
        cases t1' with
        | @ref n a hn =>
          split at ok2
          · rename_i kvs hk
            obtain ⟨vs, z1, z2⟩ := hr2.obj _ _ _ hk hn
            cases hq : keyD y with
            | none => rw [hq] at ok2; exact ok2.elim
            | some q =>
              rw [hq] at ok2
              cases hv : valD kvs q with
              | none => simp only [Option.bind_some, hv] at ok2; exact ok2.elim
              | some d =>
                simp only [Option.bind_some, hv] at ok2
                obtain ⟨u, z3, z4⟩ := z2.val hv
                obtain rfl := key_rel hq t2.u
                exact ⟨a, u, rfl, z3 ▸ DGet.k z1, ok2 _ r2 H2 (Step.refl _ _) hr2 (.val z4)⟩
          · rename_i kvs hk
            obtain ⟨vs, z1, z2⟩ := hr2.obj _ _ _ hk hn
            cases hq : keysD y with
            | none => rw [hq] at ok2; exact ok2.elim
            | some q =>
              rw [hq] at ok2
              cases hv : valD kvs q with
              | none => simp only [Option.bind_some, hv] at ok2; exact ok2.elim
              | some d =>
                simp only [Option.bind_some, hv] at ok2
                obtain ⟨u, z3, z4⟩ := z2.val hv
                cases y with
                | tup xs =>
                  obtain ⟨b, ws, rfl, y1, y2⟩ := t2.u.tup_inv
                  obtain rfl := keys_rel hq y2
                  exact ⟨a, u, rfl, z3 ▸ DGet.t z1 y1.2, ok2 _ r2 H2 (Step.refl _ _) hr2 (.val z4)⟩
                | _ => cases hq
          · exact ok2.elim
    · exact ok2.elim
def svDput (fo fi fv : Ev) : Sv := fun e h => (pv fv e h).toFl e fun d h1 => (fo e h1).toFl e fun o h2 => (fi e h2).toFl e fun k h3 => match o with
  | .ref n => match h3[n]?, keyD k with
    | some (.dk kvs), some q => if kvs.length < 16777216 then .nx e (h3.set n (.dk (putD kvs q d))) else .stuck
    | _, _ => .stuck
  | _ => .stuck
theorem den_dput {o i ex : Expr} {pos pos' : Pos} {fo fi fv : Ev} (hu : X.A.units + 1 < cLine) (ho : DenE X W o fo) (hi : DenE X W i fi) (hv : DenE X W ex fv) (hs : swapsWith ex (some (.Subscript o i pos')) pos.line X.env = pure false := by rfl) : DenS X W (.Assign [.Subscript o i pos'] ex pos) (svDput fo fi fv) :=
  PS.imp (ps_dput hu ho hi (den_pv hv) hs) fun N σ H ⟨r, e, h, er, hr, ok⟩ => by
    unfold svDput at ok
    refine rdV_bindS er hr ok fun d h1 v r1 H1 s1 hr1 t1 er1 ok1 => ?_
    refine rdE_bindS er1 hr1 ok1 fun x h2 w r2 H2 s2 hr2 t2 er2 ok2 => ?_
    refine rdE_bindS er2 hr2 ok2 fun y h3 u r3 H3 s3 hr3 t3 er3 ok3 => ?_
    split at ok3
    · rename_i n
      split at ok3
      · rename_i kvs q hk hq
        split at ok3
        · rename_i hz
          have t2' := t2.mono s3
          cases t2' with
          | val t2' =>
            cases t2' with
            | @ref n a hn =>
              obtain ⟨vs, z1, z2⟩ := hr3.obj _ _ _ hk hn
              obtain rfl := key_rel hq t3.u
              have ha : a ∈ r3 := List.mem_of_getElem? hn
              have t1' := (t1.mono s2.mn).mono s3.mn
              have s4 : Step r3 H3 r3 (upd H3 a (.dK (putK vs q v))) := Step.mut ha (by rw [z1]; exact fun _ _ z => nomatch z)
              refine ⟨a, _, rfl, DPut.k z1 (by rw [z2.length]; exact hz), ok3 σ r3 _ s4 (er3.mono s4.mn) ?_⟩
              exact hr3.put (ob := .dk (putD kvs q d)) hn ⟨putK vs q v, upd_same, (z2.put t1').mono s4.mn⟩
        · exact ok3.elim
      · exact ok3.elim
    · exact ok3.elim
end
end BW

set_option Elab.async false
set_option linter.all false
set_option maxRecDepth 100000
set_option maxHeartbeats 4000000
namespace BW
open PySem PySem.Spec PyProof.Rows L2
variable [Tb]
def evPairs : List (Ev × Ev) → Env → AH → Out (List (Key × D))
  | [], _, h => .ok [] h
  | (k, v) :: ps, e, h => (k e h).bind fun kd h1 => (pv v e h1).bind fun d h2 => match keyD kd with
    | some q => (evPairs ps e h2).bind fun kvs h3 => .ok ((q, d) :: kvs) h3
    | none => .stuck
def mergeD (kvs : List (Key × D)) : List (Key × D) := kvs.foldl (fun acc kv => putD acc kv.1 kv.2) []
def evDisp (ps : List (Ev × Ev)) : Ev := fun e h => (evPairs ps e h).bind fun kvs h1 => if kvs.length ≤ 15 then .ok (.ref h1.length) (h1 ++ [.dk (mergeD kvs)]) else .stuck
section
variable {X : Cx} {W : Wx}
theorem RelK.merge {K : PySem.W.Frag} {mg : Str → Option Value} {r : List Addr} {H : Hp} : ∀ {vs : List (Key × V)} {xs : List (Key × D)} {as : List (Key × V)} {bs : List (Key × D)}, RelK K mg r H vs xs → RelK K mg r H as bs → RelK K mg r H (vs.foldl (fun acc kv => putK acc kv.1 kv.2) as) (xs.foldl (fun acc kv => putD acc kv.1 kv.2) bs)
  | _, _, _, _, .nil, q => q
  | _, _, _, _, .cons h t, q => by
    simp only [List.foldl_cons]
    exact RelK.merge t (q.put h)
def rdPs (K : PySem.W.Frag) (mg : Str → Option Value) (W : Wx) (ps : List (Ev × Ev)) : List (TE × TE) := ps.map fun p => (rdE K mg W p.1, rdV K mg W (pv p.2))
abbrev DenPs (X : Cx) (W : Wx) (pos : Pos) (keys : List (Option Expr)) (values : List Expr) (ps : List (Ev × Ev)) : Prop := PPs X pos keys values (rdPs X.K X.mg W ps)
theorem den_ppnil {pos : Pos} : DenPs X W pos [] [] [] := pps_nil
theorem den_ppcons {pos : Pos} {k v : Expr} {ks : List (Option Expr)} {vs : List Expr} {fk fv : Ev} {ps : List (Ev × Ev)} (hk : DenE X W k fk) (hv : DenE X W v fv) (hr : DenPs X W pos ks vs ps) : DenPs X W pos (some k :: ks) (v :: vs) ((fk, fv) :: ps) := pps_cons hk (den_pv hv) hr
theorem pairs_ok {K : PySem.W.Frag} {mg : Str → Option Value} {σ : L2.St} {e : Env} {G : Out (List (Key × D)) → Prop} : ∀ {ps : List (Ev × Ev)} {r : List Addr} {H : Hp} {h : AH} {Q : List (V × V) → Hp → Prop}, ERel K mg r e σ H → HRel K mg r h H → evPairs ps e h ≠ .stuck →
    (∀ x h1, evPairs ps e h = .exc x h1 → ∀ c dx r' H', Step r H r' H' → HRel K mg r' h1 H' → ExRel K mg r' H' c dx x → W c dx σ H') →
    (∀ kvs h1, evPairs ps e h = .ok kvs h1 → ∀ (vs : List (Key × V)) r' H', Step r H r' H' → HRel K mg r' h1 H' → RelK K mg r' H' vs kvs → Q (vs.map fun kv => (kV kv.1, kv.2)) H') → tPairs (rdPs K mg W ps) σ H Q
  | [], r, H, h, Q, er, hr, h0, hx, hk => hk [] h rfl [] r H (Step.refl _ _) hr .nil
  | (k, v) :: ps, r, H, h, Q, er, hr, h0, hx, hk => by
    show rdE K mg W k σ H fun x H1 => rdV K mg W (pv v) σ H1 fun y H2 => tPairs (rdPs K mg W ps) σ H2 fun qs H3 => Q ((x, y) :: qs) H3
    refine ⟨r, e, h, er, hr, ?_⟩
    simp only [evPairs] at h0 hx hk
    cases hfk : k e h with
    | stuck => rw [hfk] at h0; exact absurd rfl h0
    | exc x h1 => rw [hfk] at hx; exact hx x h1 rfl
    | ok kd h1 =>
      rw [hfk] at h0 hx hk
      simp only [Out.bind_ok] at h0 hx hk
      intro v1 r1 H1 s1 hr1 t1
      refine ⟨r1, e, h1, er.mono s1.mn, hr1, ?_⟩
      cases hfv : pv v e h1 with
      | stuck => rw [hfv] at h0; exact absurd rfl h0
      | exc x h2 => rw [hfv] at hx; exact fun c dx r' H' s => hx x h2 rfl c dx r' H' (s1.trans s)
      | ok d h2 =>
        rw [hfv] at h0 hx hk
        simp only [Out.bind_ok] at h0 hx hk
        intro v2 r2 H2 s2 hr2 t2
        have s12 := s1.trans s2
        cases hq : keyD kd with
        | none => rw [hq] at h0; exact absurd rfl h0
        | some q =>
          rw [hq] at h0 hx hk
          dsimp only at h0 hx hk
          obtain rfl := key_rel hq (t1.mono s2).u
          refine pairs_ok (G := G) (er.mono s12.mn) hr2 (fun z => ?_) (fun x h3 z => ?_) fun kvs h3 z vs r' H' s hr' q' => ?_
          · rw [z] at h0; exact absurd rfl h0
          · rw [z] at hx; exact fun c dx r' H' s => hx x h3 rfl c dx r' H' (s12.trans s)
          · rw [z] at hk
            exact hk ((q, d) :: kvs) h3 rfl ((q, v2) :: vs) r' H' (s12.trans s) hr' (.cons (t2.mono s.mn) q')
theorem den_disp {keys : List (Option Expr)} {values : List Expr} {pos : Pos} {ps : List (Ev × Ev)} (h : DenPs X W pos keys values ps) (hall : keys.all (·.isSome) = true := by rfl) (hl : keys.length = values.length := by rfl) (h0 : keys ≠ [] := by exact fun z => by cases z) (h15 : keys.length ≤ 15 := by decide) : DenE X W (.Dict keys values pos) (evDisp ps) :=
  PE.imp (pe_disp h hall hl h0 h15) fun σ H Q ⟨r, e, h, er, hr, ok⟩ => by
    unfold evDisp at ok
    intro p hp
    have sA : Step r H r (upd H p (.dK [])) := Step.alloc hp
    have hn : p ∉ r := fun z => hr.there z hp
    refine pairs_ok (G := fun _ => True) (er.mono sA.mn) (hr.alloc hp) (fun z => by rw [z] at ok; exact ok) (fun x h1 z => by rw [z] at ok; exact fun c dx r' H' s => ok c dx r' H' (sA.trans s)) fun kvs h1 z vs r1 H1 s1 hr1 q1 => ?_
    rw [z, Out.bind_ok] at ok
    split at ok
    · rename_i hz
      have hp1 : H1 p = some (.dK []) := s1.keep p _ upd_same hn NoOwn.of
      have hn1 : p ∉ r1 := s1.notin hn upd_same NoOwn.of
      refine ⟨hp1, vs, rfl, by rw [q1.length]; exact hz, ?_⟩
      have m2 : Mn r1 H1 r1 (upd H1 p (.dK (mergeK [] vs))) := Mn.mutNew hp1 fun z => z
      have hr2 := hr1.mutNew (o := .dK (mergeK [] vs)) hn1 hp1 (fun z => z) NoOwn.of
      have m3 : Mo r1 (upd H1 p (.dK (mergeK [] vs))) (r1 ++ [p]) (upd H1 p (.dK (mergeK [] vs))) := Mo.push upd_same (fun z => z) NoOwn.of
      have s3 : Step r H (r1 ++ [p]) (upd H1 p (.dK (mergeK [] vs))) := Step.push hn1 ((sA.trans s1).mutNew hp) (.of hp)
      refine ok _ _ _ s3 (hr2.push (ob := .dk (mergeD kvs)) hn1 m3 ⟨_, upd_same, ?_⟩) (.val (.ref ?_))
      · exact ((RelK.merge q1 .nil).mono m2).mono m3.toMn
      · rw [← hr1.len, List.getElem?_append_right (Nat.le_refl _), Nat.sub_self]; rfl
    · exact ok.elim
def evAppend (f g : Ev) : Ev := fun e h => (f e h).bind fun o h1 => match o with
  | .ref n => match h1[n]? with
    | some (.lst _) => (pv g e h1).bind fun d h2 => match h2[n]? with
      | some (.lst xs) => if xs.length < 16777216 then .ok .non (h2.set n (.lst (xs ++ [d]))) else .stuck
      | _ => .stuck
    | _ => .stuck
  | _ => .stuck
theorem PAone {ex : Expr} {t : TE} (h : PE X ex t) (hs : starEach [ex] X.env = (false, eval ex X.env) :: starEach [] X.env := by rfl) : PA X [ex] (tCons t tNil) := pa_cons h pa_nil hs
theorem hnlist {h1 : AH} {n : Nat} {K : PySem.W.Frag} {mg : Str → Option Value} {r : List Addr} {H : Hp} {v : V} (hr : HRel K mg r h1 H) (t : RelU K mg r H v (.ref n)) {xs : List D} (e : h1[n]? = some (.lst xs)) : ∃ a vs, v = .ref a ∧ r[n]? = some a ∧ H a = some (.lst vs) ∧ Rels K mg r H vs xs := by
  cases t with
  | val t => cases t with
    | @ref n a hn =>
      obtain ⟨vs, z1, z2⟩ := hr.obj _ _ _ e hn
      exact ⟨a, vs, rfl, hn, z1, z2⟩
theorem den_append {o ex : Expr} {apos cpos : Pos} {f g : Ev} (ho : DenE X W o f) (hg : DenE X W ex g)
    (hbase : attributeBase o "append" X.env (eval o X.env) = eval o X.env := by rfl)
    (hfew : ((backTo cpos (starEach [ex] X.env)).all (fun z => !z.1) && (backToKw cpos (keywordEach [] X.env)).all (fun z => z.1.isSome) && decide ([ex].length + ([] : List Keyword).length + (if ([] : List Keyword).isEmpty then 0 else 1) < 30)) = true := by rfl)
    (hline : (apos.endLine == cpos.line) = true := by rfl) (hs : starEach [ex] X.env = (false, eval ex X.env) :: starEach [] X.env := by rfl) (hplain : (backTo cpos (starEach [] X.env)).any (·.1) = false := by rfl) :
    DenE X W (.Call (.Attribute o "append" apos) [ex] [] cpos) (evAppend f g) :=
  PE.imp (pe_bm PySem.F.plainAttrs_list PySem.F.slot_list_append PySem.F.type_list_append mt_append ho (PAone (den_pv hg) hs) hbase hfew hline hs hplain) fun σ H Q ⟨r, e, h, er, hr, ok⟩ => by
    unfold evAppend at ok
    refine rdE_bind er hr ok fun x h1 v r1 H1 s1 hr1 t1 er1 ok1 => ?_
    split at ok1
    · rename_i n
      split at ok1
      · rename_i zs hz
        obtain ⟨a, vs, rfl, hn, y1, y2⟩ := hnlist hr1 t1.u hz
        refine ⟨.inl ⟨rfl, vs, .inl (.inl y1)⟩, rdV_bind er1 hr1 ok1 fun d h2 w r2 H2 s2 hr2 t2 er2 ok2 => ?_⟩
        split at ok2
        · rename_i xs hx
          split at ok2
          · rename_i hl
            have hn2 := s2.get hn
            obtain ⟨ws, y3, y4⟩ := hr2.obj _ _ _ hx hn2
            have ha : a ∈ r2 := List.mem_of_getElem? hn2
            have s3 : Step r2 H2 r2 (upd H2 a (.lst (ws ++ [w]))) := Step.mut ha (by rw [y3]; exact fun _ _ z => nomatch z)
            refine ⟨a, ws, w, rfl, rfl, y3, by rw [y4.length]; exact hl, ok2 _ r2 _ s3 ?_ (.val .non)⟩
            exact hr2.put (ob := .lst (xs ++ [d])) hn2 ⟨_, upd_same, (y4.append (.cons t2 .nil)).mono s3.mn⟩
          · exact ok2.elim
        · exact ok2.elim
      · exact ok1.elim
    · exact ok1.elim
def tyD (h : AH) : D → Option String
  | .non => some "NoneType"
  | .bl _ => some "bool"
  | .int _ => some "int"
  | .str _ => some "str"
  | .tup _ => some "tuple"
  | .tl _ => some "list"
  | .rl _ => some "list"
  | .ref n => match h[n]? with
    | some (.lst _) => some "list"
    | some (.dk _) => some "dict"
    | some (.dt _) => some "dict"
    | _ => none
  | _ => none
def isiD (T t : String) : Bool := t == T || (t == "bool" && T == "int")
def evIsi (Ts : List String) (f : Ev) : Ev := fun e h => (f e h).bind fun d h1 => match tyD h1 d with
  | some t => .ok (.bl (Ts.any fun T => isiD T t)) h1
  | none => .stuck
theorem tyX_of {K : PySem.W.Frag} {mg : Str → Option Value} {r : List Addr} {h : AH} {H : Hp} {v : V} {d : D} {t : String} (hr : HRel K mg r h H) (q : RelU K mg r H v d) (e : tyD h d = some t) : TyX K H v (.type t) ∧ t ∈ ["NoneType", "bool", "int", "str", "tuple", "list", "dict"] := by
  cases q with
  | tl a b c q => cases e; exact ⟨.base (.lst b), by decide⟩
  | val q => cases q with
    | non => cases e; exact ⟨.base .non, by decide⟩
    | bl b => cases e; exact ⟨.base (.bl b), by decide⟩
    | int b => cases e; exact ⟨.base (.int b), by decide⟩
    | str b => cases e; exact ⟨.base (.str b), by decide⟩
    | tup h1 h2 => cases e; exact ⟨.base (.tup h1.2), by decide⟩
    | ref hn =>
      simp only [tyD] at e
      split at e
      · rename_i xs hx
        cases e
        obtain ⟨vs, z1, _⟩ := hr.obj _ _ _ hx hn
        exact ⟨.base (.lst z1), by decide⟩
      · rename_i xs hx
        cases e
        obtain ⟨vs, z1, _⟩ := hr.obj _ _ _ hx hn
        exact ⟨.base (.dK z1), by decide⟩
      · rename_i xs hx
        cases e
        obtain ⟨vs, z1, _⟩ := hr.obj _ _ _ hx hn
        exact ⟨.base (.dT z1), by decide⟩
      · cases e
    | rl h1 h2 =>
      cases e
      rcases h1 with ⟨_, o, h1⟩ | h1
      · exact ⟨.base (.frz h1), by decide⟩
      · rcases h1 (fun _ => none) with (h1 | ⟨o, h1⟩) | ⟨o, its, n, h1, h2, _⟩
        · cases h1
        · cases h1
        · exact ⟨.kList h1 h2, by decide⟩
    | _ => cases e
theorem kit_all {K : PySem.W.Frag} {T t : String} (hT : T ∈ ["bool", "int", "str", "tuple", "list"]) (ht : t ∈ ["NoneType", "bool", "int", "str", "tuple", "list", "dict"]) : PySem.W.kitOne K (.type t) (.type T) = some (isiD T t) := by
  refine kit_ty ?_
  simp only [List.mem_cons, List.not_mem_nil, or_false] at hT ht
  rcases hT with rfl | rfl | rfl | rfl | rfl <;> rcases ht with rfl | rfl | rfl | rfl | rfl | rfl | rfl <;> decide +kernel
theorem den_isi {x : Str} {Ts : String} {a : Expr} {p p2 pos : Pos} {f : Ev} (hg : Gl X "isinstance") (hm : X.mg "isinstance" = none) (hg2 : Gl X x) (hm2 : X.mg x = none) (hv : bootBuiltins x = some (.type Ts)) (ha : DenE X W a f) (hT : Ts ∈ ["bool", "int", "str", "tuple", "list"] := by decide)
    (hn2 : x ≠ "__name__" := by decide) (hdb2 : (x == ("__debug__" : Str)) = false := by decide)
    (he : starEach [a, .Name x p2] X.env = (false, eval a X.env) :: starEach [.Name x p2] X.env := by rfl) (hpl : (backTo pos (starEach [.Name x p2] X.env)).any (·.1) = false := by rfl) (he2 : starEach [.Name x p2] X.env = (false, eval (.Name x p2) X.env) :: starEach [] X.env := by rfl) :
    DenE X W (.Call (.Name "isinstance" p) [a, .Name x p2] [] pos) (evIsi [Ts] f) :=
  PE.imp (pe_callB call_isi hg hm (by decide +kernel) (pa_cons ha (pa_cons (pe_bltn (v := .ty Ts) hg2 hm2 hv rfl hn2 hdb2) pa_nil he2) he) (by decide) (by decide) he hpl) fun σ H Q ⟨r, e, h, er, hr, ok⟩ => by
    unfold evIsi at ok
    refine rdE_bind er hr ok fun d h1 v r1 H1 s1 hr1 t1 er1 ok1 => ?_
    split at ok1
    · rename_i t ht
      obtain ⟨z1, z2⟩ := tyX_of hr1 t1.u ht
      refine ⟨v, .ty Ts, .type t, .type Ts, isiD Ts t, rfl, .ty Ts, z1, kit_all hT z2, ?_⟩
      have := ok1 (.bl (isiD Ts t)) r1 H1 (Step.refl _ _) hr1
      simp only [List.any_cons, List.any_nil, Bool.or_false] at this
      exact this (.val (.bl _))
    · exact ok1.elim
theorem den_isiLT {a : Expr} {p p1 p2 pos pt : Pos} {kt : Nat} {f : Ev} (hg : Gl X "isinstance") (hm : X.mg "isinstance" = none) (hg1 : Gl X "list") (hm1 : X.mg "list" = none) (hg2 : Gl X "tuple") (hm2 : X.mg "tuple" = none) (ha : DenE X W a f)
    (he : starEach [a, .Tuple [.Name "list" p1, .Name "tuple" p2] kt pt] X.env = (false, eval a X.env) :: starEach [.Tuple [.Name "list" p1, .Name "tuple" p2] kt pt] X.env := by rfl) (hpl : (backTo pos (starEach [.Tuple [.Name "list" p1, .Name "tuple" p2] kt pt] X.env)).any (·.1) = false := by rfl)
    (he2 : starEach [.Tuple [.Name "list" p1, .Name "tuple" p2] kt pt] X.env = (false, eval (.Tuple [.Name "list" p1, .Name "tuple" p2] kt pt) X.env) :: starEach [] X.env := by rfl)
    (he3 : starEach [.Name "list" p1, .Name "tuple" p2] X.env = (false, eval (.Name "list" p1) X.env) :: starEach [.Name "tuple" p2] X.env := by rfl) (he4 : starEach [.Name "tuple" p2] X.env = (false, eval (.Name "tuple" p2) X.env) :: starEach [] X.env := by rfl) :
    DenE X W (.Call (.Name "isinstance" p) [a, .Tuple [.Name "list" p1, .Name "tuple" p2] kt pt] [] pos) (evIsi ["list", "tuple"] f) :=
  PE.imp (pe_callB call_isiT hg hm (by decide +kernel) (pa_cons ha (pa_cons (pe_tup (pa_cons (pe_bltn (v := .ty "list") hg1 hm1 (by decide +kernel) rfl) (pa_cons (pe_bltn (v := .ty "tuple") hg2 hm2 (by decide +kernel) rfl) pa_nil he4) he3)) pa_nil he2) he) (by decide) (by decide) he hpl) fun σ H Q ⟨r, e, h, er, hr, ok⟩ => by
    unfold evIsi at ok
    refine rdE_bind er hr ok fun d h1 v r1 H1 s1 hr1 t1 er1 ok1 => ?_
    split at ok1
    · rename_i t ht
      refine ⟨by decide, fun q hq => ?_⟩
      have s2 : Step r1 H1 r1 (upd H1 q (.tup [.ty "list", .ty "tuple"])) := Step.alloc hq
      obtain ⟨z1, z2⟩ := tyX_of (hr1.alloc hq) (t1.mono s2).u ht
      refine ⟨v, q, [.ty "list", .ty "tuple"], .type t, [.type "list", .type "tuple"], _, rfl, upd_same, .cons (.ty _) (.cons (.ty _) .nil), z1, ?_, ok1 _ r1 _ s2 (hr1.alloc hq) (.val (.bl _))⟩
      refine kitAny_cons (kit_all (by decide) z2) (fun e1 => kitAny_cons (kit_all (by decide) z2) (fun e2 => ?_) fun e2 => ?_) fun e1 => ?_
      · show some false = some _
        simp [e1, e2]
      · simp [e2]
      · simp [e1]
    · exact ok1.elim
end
end BW

set_option Elab.async false
set_option linter.all false
set_option maxRecDepth 100000
set_option maxHeartbeats 4000000
namespace BW
open PySem PySem.Spec PyProof.Rows L2
variable [Tb]
set_option maxHeartbeats 8000000 in
theorem meets_enumT {v : Value} {o : Obj} {H : Heap → Prop} (B : Begins v o H) :
    Meets (Builtin.«enumerate.__new__» ⟨[.type "enumerate", v], []⟩) (fun _ R s => H s.heap ∧
      R (.ok (.ret (.ref (s.heap.push o).objs.size))) { s with heap := (s.heap.push o).push { cls := .type "enumerate", data := .fields #[.none, .bool false, .ref s.heap.objs.size, rawInt 0, .none, .none] } }) :=
  .of_wp fun prog w A R s h => by
    obtain ⟨hp, g, d, tk, os⟩ := s
    obtain ⟨hH, h⟩ := h
    have hsub := sub_enumerate
    have go : ∀ {B' : Around} {E : Value → Shared → Prop} {Q : Value → Shared → Prop}, Q (.ref hp.objs.size) ⟨hp.push o, g, d, tk, os⟩ → wpAny (model prog w) B' (pyIter v) Q E ⟨hp, g, d, tk, os⟩ :=
      fun q => B.iter prog w _ _ ⟨hp, g, d, tk, os⟩ _ hH q
    wp_walk using go
    refine wpAny_stack_any fun st => wpAny_pure ?_
    split
    · rename_i c _ _ _ _ _
      cases (c == Value.type "enumerate") <;> (wp_walk using go; exact ⟨_, rfl, h⟩)
    · wp_walk using go
      exact ⟨_, rfl, h⟩
section
variable {prog : Program} {w : World} {A : Around} {E : Value → Shared → Prop} {s : Shared}
theorem call_enumT {v : Value} {o : Obj} {H : Heap → Prop} {Q : Value → Shared → Prop} (B : Begins v o H) (h1 : H s.heap)
    (h : ∀ h', IsEnum h' (s.heap.objs.size + 1) s.heap.objs.size 0 .none → h'.get? s.heap.objs.size = some o → (∀ b u, s.heap.get? b = some u → h'.get? b = some u) → Q (.ref (s.heap.objs.size + 1)) { s with heap := h' }) :
    wpAny (model prog w) A (call (.type "enumerate") [v]) Q E s := by
  refine callType_new F.called_enumerate (by decide) (F.typeCall_enumerate_1 _) (F.newCall_enumerate_1 _) (fun obj => F.args_object_init_2 obj _) F.entry_enumerate_new (meets_enumT B) ⟨h1, ?_⟩
  have hz : (s.heap.push o).objs.size = s.heap.objs.size + 1 := Heap.size_push ..
  show _ ∧ _
  rw [hz]
  have he : IsEnum ((s.heap.push o).push { cls := .type "enumerate", data := .fields #[.none, .bool false, .ref s.heap.objs.size, rawInt 0, .none, .none] }) (s.heap.objs.size + 1) s.heap.objs.size 0 .none := by
    have q := Heap.get?_push_size (s.heap.push o) (o := { cls := .type "enumerate", data := .fields #[.none, .bool false, .ref s.heap.objs.size, rawInt 0, .none, .none] }) rfl
    rw [hz] at q
    exact q
  exact ⟨⟨_, he, rfl⟩, h _ he (Heap.get?_push_of_some _ (Heap.get?_push_size _ B.free)) fun b u x => Heap.get?_push_of_some _ (Heap.get?_push_of_some _ x)⟩
end
def IteT (K : PySem.W.Frag) (a : Addr) : It :=
  ⟨fun i H => ∃ (xs : List V) (x : V), SqT K H a xs ∧ xs[i]? = some x, fun i H v H' => ∃ T x, v = .ref T ∧ H T = none ∧ H' = upd H T (.tup [.int (i : Nat), x]) ∧ ∀ xs, SqT K H a xs → xs[i]? = some x, fun i H => ∃ xs : List V, SqT K H a xs ∧ xs.length = i⟩
theorem turn_enumT {P : Program} {w : World} {K : PySem.W.Frag} {elts : List Expr} {kk : Nat} {tpos : Pos} (a e it : Addr) (hai : a ≠ it) :
    Turn P w K (.Tuple elts kk tpos) (IteT K a) [e, it] e (fun i h => (∃ old, IsEnum h e it ((i : Nat) : Int) old) ∧ h.IsTupleIter it a i ∧ e ≠ it) where
  mem := by simp
  obj := fun i h st b hb => by
    obtain ⟨⟨old, he⟩, ⟨o, ho, hc, hd⟩, _⟩ := st
    have e' : b = e ∨ b = it := by simpa using hb
    rcases e' with z | z
    · rw [z]; exact ⟨_, he, fun v q => nomatch q⟩
    · rw [z]; exact ⟨o, ho, fun v q => by rw [hd] at q; cases q⟩
  keep := fun i h h' st k => let ⟨⟨old, he⟩, hi, hne⟩ := st; ⟨⟨old, k e (by simp) _ he⟩, hi.at fun o q => k it (by simp) o q, hne⟩
  item := by
    intro X hP hw hK hc i pins s σ H E I hf st hg
    subst hP hw hK
    obtain ⟨⟨old, he⟩, hit, hne⟩ := st
    obtain ⟨xs, x, hq, hx⟩ := hg
    obtain ⟨its, rv, p, hz⟩ := I.tuple hq
    obtain ⟨u, hu, ru⟩ := rv.get hx
    have hel : e < s.heap.objs.size := Heap.lt_size he
    have hil : it < s.heap.objs.size := by obtain ⟨_, q, _⟩ := hit; exact Heap.lt_size q
    have hlt : i < its.toArray.size := by
      have := (List.getElem?_eq_some_iff.mp hu).1
      simpa using this
    have hea : e ≠ a := fun z => by
      obtain ⟨o, ho, hcl, _⟩ := (id p : IsTup s.heap a its.toArray)
      rw [← z] at ho
      have he2 : s.heap.get? e = some _ := he
      rw [ho] at he2
      cases he2
      exact absurd hcl (fun q => by injection q with q; exact absurd q (by decide))
    refine wpAny_pyNext_enum_itemD (Draws.tuple (A := X.A.in1) (I.ok.hd hc) it a hai its.toArray) he ⟨hit, p⟩ hlt hne (by simp [hne, hea]) fun y h' tk hP' ho hst' hT hsz hk => ?_
    have ey : y = u := by
      have : its.toArray[i]? = some u := by simpa using hu
      rw [this] at hP'
      exact (Option.some.inj hP').symm
    subst ey
    refine ⟨_, rfl, wpAny_letOwnedTupleGo_enum (s := { s with heap := h', toks := tk + 1 }) ho fun h'' he' sb => ?_⟩
    have hT2 : h''.get? s.heap.objs.size = some { cls := .type "tuple", data := .seq #[.int i tk, y] } := (sb.2 _ (Nat.ne_of_gt hel)).trans hT
    have new : ObjOk X.prog X.w (upd H s.heap.objs.size (.tup [.int (i : Nat), x])) h'' s.heap.objs.size (.tup [.int (i : Nat), x]) :=
      ⟨by show 2 ≤ sizeLine; decide, [.int i tk, y], .cons ⟨_, rfl⟩ (.cons ru .nil), ⟨_, hT2, rfl, _, rfl⟩⟩
    have I1 : Inv X pins σ (upd H s.heap.objs.size (.tup [.int (i : Nat), x])) { s with heap := h'', toks := tk + 1 } :=
      I.turnedNew (ch := [e, it]) (fun b ob hb q => (sb.2 b (fun z => hb (by simp [z]))).trans (hk b ob (fun z => hb (by simp [z])) (fun z => hb (by simp [z])) q)) hf (Nat.le_refl _) new
    refine ⟨.ref s.heap.objs.size, _, I1, rfl, ⟨_, x, rfl, I.hok.fresh (Nat.le_refl _), rfl, fun ys hy => by rw [I.tuple_inj hy hq]; exact hx⟩, ⟨⟨y, ?_⟩, hst'.1.at fun o q => (sb.2 it (Ne.symm hne)).trans q, hne⟩, fun b hb => ?_⟩
    · have e1 : ((i + 1 : Nat) : Int) = (i : Int) + 1 := by omega
      rw [e1]; exact he'
    · have hb' : b < s.heap.objs.size := by
        have e' : b = e ∨ b = it := by simpa using hb
        rcases e' with z | z
        · rw [z]; exact hel
        · rw [z]; exact hil
      rw [upd_ne (Nat.ne_of_lt hb')]
      exact (hf b hb).1
  done := by
    intro X hP hw hK hc i pins s σ H E I hf st hg
    subst hP hw hK
    obtain ⟨⟨old, he⟩, hit, hne⟩ := st
    obtain ⟨xs, hq, hx⟩ := hg
    obtain ⟨its, rv, p, hz⟩ := I.tuple hq
    obtain ⟨f0, f1, f2, f3, f4, f5⟩ := hf it (by simp)
    have hl := rv.length
    have hn : i = its.toArray.size := by rw [List.size_toArray, ← hl, hx]
    refine wpAny_pyNext_enum_endD (Draws.tuple (A := X.A.in1) (I.ok.hd hc) it a hai its.toArray) he ⟨hn ▸ hit, p⟩ fun h' eb => ⟨rfl, I.turned (t' := s.toks) (fun b o hb q => eb b o hb q) f0 f1 f3 f4 f5⟩
  self := fun A i s Q E st h => let ⟨⟨_, he⟩, _⟩ := st; wpAny_pyIter_enum he h
def iEnumT (K : PySem.W.Frag) (ta : TA) : TI := fun σ H R => ta σ H fun vs H1 => ∃ a xs, vs = [.ref a] ∧ SqT K H1 a xs ∧ R (IteT K a) H1
theorem pi_enumT {X : Cx} {e : Expr} {ta : TA} {p pos tpos : Pos} {elts : List Expr} {kk : Nat} (hg : Gl X "enumerate") (hm : X.mg "enumerate" = none) (ha : PA X [e] ta) (hs : starEach [e] X.env = [(false, eval e X.env)] := by rfl) :
    PI X (.Tuple elts kk tpos) (.Call (.Name "enumerate" p) [e] [] pos) (iEnumT X.K ta) := by
  refine ⟨fun pins s σ H R I h => ?_⟩
  refine Call_ (ld_blt I hg hm boot_enumerate (PyProof.Rows.callWith_type1 (thn (ha.run pos pins s σ H _ I h) fun us s1 ⟨vs, H1, I1, r1, q1⟩ => ?_) hs rfl))
  obtain ⟨a, xs, ex, hq, q⟩ := q1
  subst ex
  cases r1 with
  | cons r rr =>
    cases rr
    cases r
    obtain ⟨its, rv, p', hz⟩ := I1.tuple hq
    refine call_enumT (begins_tuple a its.toArray) p' fun h' he hit hk => wpAny_pyIter_enum he ?_
    have I2 : Inv X pins σ H1 { s1 with heap := h' } := I1.kept (t' := s1.toks) hk
    have hal : a < s1.heap.objs.size := by obtain ⟨_, q, _⟩ := id p'; exact Heap.lt_size q
    refine ⟨s1.heap.objs.size + 1, [s1.heap.objs.size + 1, s1.heap.objs.size], _, _, H1, rfl, I2, turn_enumT a (s1.heap.objs.size + 1) s1.heap.objs.size (Nat.ne_of_lt hal), ⟨⟨.none, he⟩, ⟨_, hit, rfl, rfl⟩, Nat.succ_ne_self _⟩, fun b hb => ?_, q⟩
    have e' : b = s1.heap.objs.size + 1 ∨ b = s1.heap.objs.size := by simpa using hb
    have hle : s1.heap.objs.size ≤ b := by
      rcases e' with z | z
      · rw [z]; exact Nat.le_add_right _ _
      · rw [z]; exact Nat.le_refl _
    exact I1.fpOk hle (I1.hok.fresh hle)
def enumD (xs : List D) : List D := xs.mapIdx fun i x => .tup [.int (i : Nat), x]
def zipD (xs ys : List D) : List D := List.zipWith (fun x y => .tup [x, y]) xs ys
def kEnum : List D → AH → Out Its
  | [d], h => match itsOf h d with
    | some it => .ok { xs := enumD it.xs, g := it.g } h
    | none => .stuck
  | _, _ => .stuck
def zipG : Option (Nat × GO) → Option (Nat × GO) → Option (Option (Nat × GO))
  | none, g => some g
  | g, none => some g
  | some (n, .lst xs), some (m, .lst ys) => some (some (n, .two xs m ys))
  | _, _ => none
def kZip : List D → AH → Out Its
  | [.tup xs, .tup ys], h => .ok { xs := zipD xs ys } h
  | [.tup _, _], _ => .stuck
  | [_, .tup _], _ => .stuck
  | [d, d'], h => match itsOf h d, itsOf h d' with
    | some it, some it' => match zipG it.g it'.g with
      | some g => .ok { xs := zipD it.xs it'.xs, g := g } h
      | none => .stuck
    | _, _ => .stuck
  | _, _ => .stuck
section
variable {X : Cx} {W : Wx}
theorem list_walk {K : PySem.W.Frag} {mg : Str → Option Value} {r : List Addr} {h : AH} {H : Hp} {v : V} {d : D} {it : Its} (hr : HRel K mg r h H) (q : RelU K mg r H v d) (e : itsOf h d = some it) (ht : ∀ xs, d ≠ .tup xs) :
    ∃ a vs, v = .ref a ∧ SqL K H a vs ∧ (∀ r' h' H', Step r H r' H' → HRel K mg r' h' H' → guardOk it.g h' = true → ∃ ws, SqL K H' a ws ∧ Rels K mg r' H' ws it.xs) := by
  cases q with
  | @tl p vs xs a b c q =>
    cases e
    exact ⟨p, vs, rfl, .inl (.inl b), fun r' h' H' s _ _ => ⟨vs, .inl (.inl (s.keep _ _ b c NoOwn.of)), q.mono s.mn⟩⟩
  | val q => cases q with
    | tup => exact absurd rfl (ht _)
    | @ref n a hn =>
      simp only [itsOf] at e
      split at e
      · rename_i xs hx
        cases e
        obtain ⟨vs, h1, h2⟩ := hr.obj _ _ _ hx hn
        refine ⟨a, vs, rfl, .inl (.inl h1), fun r' h' H' s hr' hg => ?_⟩
        simp only [guardOk, decide_eq_true_eq] at hg
        obtain ⟨ws, z1, z2⟩ := hr'.obj _ _ _ hg (s.get hn)
        exact ⟨ws, .inl (.inl z1), z2⟩
      · cases e
    | @rl a vs xs h1 h2 =>
      cases e
      exact ⟨a, vs, rfl, h1.sq, fun r' h' H' s _ _ => ⟨vs, (h1.mono s.mn).sq, h2.mono s.mn⟩⟩
    | _ => cases e
theorem pair_ok {K : PySem.W.Frag} {mg : Str → Option Value} {r1 : List Addr} {h1 : AH} {H1 H2 : Hp} {T : Addr} {x y : V} {d d' : D} (hr1 : HRel K mg r1 h1 H1) (hT : H1 T = none) (e : H2 = upd H1 T (.tup [x, y])) (q : Rel K mg r1 H1 x d) (q' : Rel K mg r1 H1 y d') :
    Step r1 H1 r1 H2 ∧ HRel K mg r1 h1 H2 ∧ Rel K mg r1 H2 (.ref T) (.tup [d, d']) := by
  subst e
  have s : Step r1 H1 r1 (upd H1 T (.tup [x, y])) := Step.alloc hT
  exact ⟨s, hr1.alloc hT, .tup ⟨fun z => hr1.there z hT, upd_same⟩ (.cons (q.mono s.mn) (.cons (q'.mono s.mn) .nil))⟩
theorem den_enum {a : Expr} {p pos tpos : Pos} {elts : List Expr} {kk : Nat} {f : Ev} (hg : Gl X "enumerate") (hm : X.mg "enumerate" = none) (ha : DenA X W [a] (evs [f])) (hs : starEach [a] X.env = [(false, eval a X.env)] := by rfl) : DenI X W (.Tuple elts kk tpos) (.Call (.Name "enumerate" p) [a] [] pos) (ivBy [f] kEnum) :=
  PI.imp (PI.or (pi_enum hg hm ha hs) (pi_enumT hg hm ha hs)) fun σ H R ⟨r, e, h, er, hr, ok⟩ => by
    unfold ivBy at ok
    cases hfe : evs [f] e h with
    | stuck => rw [hfe] at ok; exact ok.elim
    | exc x h1 => exact .inl ⟨r, e, h, er, hr, by rw [hfe] at ok ⊢; exact ok⟩
    | ok ds h1 =>
      rw [hfe, Out.bind_ok] at ok
      unfold kEnum at ok
      split at ok
      · rename_i d
        split at ok
        · rename_i it hi
          by_cases ht : ∃ xs, d = .tup xs
          · obtain ⟨xs, rfl⟩ := ht
            cases hi
            refine .inr ⟨r, e, h, er, hr, ?_⟩
            rw [hfe]
            intro vs r1 H1 s1 hr1 t1
            obtain ⟨v, rfl, t⟩ := t1.one
            obtain ⟨b, ws, rfl, z1, z2⟩ := t.tup_inv
            refine ⟨b, ws, rfl, z1.sq, ok _ r1 H1 s1 hr1 ⟨fun H => SqT X.K H b ws, fun i H x H' => ∃ T y, x = .ref T ∧ H T = none ∧ H' = upd H T (.tup [.int (i : Nat), y]) ∧ ws[i]? = some y, ?_, fun r' H' h' s _ _ => (z1.mono s.mn).sq, ?_⟩⟩
            · have hl : (enumD xs).length = ws.length := by simp [enumD, z2.length]
              refine walk_len (n := ws.length) ⟨fun i H hi q => ⟨ws, ws[i], q, by simp [hi]⟩, fun H q => ⟨ws, q, rfl⟩, fun i H x H' hi q y => ?_⟩ hl.symm
              obtain ⟨T, u, y1, y2, y3, y4⟩ := y
              exact ⟨T, u, y1, y2, y3, y4 ws q⟩
            · rintro i r2 h2 H2 x H3 hi s2 hr2 hgd ⟨T, y, rfl, hT, eH, hy⟩
              obtain ⟨d, g1, g2⟩ := (z2.mono s2.mn).get hy
              obtain ⟨w1, w2, w3⟩ := pair_ok hr2 hT eH (.int _) g2
              exact ⟨w1, w2, _, by simp [enumD, g1], w3⟩
          · refine .inl ⟨r, e, h, er, hr, ?_⟩
            rw [hfe]
            intro vs r1 H1 s1 hr1 t1
            obtain ⟨v, rfl, t⟩ := t1.one
            obtain ⟨b, ws, rfl, z1, z2⟩ := list_walk hr1 t hi (fun xs z => ht ⟨xs, z⟩)
            refine ⟨b, ws, rfl, z1, ok _ r1 H1 s1 hr1 ⟨fun H => ∃ us, SqL X.K H b us ∧ us.length = it.xs.length, fun i H x H' => ∃ T y, x = .ref T ∧ H T = none ∧ H' = upd H T (.tup [.int (i : Nat), y]) ∧ ∀ us, SqL X.K H b us → us[i]? = some y, ?_, fun r' H' h' s hr' hg' => ?_, ?_⟩⟩
            · have hl : (enumD it.xs).length = it.xs.length := by simp [enumD]
              refine walk_len (n := it.xs.length) ⟨fun i H hi ⟨us, q, ql⟩ => ⟨us, us[i]'(by rw [ql]; exact hi), q, by simp [ql, hi]⟩, fun H ⟨us, q, ql⟩ => ⟨us, q, by rw [ql]; exact Nat.le_refl _⟩, fun i H x H' hi q y => ?_⟩ hl.symm
              obtain ⟨T, u, y1, y2, y3, y4⟩ := y
              exact ⟨T, u, y1, y2, y3, y4⟩
            · obtain ⟨us, g1, g2⟩ := z2 r' h' H' s hr' hg'
              exact ⟨us, g1, g2.length⟩
            · rintro i r2 h2 H2 x H3 hi s2 hr2 hgd ⟨T, y, rfl, hT, eH, hy⟩
              obtain ⟨us, g1, g2⟩ := z2 r2 h2 H2 s2 hr2 hgd
              obtain ⟨d, g3, g4⟩ := g2.get (hy us g1)
              obtain ⟨w1, w2, w3⟩ := pair_ok hr2 hT eH (.int _) g4
              exact ⟨w1, w2, _, by simp [enumD, g3], w3⟩
        · exact ok.elim
      · exact ok.elim
end
end BW

set_option Elab.async false
set_option linter.all false
set_option maxRecDepth 100000
set_option maxHeartbeats 4000000
namespace BW
open PySem PySem.Spec PyProof.Rows L2
variable [Tb]
def Wc (W : Wx) : Prop := ∀ c dx σ σ' H, W c dx σ H → W c dx σ' H
theorem wc_0 : Wc W0 := fun _ _ _ _ _ z => z
theorem wc_E {E : XK} : Wc (fun c dx _ H => E c dx H) := fun _ _ _ _ _ z => z
structure SC (K : PySem.W.Frag) (mg : Str → Option Value) (c f : Str) : Prop where
  ex : ∃ C p, mg c = some (.ref C) ∧ SlX.SCls K C ∧ SlX.Slot1 K C f p 0
def Mt (P : Program) (w : World) (K : PySem.W.Frag) (mg : Str → Option Value) (base : Heap) (c m : Str) (k n : Nat) (d : Fd) : Prop :=
  ∃ C f, mg c = some (.ref C) ∧ Meth K C m f ∧ FnR P w K mg base (L2.CX P w) k f (spF K mg n d)
def Mkr (P : Program) (w : World) (K : PySem.W.Frag) (mg : Str → Option Value) (base : Heap) (c : Str) (k n : Nat) (d : Fd) : Prop :=
  ∃ C f fd ps, mg c = some (.ref C) ∧ Mk K C f ∧ FnOk P w K mg base (L2.CX P w) k f fd ps (spF K mg n d) ∧ Binds K fd ps []
def evMake (c : Str) (d : Fd) (fs : List Ev) : Ev := fun e h => (evsV fs e h).bind fun ds h1 => (d (.ref h1.length :: ds) (h1 ++ [.ins c []])).bind fun v h2 => match v with
  | .non => .ok (.ref h1.length) h2
  | _ => .stuck
def slotD (h : AH) (o : D) : Option D := match o with
  | .ref n => match h[n]? with
    | some (.sins _ [some d]) => some d
    | _ => none
  | _ => none
def evSlot (c : Str) (f : Ev) : Ev := fun e h => (f e h).bind fun o h1 => match o with
  | .ref n => match h1[n]? with
    | some (.sins c' [some d]) => if c' = c then .ok d h1 else .stuck
    | _ => .stuck
  | _ => .stuck
def svSlot (c : Str) (fo fv : Ev) : Sv := fun e h => (pv fv e h).toFl e fun d h1 => (fo e h1).toFl e fun o h2 => match o with
  | .ref n => if h2[n]? = some (.ins c []) then .nx e (h2.set n (.sins c [some d])) else .stuck
  | _ => .stuck
section
variable {X : Cx} {W : Wx}
theorem passesW (tk : Takes X W) (hc : Wc W) : Passes (L2.CX X.prog X.w) X (fun c dx H => ∃ σ, W c dx σ H) := passes_call tk fun c dx σ H ⟨σ', z⟩ => hc c dx σ' σ H z
theorem den_make {c : Str} {k n : Nat} {d : Fd} {p pos : Pos} {ex : Expr} {es : List Expr} {fs : List Ev} {j : Nat} (M : Mkr X.prog X.w X.K X.mg X.base c k n d) (hr : Room j X.A) (tk : Takes X W) (hc : Wc W) (ha : DenVs X W (ex :: es) (evsV fs)) (hjk : k + 1 ≤ j := by decide) (hn : fs.length + 1 = n := by rfl) (hg : Gl X c := by rfl)
    (hdb : (c == ("__debug__" : Str)) = false := by decide) (he : starEach (ex :: es) X.env = (false, eval ex X.env) :: starEach es X.env := by rfl) (hpl : (backTo pos (starEach es X.env)).any (·.1) = false := by rfl) : DenE X W (.Call (.Name c p) (ex :: es) [] pos) (evMake c d fs) := by
  obtain ⟨C, f, fd, ps, hm, M, F, b⟩ := M
  refine PE.imp (pe_make M F (hr.mono hjk) hg hm b .nil (passesW tk hc) ha hdb he hpl) fun σ H Q ⟨r, e, h, er, hrel, ok⟩ => ?_
  unfold evMake at ok
  refine ⟨r, e, h, er, hrel, ?_⟩
  cases hf : evsV fs e h with
  | stuck => rw [hf] at ok; exact ok
  | exc x h1 => rw [hf] at ok; exact ok
  | ok ds h1 =>
    rw [hf, Out.bind_ok] at ok
    intro vs r1 H1 s1 hr1 t1 x dx hx hdx hne
    have hxr : x ∉ r1 := fun z => hr1.there z hx
    have hdr : dx ∉ r1 := fun z => hr1.there z hdx
    have sd : Step r1 H1 r1 (upd H1 dx (.own x)) := Step.alloc hdx
    have hx2 : upd H1 dx (.own x) x = none := by rw [upd_ne hne.symm]; exact hx
    have sx : Step r1 (upd H1 dx (.own x)) r1 (upd (upd H1 dx (.own x)) x (.ins C dx [])) := Step.alloc hx2
    have h2 : HRel X.K X.mg r1 h1 (upd (upd H1 dx (.own x)) x (.ins C dx [])) := (hr1.alloc hdx).alloc hx2
    have mo : Mo r1 (upd (upd H1 dx (.own x)) x (.ins C dx [])) (r1 ++ [x]) (upd (upd H1 dx (.own x)) x (.ins C dx [])) := Mo.push upd_same (fun z => z) NoOwn.of
    have s3 : Step r1 H1 (r1 ++ [x]) (upd (upd H1 dx (.own x)) x (.ins C dx [])) := Step.push hxr (sd.trans sx) (.of hx)
    have h3 : HRel X.K X.mg (r1 ++ [x]) (h1 ++ [.ins c []]) (upd (upd H1 dx (.own x)) x (.ins C dx [])) :=
      h2.push (ob := .ins c []) hxr mo ⟨C, dx, [], hm, upd_same, by rw [upd_ne hne, upd_same], fun z => by
        rcases List.mem_append.mp z with z | z
        · exact hdr z
        · exact hne (List.mem_singleton.mp z), .nil⟩
    have hl : (r1 ++ [x])[h1.length]? = some x := by rw [← hr1.len, List.getElem?_append_right (Nat.le_refl _), Nat.sub_self]; rfl
    rw [List.append_nil]
    refine ⟨r1 ++ [x], h1 ++ [.ins c []], .ref h1.length :: ds, h3, .cons (.ref hl) (t1.mono s3.mn), by rw [List.length_cons, evsV_len hf]; exact hn, ?_⟩
    have ok1 := OkE.after (s1.trans s3) ok
    cases hd : d (.ref h1.length :: ds) (h1 ++ [.ins c []]) with
    | stuck => rw [hd] at ok1; exact ok1
    | exc y h4 => rw [hd] at ok1; exact fun cc dd r' H' s' hr' t => ⟨σ, ok1 cc dd r' H' s' hr' t⟩
    | ok v h4 =>
      rw [hd, Out.bind_ok] at ok1
      intro u r' H' s' hr' t
      cases v with
      | non =>
        cases t
        exact ⟨rfl, ok1 _ r' H' s' hr' (.val (.ref (s'.get hl)))⟩
      | _ => exact ok1.elim
theorem den_slot {c f : Str} {ex : Expr} {pos : Pos} {fe : Ev} (S : SC X.K X.mg c f) (he : DenE X W ex fe) (hb : attributeBase ex f X.env (eval ex X.env) = eval ex X.env := by rfl) : DenE X W (.Attribute ex f pos) (evSlot c fe) := by
  obtain ⟨C, p, hm, sc, sl⟩ := S.ex
  refine PE.imp (SlX.pe_sl he hb) fun σ H Q ⟨r, e, h, er, hr, ok⟩ => ?_
  unfold evSlot at ok
  refine rdE_bind er hr ok fun o h1 v r1 H1 s1 hr1 t1 er1 ok1 => ?_
  split at ok1
  · rename_i n
    split at ok1
    · rename_i c' d hd
      split at ok1
      · rename_i hcc
        subst hcc
        cases t1 with
        | val t1 => cases t1 with
          | @ref n a hn =>
            obtain ⟨C', dx, vs, z1, z2, z3, z4, z5⟩ := hr1.obj _ _ _ hd hn
            rw [hm] at z1
            cases z1
            cases z5 with
            | @some v x vs xs q z5 =>
              cases z5
              exact ⟨a, C, dx, p, [some v], 0, v, rfl, .inr ⟨z2, z3⟩, sc, sl, rfl, ok1 _ r1 H1 (Step.refl _ _) hr1 (.val q)⟩
      · exact ok1.elim
    · exact ok1.elim
  · exact ok1.elim
theorem den_setslot {c f : Str} {o ex : Expr} {pos pos' : Pos} {fo fv : Ev} (S : SC X.K X.mg c f) (ho : DenE X W o fo) (hv : DenE X W ex fv) (hs : swapsWith ex (some (.Attribute o f pos')) pos.line X.env = pure false := by rfl) : DenS X W (.Assign [.Attribute o f pos'] ex pos) (svSlot c fo fv) := by
  obtain ⟨C, p, hm, sc, sl⟩ := S.ex
  refine PS.imp (SlX.ps_sl ho (den_pv hv) hs) fun N σ H ⟨r, e, h, er, hr, ok⟩ => ?_
  unfold svSlot at ok
  refine rdV_bindS er hr ok fun d h1 v r1 H1 s1 hr1 t1 er1 ok1 => ?_
  refine rdE_bindS er1 hr1 ok1 fun o h2 w r2 H2 s2 hr2 t2 er2 ok2 => ?_
  split at ok2
  · rename_i n
    split at ok2
    · rename_i hi
      cases t2 with
      | val t2 => cases t2 with
        | @ref n a hn =>
          obtain ⟨C', dx, vs, z1, z2, z3, z4, z5⟩ := hr2.obj _ _ _ hi hn
          rw [hm] at z1
          cases z1
          cases z5
          have ha : a ∈ r2 := List.mem_of_getElem? hn
          have hne : dx ≠ a := fun z => z4 (z ▸ ha)
          refine ⟨a, C, dx, p, [], 0, rfl, .inl ⟨z2, rfl⟩, sc, sl, ?_⟩
          have e0 : SlX.putS 0 v [] = [some v] := rfl
          rw [e0]
          have q := t1.mono s2.mn
          -- the steps
          have st : Step r2 H2 r2 (SlX.slH H2 a C dx [some v]) := ⟨List.prefix_refl _, fun _ x y => absurd x y, fun b o hb hn' ho => by
              have n1 : b ≠ a := fun z => hn' (z ▸ ha)
              have n2 : b ≠ dx := fun z => by subst z; rw [z3] at hb; cases hb; exact ho.1 a rfl
              rw [SlX.slH_ne n1 n2]; exact hb, fun b f => by
              by_cases n1 : b = a
              · subst n1
                obtain ⟨ps, z⟩ := f _ (by unfold SlX.slH; rw [upd_same])
                unfold SlX.SlO at z
                cases z
              · by_cases n2 : b = dx
                · subst n2
                  obtain ⟨ps, z⟩ := f _ (by unfold SlX.slH; rw [upd_ne n1, upd_same])
                  cases z
                · intro u e
                  exact f u (by rw [SlX.slH_ne n1 n2]; exact e), fun b u w hb => by
              have n1 : b ≠ a := fun z => by subst z; rw [z2] at hb; cases hb
              have n2 : b ≠ dx := fun z => by subst z; rw [z3] at hb; cases hb
              rw [SlX.slH_ne n1 n2]; exact hb⟩
          have tb : TbOk r2 (SlX.slH H2 a C dx [some v]) := ⟨fun p hp => by
              obtain ⟨ps, y1, y2, y3, y4⟩ := hr2.tbs.tab p hp
              have n1 : p.1 ≠ a := fun z => y2 (z ▸ ha)
              have n2 : p.1 ≠ dx := fun z => by rw [z, z3] at y1; cases y1
              refine ⟨ps, by rw [SlX.slH_ne n1 n2]; exact y1, y2, y3, fun pos cv hc => ?_⟩
              obtain ⟨k, k1, k2, k3⟩ := y4 pos cv hc
              have m1 : k ≠ a := fun z => k2 (z ▸ ha)
              have m2 : k ≠ dx := fun z => by rw [z, z3] at k3; unfold LamX.CodeO at k3; cases k3
              exact ⟨k, k1, k2, by rw [SlX.slH_ne m1 m2]; exact k3⟩⟩
          refine ok2 σ r2 _ st (er2.mono st.mn) ⟨by rw [List.length_set]; exact hr2.len, hr2.nd, tb, fun i ob b e1 e2 => ?_⟩
          by_cases hij : n = i
          · subst hij
            rw [hn] at e2
            cases e2
            rw [List.getElem?_set] at e1
            simp only [if_true] at e1
            split at e1
            · cases e1
              exact ⟨C, dx, [some v], hm, by unfold SlX.slH; rw [upd_same], by unfold SlX.slH; rw [upd_ne hne, upd_same], z4, .some (q.mono st.mn) .nil⟩
            · cases e1
          · rw [List.getElem?_set_ne hij] at e1
            have nb : b ≠ a := fun z => by
              subst z
              exact hij ((List.getElem?_inj (List.getElem?_eq_some_iff.mp hn).1 hr2.nd).mp (hn.trans e2.symm))
            have nbd : b ≠ dx := fun z => z4 (z ▸ List.mem_of_getElem? e2)
            have keepOwn : ∀ x y, H2 x = some (.own y) → y ≠ a → x ∉ r2 → SlX.slH H2 a C dx [some v] x = some (.own y) := fun x y hx hy hxr => by
              have n1 : x ≠ a := fun z => hxr (z ▸ ha)
              have n2 : x ≠ dx := fun z => by subst z; rw [z3] at hx; cases hx; exact hy rfl
              rw [SlX.slH_ne n1 n2]; exact hx
            have eb : SlX.slH H2 a C dx [some v] b = H2 b := SlX.slH_ne nb nbd
            have old := hr2.obj i ob b e1 e2
            cases ob with
            | lst xs => obtain ⟨us, y1, y2⟩ := old; exact ⟨us, eb.trans y1, y2.mono st.mn⟩
            | dk xs => obtain ⟨us, y1, y2⟩ := old; exact ⟨us, eb.trans y1, y2.mono st.mn⟩
            | dt xs => obtain ⟨us, y1, y2⟩ := old; exact ⟨us, eb.trans y1, y2.mono st.mn⟩
            | ins c2 fs => obtain ⟨C2, dy, us, y0, y1, y2, y3, y4⟩ := old; exact ⟨C2, dy, us, y0, eb.trans y1, keepOwn dy b y2 nb y3, y3, y4.mono st.mn⟩
            | sins c2 fs => obtain ⟨C2, dy, us, y0, y1, y2, y3, y4⟩ := old; exact ⟨C2, dy, us, y0, eb.trans y1, st.keep _ _ y2 y3 NoOwn.of, y3, y4.mono st.mn⟩
            | fz xs => obtain ⟨u, us, y1, y2⟩ := old; exact ⟨u, us, eb.trans y1, y2.mono st.mn⟩
    · exact ok2.elim
  · exact ok2.elim
def isC (h : AH) (c : Str) (o : D) : Bool := match o with
  | .ref n => match h[n]? with
    | some (.sins c' _) => decide (c' = c)
    | some (.ins c' []) => decide (c' = c)
    | _ => false
  | _ => false
def evMeth (c : Str) (d : Fd) (fo : Ev) (fs : List Ev) : Ev := fun e h => (fo e h).bind fun o h1 => if isC h1 c o then (evsV fs e h1).bind fun ds h2 => d (o :: ds) h2 else .stuck
theorem isC_ok {K : PySem.W.Frag} {mg : Str → Option Value} {r : List Addr} {h : AH} {H : Hp} {v : V} {o : D} {c : Str} {C : Addr} (hr : HRel K mg r h H) (hm : mg c = some (.ref C)) (t : RelU K mg r H v o) (z : isC h c o = true) : ∃ a dx vs, v = .ref a ∧ SlX.Slt H a C dx vs ∧ Rel K mg r H v o := by
  unfold isC at z
  split at z
  · rename_i n
    cases t with
    | val t => cases t with
      | @ref n a hn =>
        split at z
        · rename_i c' vs hv
          have := of_decide_eq_true z
          subst this
          obtain ⟨C', dx, us, y0, y1, y2, y3, y4⟩ := hr.obj _ _ _ hv hn
          rw [hm] at y0
          cases y0
          exact ⟨a, dx, us, rfl, .inr ⟨y1, y2⟩, .ref hn⟩
        · rename_i c' hv
          have := of_decide_eq_true z
          subst this
          obtain ⟨C', dx, us, y0, y1, y2, y3, y4⟩ := hr.obj _ _ _ hv hn
          rw [hm] at y0
          cases y0
          cases y4
          exact ⟨a, dx, [], rfl, .inl ⟨y1, rfl⟩, .ref hn⟩
        · cases z
  · cases z
theorem den_meth {c f m : Str} {k n j : Nat} {d : Fd} {o ex : Expr} {es : List Expr} {apos pos : Pos} {fo : Ev} {fs : List Ev} {pl : Sem Bool} (S : SC X.K X.mg c f) (M : Mt X.prog X.w X.K X.mg X.base c m k n d) (hr : Room j X.A) (tk : Takes X W) (hc : Wc W) (ho : DenE X W o fo) (ha : DenVs X W (ex :: es) (evsV fs)) (hjk : k ≤ j := by decide) (hn : fs.length + 1 = n := by rfl)
    (hst : starEach (ex :: es) X.env = (false, eval ex X.env) :: starEach es X.env := by rfl) (hpl : (backTo pos (starEach es X.env)).any (·.1) = false := by rfl)
    (ht : eval (.Call (.Attribute o m apos) (ex :: es) [] pos) X.env = (do
      let zo ← eval o X.env
      standAt apos.atName
      let (zf, z1) ← holding [zo] (getMethod zo m pl)
      callWith pos zf z1 (backTo pos (starEach (ex :: es) X.env)) (backToKw pos (keywordEach [] X.env))) := by rfl) :
    DenE X W (.Call (.Attribute o m apos) (ex :: es) [] pos) (evMeth c d fo fs) := by
  obtain ⟨C, p, hm, sc, sl⟩ := S.ex
  obtain ⟨C', g, hm', me, F⟩ := M
  rw [hm] at hm'
  cases hm'
  refine PE.imp (SlX.pe_methSl (pl := pl) ho sc me F (hr.mono hjk) (passesW tk hc) ha hst hpl ht) fun σ H Q ⟨r, e, h, er, hrel, ok⟩ => ?_
  unfold evMeth at ok
  refine rdE_bind er hrel ok fun o h1 v r1 H1 s1 hr1 t1 er1 ok1 => ?_
  split at ok1
  · rename_i hi
    obtain ⟨a, dx, vs, rfl, z1, z2⟩ := isC_ok hr1 hm t1.u hi
    refine ⟨a, dx, vs, rfl, z1, r1, e, h1, er1, hr1, ?_⟩
    cases hf : evsV fs e h1 with
    | stuck => rw [hf] at ok1; exact ok1
    | exc x h2 => rw [hf] at ok1; exact ok1
    | ok ds h2 =>
      rw [hf, Out.bind_ok] at ok1
      intro ws r2 H2 s2 hr2 t2
      refine ⟨r2, h2, o :: ds, hr2, .cons (z2.mono s2.mn) t2, by rw [List.length_cons, evsV_len hf]; exact hn, ?_⟩
      have ok2 := OkE.after s2 ok1
      cases hd : d (o :: ds) h2 with
      | stuck => rw [hd] at ok2; exact ok2
      | exc y h4 => rw [hd] at ok2; exact fun cc dd r' H' s' hr' t => ⟨σ, ok2 cc dd r' H' s' hr' t⟩
      | ok y h4 => rw [hd] at ok2; exact fun v r' H' s' hr' t => ok2 v r' H' s' hr' (.val t)
  · exact ok1.elim
end
end BW

set_option Elab.async false
set_option linter.all false
set_option maxRecDepth 100000
set_option maxHeartbeats 4000000
namespace BW
open PySem PySem.Spec PyProof.Rows L2
variable [Tb]
structure FnG (P : Program) (w : World) (K : PySem.W.Frag) (mg : Str → Option Value) (base : Heap) (k : Nat) (f : Addr) (fd : FuncData) (ps : List Str) (sp : Sp) : Prop where
  len : ∀ vs H Q E, sp vs H Q E → vs.length = ps.length
  go : ∀ (A : Around) (fr : List PySem.Env) (s : Shared) (H : Hp) (ar : Args) (us : List Value) (vs : List V) (Q : VK) (E : XK), Room k A → A.guards = some [] → Env0 P w K mg base A fr s H → BindsTo s fd ar (ps.zip us) → Vals vs us → sp vs H Q E →
    codeAny (model P w) A (.call (.ref f) ar) (CR (L2.CX P w) fr P w H s Q E) s
theorem deeper_guards {A : Around} {e : PySem.Env} (h : A.guards = some []) : (A.deeper e).guards = some [] := by
  first
    | exact h
    | (simp [Around.deeper, Around.under, Code.guards, Code.isGuard, pushGuards, h])
theorem fnG_of {P : Program} {w : World} {K : PySem.W.Frag} {mg : Str → Option Value} {base : Heap} {x qual : Str} {st : Stmt} {f : Addr} {fd : FuncData} {N ps : List Str} {k : Nat} {sp : Sp} (F : Fun K x qual st f fd) (S : FnScope N ps (defScope st))
    (len : ∀ vs H Q E, sp vs H Q E → vs.length = ps.length)
    (hb : ∀ (cdv : Value), fd.code = cdv → ∀ (A : Around) (fr : List PySem.Env) (s : Shared) (H : Hp) (vs : List V) (Q : VK) (E : XK), Room k (A.deeper (envOfC qual (defScope st) s.heap.objs.size f cdv)) → A.guards = some [] → sp vs H Q E →
      ∃ t, PSs (cxOf (L2.CX P w) P w K mg base N qual (defScope st) f cdv A fr s H E) (defBody st) t ∧ t { nx := fun _ H' => Q .non H', rt := Q } (L2.start N vs) H) : FnG P w K mg base (k + 1) f fd ps sp := by
  obtain ⟨oc, od, kV, doc, pm, an, cdv, ct, osl, rfl, lk, hcd⟩ := F.ex
  refine ⟨len, fun A fr s H ar us vs Q E hr hg e0 bd r z => ?_⟩
  have keep : ∀ b o, base.get? b = some o → s.heap.get? b = some o := fun b o e => (e0.bs b o e).1
  have KX : K.In s.heap := e0.mod.kin.keeps keep
  refine codeAny_call_function hr.depth (KX _ _ lk) rfl S.co S.gen rfl (PySem.W.codeRec_of KX hcd) (bd _ _ _ _ ?_)
  refine wpAny_newFunctionEnv_cells S.kind (fun y hy => ?_) fun ev he s1 z1 => ?_
  · rcases S.par y.1 (List.of_mem_zip (show (y.1, y.2) ∈ ps.zip us from hy)).1 with q | q
    · exact .inl q
    · exact .inr ⟨q, PySem.W.cellsFrom_some _ _ _ (.inl q)⟩
  subst he
  refine ⟨(e0.mod.nolimit.keeps keep).keeps z1.toInCall.keep, codeAny_func ?_⟩
  obtain ⟨t, ht, hq⟩ := hb cdv rfl A fr s H vs Q E (hr.deeper _) hg z
  have J0 := inv_start (CX := L2.CX P w) (E := E) S hr.hd e0 (len _ _ _ _ z) r z1
  refine wpAny_mono (ht.run [] s1 (L2.start N vs) H _ J0 hq) (fun fl s' hs => ?_) fun _ _ y => y
  cases fl with
  | brk => obtain ⟨_, _, _, q⟩ := hs; exact q.elim
  | cont => obtain ⟨_, _, _, q⟩ := hs; exact q.elim
  | ret u =>
    obtain ⟨v, σ', H', J, rv, q⟩ := hs
    exact ⟨v, H', J.os, J.bare, J.base, J.hok, rv, q⟩
  | next =>
    obtain ⟨σ', H', J, q⟩ := hs
    exact ⟨.non, H', J.os, J.bare, J.base, J.hok, rfl, q⟩
section
variable {P : Program} {w : World} {K : PySem.W.Frag} {mg : Str → Option Value} {base : Heap}
theorem fng_ok {x qual : Str} {st : Stmt} {f : Addr} {fd : FuncData} {N ps : List Str} {k : Nat} {body : Sv} (F : Fun K x qual st f fd) (S : FnScope N ps (defScope st))
    (hb : ∀ (cdv : Value) (A : Around) (outer : List PySem.Env) (s : Shared) (H : Hp) (E : XK), Room k (A.deeper (envOfC qual (defScope st) s.heap.objs.size f cdv)) → (A.deeper (envOfC qual (defScope st) s.heap.objs.size f cdv)).guards = some [] →
      DenB (cxOf (L2.CX P w) P w K mg base N qual (defScope st) f cdv A outer s H E) (fun c dx _ H => E c dx H) (defBody st) body) : FnG P w K mg base (k + 1) f fd ps (spF K mg ps.length (fnD N.length body)) :=
  fnG_of F S (fun vs H Q E ⟨r, h, ds, hr, q, e, _⟩ => by rw [q.length, e]) fun cdv _ A outer s H vs Q E hr hg ⟨r, h, ds, hrel, q, e, ok⟩ =>
    ⟨_, hb cdv A outer s H E hr (deeper_guards hg), r, startE N.length ds, h, start_rel q, hrel, fn_end hrel (fun _ _ _ _ z => z) ok⟩
end
section
variable {X : Cx} {W : Wx}
end
end BW

set_option Elab.async false
set_option linter.all false
set_option maxRecDepth 100000
set_option maxHeartbeats 4000000
namespace BW
open PySem PySem.Spec PyProof.Rows L2
variable [Tb]
def evLenO (c : Str) (d : Fd) (f : Ev) : Ev := fun e h => (f e h).bind fun o h1 => if isC h1 c o then (d [o] h1).bind fun v h2 => match v with
  | .int n => if 0 ≤ n ∧ n < 2 ^ 63 then .ok (.int n) h2 else .stuck
  | _ => .stuck
  else .stuck
section
variable {X : Cx} {W : Wx}
theorem den_lenO {c f : Str} {k j : Nat} {d : Fd} {ex : Expr} {p pos : Pos} {fe : Ev} (S : SC X.K X.mg c f) (M : Mt X.prog X.w X.K X.mg X.base c "__len__" k 1 d) (hr : Room j X.A) (tk : Takes X W) (hc : Wc W) (hgl : Gl X "len") (hml : X.mg "len" = none) (he : DenE X W ex fe) (hjk : k + 1 ≤ j := by decide)
    (hs : starEach [ex] X.env = (false, eval ex X.env) :: starEach [] X.env := by rfl) (hpl : (backTo pos (starEach [] X.env)).any (·.1) = false := by rfl) : DenE X W (.Call (.Name "len" p) [ex] [] pos) (evLenO c d fe) := by
  obtain ⟨C, pp, hm, sc, sl⟩ := S.ex
  obtain ⟨C', g, hm', me, F⟩ := M
  rw [hm] at hm'
  cases hm'
  have cr : CallR X (.builtin "len") (fun xs H Q => ∃ a dx vs, xs = [V.ref a] ∧ SlX.Slt H a C dx vs ∧ spF X.K X.mg 1 d [.ref a] H (fun z H' => ∃ n, z = .int n ∧ (0 ≤ n ∧ n < 2 ^ 63) ∧ Q z H') (fun cc dd H => ∃ σ, W cc dd σ H)) := by
    intro pins s σ H xs us Q I r z
    obtain ⟨a, dx, vs, rfl, hsl, q⟩ := z
    obtain ⟨u, rfl, ru⟩ := r.one
    cases (show u = Value.ref a from ru)
    obtain ⟨sl', od, _, J, _⟩ := SlX.slt_inst I hsl
    obtain ⟨m, hF⟩ := I.fr
    have hr1 : Room k X.A.in1 := Room.in1 (hr.mono hjk)
    refine PySem.W.len_K hF I.ok.mod.kin J me.at_ me.fn (wpAny_mono (wpAny_call (SlX.run_at (us := [.ref a]) (ws := [.ref a]) F hr1 I.env0.in1 (passesW tk hc) I (.cons rfl .nil) q)) (fun v s' z => ?_) fun _ _ y => y)
    obtain ⟨zv, H', I', rz, n, en, hn, qz⟩ := z
    subst en
    obtain ⟨t, e⟩ := (show ∃ t, v = Value.int n t from rz)
    subst e
    exact ⟨hn, .int n, H', I'.tok _, ⟨_, rfl⟩, qz⟩
  refine PE.imp (pe_callB cr hgl hml (by decide +kernel) (PAone he hs) (by decide) (by decide) hs hpl) fun σ H Q ⟨r, e, h, er, hrel, ok⟩ => ?_
  unfold evLenO at ok
  refine rdE_bind er hrel ok fun o h1 v r1 H1 s1 hr1 t1 er1 ok1 => ?_
  split at ok1
  · rename_i hi
    obtain ⟨a, dx, vs, rfl, z1, z2⟩ := isC_ok hr1 hm t1.u hi
    refine ⟨a, dx, vs, rfl, z1, r1, h1, [o], hr1, .cons z2 .nil, rfl, ?_⟩
    cases hd : d [o] h1 with
    | stuck => rw [hd] at ok1; exact ok1
    | exc y h4 => rw [hd] at ok1; exact fun cc dd r' H' s' hr' t => ⟨σ, ok1 cc dd r' H' s' hr' t⟩
    | ok y h4 =>
      rw [hd, Out.bind_ok] at ok1
      intro v r' H' s' hr' t
      cases y with
      | int n =>
        dsimp only at ok1
        split at ok1
        · rename_i hn
          cases t
          exact ⟨n, rfl, hn, ok1 _ r' H' s' hr' (.val (.int _))⟩
        · exact ok1.elim
      | _ => exact ok1.elim
  · exact ok1.elim
def TupG (K : PySem.W.Frag) (mg : Str → Option Value) (x : Str) (vs : List V) : Prop := ∃ a, mg x = some (.ref a) ∧ ∀ H, SqT K H a vs
def evInG (neg : Bool) (vs : List V) (f : Ev) : Ev := fun e h => (f e h).bind fun d h1 => match flatD d with
  | some v => .ok (.bl (if neg then !inV v vs else inV v vs)) h1
  | none => .stuck
theorem den_inG {x : Str} {vs : List V} {a : Expr} {p pos : Pos} {f : Ev} (T : TupG X.K X.mg x vs) (hf : vs.all flatV = true) (hg : Gl X x) (ha : DenE X W a f) (hdb : (x == ("__debug__" : Str)) = false := by decide) (hm : behindInMarks .In (.Name x p) = false := by rfl) : DenE X W (.Compare a [.In] [.Name x p] pos) (evInG false vs f) := by
  obtain ⟨b, hb, hs⟩ := T
  refine PE.imp (pe_cmpR op_in_seq ha (pe_glob (v := .ref b) hg hb rfl hdb) hm) fun σ H Q ⟨r, e, h, er, hr, ok⟩ => ?_
  unfold evInG at ok
  refine rdE_bind er hr ok fun d h1 v r1 H1 s1 hr1 t1 er1 ok1 => ?_
  cases hd : flatD d with
  | none => rw [hd] at ok1; exact ok1.elim
  | some w =>
    rw [hd] at ok1
    obtain ⟨rfl, fw⟩ := flat_rel hd t1.u
    exact ⟨b, vs, rfl, .inr (hs H1), fw, hf, ok1 _ r1 H1 (Step.refl _ _) hr1 (.val (.bl _))⟩
end
end BW

set_option Elab.async false
set_option linter.all false
set_option maxRecDepth 100000
set_option maxHeartbeats 4000000
namespace BW
open PySem PySem.Spec PyProof.Rows L2
variable [Tb]
def GI (mg : Str → Option Value) (x : Str) (i : Int) : Prop := ∃ t, mg x = some (.int i t)
section
variable {X : Cx} {W : Wx}
theorem den_gi {x : Str} {i : Int} {pos : Pos} (h : GI X.mg x i) (hg : Gl X x := by rfl) (hdb : (x == ("__debug__" : Str)) = false := by decide) : DenE X W (.Name x pos) (evC (.int i)) := by
  obtain ⟨t, h⟩ := h
  exact den_glob (v := .int i) hg h ⟨t, rfl⟩ (fun r H => .int i) hdb
end
section
variable {P : Program} {w : World} {K : PySem.W.Frag} {mg : Str → Option Value} {base : Heap}
theorem mt_mk {x qual c : Str} {st : Stmt} {f C : Addr} {fd : FuncData} {N ps : List Str} (k : Nat) {body : Sv} (F : Fun K x qual st f fd) (hC : mg c = some (.ref C)) (me : Meth K C x f) (S : FnScope N ps (defScope st)) (b : Binds K fd ps [])
    (hb : ∀ (cdv : Value) (A : Around) (outer : List PySem.Env) (s : Shared) (H : Hp) (E : XK), Room k (A.deeper (envOfC qual (defScope st) s.heap.objs.size f cdv)) →
      DenB (cxOf (L2.CX P w) P w K mg base N qual (defScope st) f cdv A outer s H E) (fun c dx _ H => E c dx H) (defBody st) body) : Mt P w K mg base c x (k + 1) ps.length (fnD N.length body) :=
  ⟨C, f, hC, me, ((fn_ok F S hb).raw b .nil).imp fun vs H Q E z => by rw [List.append_nil]; exact z⟩
theorem mkr_mk {x qual c : Str} {st : Stmt} {f C : Addr} {fd : FuncData} {N ps : List Str} (k : Nat) {body : Sv} (F : Fun K x qual st f fd) (hC : mg c = some (.ref C)) (mk : Mk K C f) (S : FnScope N ps (defScope st)) (b : Binds K fd ps [])
    (hb : ∀ (cdv : Value) (A : Around) (outer : List PySem.Env) (s : Shared) (H : Hp) (E : XK), Room k (A.deeper (envOfC qual (defScope st) s.heap.objs.size f cdv)) →
      DenB (cxOf (L2.CX P w) P w K mg base N qual (defScope st) f cdv A outer s H E) (fun c dx _ H => E c dx H) (defBody st) body) : Mkr P w K mg base c (k + 1) ps.length (fnD N.length body) :=
  ⟨C, f, fd, ps, hC, mk, fn_ok F S hb, b⟩
end
end BW

set_option Elab.async false
set_option linter.all false
set_option maxRecDepth 100000
set_option maxHeartbeats 4000000
namespace BW
open PySem PySem.Spec PyProof.Rows L2
variable [Tb]
section
variable {X : Cx} {W : Wx}
def rgOk (a b : Int) : Bool := in62 a && in62 b && decide ((b - a).toNat ≤ 2 ^ 24)
def evRg (tt : Bool) : List Ev → Ev
  | [f], e, h => (f e h).bind fun d h1 => match d with
    | .int n => if rgOk 0 n then .ok (if tt then .tup (rangeD 0 n.toNat) else .tl (rangeD 0 n.toNat)) h1 else .stuck
    | _ => .stuck
  | _, _, _ => .stuck
theorem rels_rg {K : PySem.W.Frag} {mg : Str → Option Value} {r : List Addr} {H : Hp} (a b : Int) : Rels K mg r H (rgV a b) (rangeD a (b - a).toNat) := by
  unfold rgV rangeD
  generalize (List.range (b - a).toNat) = l
  induction l with
  | nil => exact .nil
  | cons x l ih => exact .cons (.int _) ih
theorem den_listRg {a : Expr} {p p2 pos pos2 : Pos} {f : Ev} (hg : Gl X "list") (hm : X.mg "list" = none) (hg2 : Gl X "range") (hm2 : X.mg "range" = none) (ha : DenE X W a f) (hc : X.calm = true := by rfl)
    (na : starEach [a] X.env = (false, eval a X.env) :: starEach [] X.env := by rfl)
    (nb : starEach [.Call (.Name "range" p2) [a] [] pos2] X.env = (false, eval (.Call (.Name "range" p2) [a] [] pos2) X.env) :: starEach [] X.env := by rfl) :
    DenE X W (.Call (.Name "list" p) [.Call (.Name "range" p2) [a] [] pos2] [] pos) (evRg false [f]) :=
  PE.imp (pe_listRg hc hg hm (prg_1 hg2 hm2 ha na) nb) fun σ H Q ⟨r, e, h, er, hr, ok⟩ => by
    simp only [evRg] at ok
    refine rdE_bind er hr ok fun d h1 v r1 H1 s1 hr1 t1 er1 ok1 => ?_
    split at ok1
    · split at ok1
      · rename_i n hz
        simp only [rgOk, Bool.and_eq_true, decide_eq_true_eq] at hz
        refine ⟨n, t1.u.int_inv, ⟨(in62_ok hz.1.1).1, (in62_ok hz.1.1).2, (in62_ok hz.1.2).1, (in62_ok hz.1.2).2, hz.2⟩, fun q hq => ?_⟩
        have z := rels_rg (K := X.K) (mg := X.mg) (r := r1) (H := H1) 0 n
        rw [Int.sub_zero] at z
        exact newL hr1 hq z fun v H' s q t => ok1 v r1 H' s q t
      · exact ok1.elim
    · exact ok1.elim
end
end BW

set_option Elab.async false
set_option linter.all false
set_option maxRecDepth 100000
set_option maxHeartbeats 4000000
namespace BW
open PySem PySem.Spec PyProof.Rows L2
theorem law_run {P : Program} {w : World} {K : PySem.W.Frag} {mg mb : Str → Option Value} {k : Nat} {fa a : Addr} {fd : FuncData} {x : Str} {d : Fd} {s1 : Shared} {vs : List Value} {ns : List Int} {cs : List (Addr × Addr × Str)}
    (KX : K.In s1.heap) (gl : s1.heap.Ns mainGlobals mg) (bl : s1.heap.Ns builtinsNs mb) (bb : ∀ x : Str, x ≠ "__name__" → mb x = bootBuiltins x) (lim : s1.heap.NoLimit) (hg : s1.gens = #[])
    (hT : ∀ p ∈ cs, s1.heap.get? p.2.1 = some { cls := .none, data := .fields #[] }) (nT : ∀ p ∈ cs, K.lookup p.2.1 = none) (C : ∀ p ∈ cs, PySem.W.CodeHd s1.heap p.1 p.2.1)
    (hbm : ∃ (bm : Addr) (ob : Obj), mg "__builtins__" = some (.ref bm) ∧ bm ≠ builtinsNs ∧ s1.heap.get? bm = some ob ∧ ob.cls = .type "module" ∧ ob.dict = some builtinsNs ∧ ob.data = .plain)
    (ha : s1.heap.get? a = some { cls := .type "list", data := .seq vs.toArray }) (hi : IntsAre vs ns) (hl : ns.length ≤ sizeLine) (hr : Room k callerA)
    (F : ∀ base : Heap, K.In base → base.Ns mainGlobals mg → (∀ p ∈ cs, LamX.TabB base mg p.1 p.2.1) → FnG P w K mg base k fa fd [x] (@spF ⟨cs.map (·.2)⟩ K mg 1 d)) (bd : ∀ (s : Shared) (u : Value), BindsTo s fd ⟨[u], []⟩ [(x, u)]) (hd : ∃ h, d [.rl (ns.map .int)] [] = .ok (.bl true) h) :
    codeAny (model P w) callerA (.call (.ref fa) ⟨[.ref a], []⟩) (fun r s' => r = .ok (.ret (.bool true)) ∧ OldK s1.heap s'.heap ∧ s'.os = s1.os ∧ AllBare s'.gens) s1 := by
  letI : Tb := ⟨cs.map (·.2)⟩
  have rv := vals_ints hi
  have lenV := hi.length
  obtain ⟨hz, hd⟩ := hd
  have rels : ∀ (H : Hp) (ms : List Int), Rels K mg [] H (ms.map V.int) (ms.map D.int) := fun H ms => by
    induction ms with
    | nil => exact .nil
    | cons m ms ih => exact .cons (.int m) ih
  have isT : ∀ b : Addr, b ∈ cs.map (·.2.1) → s1.heap.get? b = some { cls := .none, data := .fields #[] } := fun b hb => by
    obtain ⟨p, hp, e⟩ := List.mem_map.mp hb
    rw [← e]
    exact hT p hp
  have aT : a ∉ cs.map (·.2.1) := fun z => by
    have q := isT a z
    rw [ha] at q
    have z' : Data.seq vs.toArray _ = Data.fields #[] := congrArg Obj.data (Option.some.inj q)
    cases z'
  have memT : ∀ p ∈ cs, p.2.1 ∈ cs.map (·.2.1) := fun p hp => List.mem_map.mpr ⟨p, hp, rfl⟩
  have core : ∀ H : Hp, (∀ p ∈ cs, H p.2.1 = some (.tbl #[])) → (∀ b, H b = none ∨ b ∈ cs.map (·.2.1) ∨ ∃ o xs, H b = some (.frz o (.lst xs))) → SqLr K H [] a (ns.map V.int) → HOk P w H s1.heap → (∀ b, H b ≠ none → b = a ∨ b ∈ cs.map (·.2.1)) → (H a ≠ none → K.lookup a = none) →
      codeAny (model P w) callerA (.call (.ref fa) ⟨[.ref a], []⟩) (fun r s' => r = .ok (.ret (.bool true)) ∧ OldK s1.heap s'.heap ∧ s'.os = s1.os ∧ AllBare s'.gens) s1 := by
    intro H hH hO hS hok hA hK
    have base_of : ∀ {b : Addr} {o : Obj}, s1.heap.get? b = some o → H b = none → (hidT s1.heap H).get? b = some o := fun e n => hidT_get e n
    have noD : ∀ {b : Addr} {o : Obj}, s1.heap.get? b = some o → (∀ vs n, o.data ≠ .seq vs n) → o.data ≠ .fields #[] → H b = none := fun {b o} e h1 h2 => by
      cases q : H b with
      | none => rfl
      | some u =>
        rcases hA b (by rw [q]; simp) with e' | e'
        · rw [e', ha] at e
          cases e
          exact (h1 _ _ rfl).elim
        · rw [isT b e'] at e
          cases e
          exact (h2 rfl).elim
    have noA : ∀ {b : Addr} {o : Obj} {es : Array DictEntry} {ep : Nat}, s1.heap.get? b = some o → o.data = .dict es ep → H b = none := fun {b o es ep} e d => by
      refine noD e (fun vs n z => ?_) fun z => ?_
      · rw [d] at z
        cases z
      · rw [d] at z
        cases z
    have nsK : ∀ {b : Addr} {m : Str → Option Value}, s1.heap.Ns b m → (hidT s1.heap H).Ns b m := fun {b m} ⟨o, es, ep, e, d, r⟩ => ⟨o, es, ep, base_of e (noA e d), d, r⟩
    have kb : K.In (hidT s1.heap H) := fun b o e => base_of (KX b o e) (by
      cases q : H b with
      | none => rfl
      | some u =>
        rcases hA b (by rw [q]; simp) with e' | e'
        · rw [e'] at e q
          rw [hK (by rw [q]; simp)] at e
          cases e
        · obtain ⟨p, hp, ep⟩ := List.mem_map.mp e'
          rw [← ep, nT p hp] at e
          cases e)
    have md : Mod K mg (hidT s1.heap H) := ⟨kb, nsK gl, ⟨mb, nsK bl, bb⟩, let ⟨mc, y1, y2⟩ := lim; ⟨mc, nsK y1, y2⟩⟩
    have TB : ∀ p ∈ cs, LamX.TabB (hidT s1.heap H) mg p.1 p.2.1 := fun p hp => by
      have hTp := hT p hp
      refine ⟨?_, ?_, fun z => ?_⟩
      · obtain ⟨o, us, file, tf, flags, tg, inF, text, tt, e1, r1, r2, r3, r4, r5, r6, r7, r8, hne⟩ := C p hp
        refine ⟨o, us, file, tf, flags, tg, inF, text, tt, base_of e1 (noD e1 (fun vs n z => ?_) fun z => ?_), r1, r2, r3, r4, r5, r6, r7, r8, hne⟩
        · rw [r2] at z
          cases z
        · rw [r2] at z
          cases z
          simp at r3
      · obtain ⟨bm, ob, b1, b2, b3, b4, b5, b6⟩ := hbm
        have nG : bm ≠ mainGlobals := fun q => by
          obtain ⟨o, es, ep, e, hd, _⟩ := gl
          rw [q, e] at b3
          cases b3
          rw [hd] at b6
          cases b6
        have nP : bm ≠ p.2.1 := fun q => by
          rw [q, hTp] at b3
          cases b3
          cases b6
        refine ⟨bm, ob, b1, b2, nG, nP, base_of b3 (noD b3 (fun vs n z => ?_) fun z => ?_), b4, b5, b6⟩
        · rw [b6] at z
          cases z
        · rw [b6] at z
          cases z
      · obtain ⟨o, es, ep, e, hd, _⟩ := gl
        rw [z, hTp] at e
        cases e
        cases hd
    have e0 : Env0 P w K mg (hidT s1.heap H) callerA [] s1 H := ⟨rfl, md, fun b o e => of_hidT e, Nat.le_of_eq (hidT_size _ _), trivial, fun b hb => (nomatch (show b ∈ ([] : List Addr) from hb)), hok, .of_eq hg⟩
    have tbs : TbOk [] H := ⟨fun p hp => by
      obtain ⟨q, hq, rfl⟩ := List.mem_map.mp (show p ∈ cs.map (·.2) from hp)
      exact ⟨#[], hH q hq, (fun z => nomatch z), True.intro, fun pos cv hc => by
        have z : codeAmong pos [] = some cv := hc
        simp [codeAmong] at z⟩⟩
    have sp : spF K mg 1 d [.ref a] H (fun v _ => v = .bl true) (fun _ _ _ => False) := by
      refine ⟨[], [], [.rl (ns.map .int)], ⟨rfl, List.nodup_nil, tbs, fun i o b e => by simp at e⟩, .cons (.rl hS (rels H ns)) .nil, rfl, ?_⟩
      rw [hd]
      intro v r' H' _ _ q
      cases q
      rfl
    refine codeAny_mono ((F _ kb (nsK gl) TB).go callerA [] s1 H ⟨[.ref a], []⟩ [.ref a] [.ref a] _ _ hr rfl e0 (bd s1 (.ref a)) (.cons rfl .nil) sp) fun r s' z => ?_
    cases r with
    | error e =>
      obtain ⟨_, _, _, _, _, _, _, _, _, _, _, _, q⟩ := z
      exact (show False by first | exact q | (simp at q)).elim
    | ok fl =>
      cases fl with
      | next => exact z.elim
      | brk => exact z.elim
      | cont => exact z.elim
      | ret u =>
        obtain ⟨v, H', os, bare, un, hok', r', q⟩ := z
        have q' : v = .bl true := q
        subst q'
        obtain rfl : u = Value.bool true := r'
        have key : ∀ b o, b ∉ cs.map (·.2.1) → s1.heap.get? b = some o → s'.heap.get? b = some o := fun b o nb e => by
          cases q : H b with
          | none => exact un.keep b o e q (by intro z; exact absurd (show b ∈ ([] : List Addr) from z) (by simp)) (by simp)
          | some u =>
            rcases hO b with z | z | ⟨ob, xs, z⟩
            · rw [q] at z; cases z
            · exact absurd z nb
            · have z2 := un.frzs b ob _ z
              obtain ⟨e1, _⟩ := hok b _ z
              obtain ⟨e2, _⟩ := hok' b _ z2
              rw [e] at e1; cases e1
              exact e2
        have grown : ∀ p ∈ cs, ∃ more : Array Value, s'.heap.get? p.2.1 = some { cls := .none, data := .fields more } := fun p hp => by
          obtain ⟨more, z⟩ := un.tbls p.2.1 #[] (hH p hp)
          exact ⟨_, hok' p.2.1 _ z⟩
        refine ⟨rfl, ⟨fun b o e => ?_, fun b o e => ?_⟩, os, bare⟩
        · by_cases hb : b ∈ cs.map (·.2.1)
          · obtain ⟨p, hp, ep⟩ := List.mem_map.mp hb
            obtain ⟨more, hm⟩ := grown p hp
            rw [← ep] at e ⊢
            rw [hT p hp] at e
            cases e
            exact .inr (.inl ⟨((C p hp).tab (hT p hp)).isCodeTable, rfl, #[], more, rfl, by rw [Array.empty_append]; exact hm⟩)
          · exact .inl (key b o hb e)
        · by_cases hb : b ∈ cs.map (·.2.1)
          · obtain ⟨p, hp, ep⟩ := List.mem_map.mp hb
            obtain ⟨more, hm⟩ := grown p hp
            rw [← ep]
            exact ⟨_, hm⟩
          · exact ⟨o, key b o hb e⟩
  cases hk : K.lookup a with
  | some o =>
    have e := KX a o hk
    rw [ha] at e
    cases e
    refine core (fun b => if b ∈ cs.map (·.2.1) then some (.tbl #[]) else none) (fun p hp => if_pos (memT p hp)) (fun b => ?_) (.inr fun H' => .inr ⟨_, vs.toArray, _, hk, rfl, rfl, rfl, by rw [List.size_toArray, lenV]; exact hl, by simpa using rv⟩) (fun b u z => ?_) (fun b z => ?_) fun z => absurd (show (if a ∈ cs.map (·.2.1) then some (HO.tbl #[]) else none) = none from if_neg aT) z
    · by_cases hb : b ∈ cs.map (·.2.1)
      · exact .inr (.inl hb)
      · exact .inl (if_neg hb)
    · by_cases hb : b ∈ cs.map (·.2.1)
      · have z' := (if_pos hb).symm.trans z
        cases z'
        exact isT b hb
      · have z' := (if_neg hb).symm.trans z
        cases z'
    · by_cases hb : b ∈ cs.map (·.2.1)
      · exact .inr hb
      · exact absurd (if_neg hb) z
  | none =>
    refine core (fun b => if b = a then some (.frz { cls := .type "list", data := .seq vs.toArray } (.lst (ns.map V.int))) else if b ∈ cs.map (·.2.1) then some (.tbl #[]) else none) (fun p hp => (if_neg (show ¬ p.2.1 = a from fun z => aT (by rw [← z]; exact memT p hp))).trans (if_pos (memT p hp))) (fun b => ?_)
      (.inl ⟨(fun z => nomatch z), _, if_pos rfl⟩) (fun b u z => ?_) (fun b z => ?_) fun _ => hk
    · by_cases hb : b = a
      · exact .inr (.inr ⟨_, _, if_pos hb⟩)
      · by_cases hb2 : b ∈ cs.map (·.2.1)
        · exact .inr (.inl hb2)
        · exact .inl ((if_neg hb).trans (if_neg hb2))
    · by_cases hb : b = a
      · have z' := (if_pos hb).symm.trans z
        cases z'
        rw [hb]
        exact ⟨ha, by rw [List.length_map]; exact hl, vs, _, rv, ha⟩
      · have z1 := (if_neg hb).symm.trans z
        by_cases hb2 : b ∈ cs.map (·.2.1)
        · have z' := (if_pos hb2).symm.trans z1
          cases z'
          exact isT b hb2
        · have z' := (if_neg hb2).symm.trans z1
          cases z'
    · by_cases hb : b = a
      · exact .inl hb
      · by_cases hb2 : b ∈ cs.map (·.2.1)
        · exact .inr hb2
        · exact absurd ((if_neg hb).trans (if_neg hb2)) z
theorem walk_end {l : PySem.W.OpenLaw} {n k : Nat} {q : Program} {loose : List Str} {XP : (Str → Option Value) → Heap → Prop} {YP : World → Heap → Prop} {d : DefRec} {K : Params → PySem.W.Frag} {x : Str} {dL : Fd}
    (hn : l.most = some n) (hn2 : n ≤ sizeLine) (hdf : d.params.defaults = []) (hr : Room k callerA) (hY : ∀ (w : World) (h : Heap), YP w h → (K w.params).In h)
    (F : ∀ (w : World) (mg : Str → Option Value) (fa : Addr) (h : Heap), YP w h → (K w.params).In h → h.Ns mainGlobals mg → mg d.name = some (.ref fa) →
      ∃ (fd : FuncData) (cs : List (Addr × Addr × Str)), (∀ p ∈ cs, (K w.params).lookup p.2.1 = none ∧ ∃ y, ((recsOf q).find? (fun e => e.name == y)).isSome = true ∧ PySem.W.tabIn (K w.params) y = some (p.1, p.2.1)) ∧
        (∀ (s : Shared) (u : Value), BindsTo s fd ⟨[u], []⟩ [(x, u)]) ∧ ∀ base : Heap, (K w.params).In base → base.Ns mainGlobals mg → (∀ p ∈ cs, LamX.TabB base mg p.1 p.2.1) → FnG l.prog w (K w.params) mg base k fa fd [x] (@spF ⟨cs.map (·.2)⟩ (K w.params) mg 1 dL))
    (hd : ∀ ns : List Int, ns.length ≤ n → (∀ z ∈ ns, Builtin.Int.intBits z ≤ 1048576) → ∃ h, dL [.rl (ns.map .int)] [] = .ok (.bl true) h) :
    PySem.W.WalkO q loose XP YP l.row.toRowW d [] (fun f vs => PySem.call f vs) := by
  refine Att.attach_callB hn hdf fun w s0 s1 mg mb fa o pm cd doc a vs ns G Y ho hdd hcd hmg hobj hints hlen hbits hg => ?_
  have KX := hY w _ Y
  obtain ⟨fd, cs, hT, hb, hF⟩ := F w mg fa _ Y KX G.T.g hmg
  have tb : ∀ p ∈ cs, PySem.W.CodeHd s1.heap p.1 p.2.1 ∧ s1.heap.get? p.2.1 = some { cls := .none, data := .fields #[] } := fun p hp => by
    obtain ⟨_, y, h1, h2⟩ := hT p hp
    obtain ⟨dr, h3⟩ := Option.isSome_iff_exists.mp h1
    exact PySem.W.tab_of G.T KX h3 h2
  exact law_run KX G.T.g G.T.b G.T.builtins G.T.nolimit hg (fun p hp => (tb p hp).2) (fun p hp => (hT p hp).1) (fun p hp => (tb p hp).1) G.T.bmain hobj hints (Nat.le_trans hlen hn2) hr hF hb (hd ns hlen hbits)
end BW

set_option Elab.async false
set_option linter.all false
set_option maxRecDepth 100000
set_option maxHeartbeats 4000000
namespace BW
open PySem PySem.Spec PyProof.Rows L2
section
open PySem.W PySem.Calls Builtin Builtin.ObjectAttr
variable {prog : Program} {w : World} {A : Around} {E : Value → Shared → Prop} {hp : Heap} {g : Array GenState} {d : Drawn} {t : Nat} {os : OsState} {K : Frag} {C : Addr} {B newId i : String} {bmB : List Value}
structure XCls (K : Frag) (C : Addr) (B newId i : String) (bmB : List Value) : Prop where
  fb : ExcBaseFacts B newId i bmB
  kf : KxsFacts B i
  sf : StoreFacts B bmB "object.__setattr__" "object"
  q : excInitIn K C bmB newId = true
  ov : excOver K C bmB = true
  dct : hasDictIn K C = true
  sa : findIn K (.ref C) "__setattr__" = some (some (.builtin "object.__setattr__"))
  sub : subIn K (.ref C) (.type B) = some true
  su : ks_superIn K C C "__init__" = some (some (.builtin i))
  op : nsIn K cStatics "thirdparty.any" = some none
  self_ : mroIn K C (.ref C) = some true
theorem XCls.cd (X : XCls K C B newId i bmB) : ∃ cd bm, clsIn K C = some cd ∧ cd.mro = .ref C :: bm ∧ excTail bmB bm = true ∧ cd.hasDict = true := by
  obtain ⟨cd, hc, ho⟩ := any_some X.ov
  (try dsimp only at ho)
  have hd := X.dct
  unfold hasDictIn at hd
  rw [hc] at hd
  split at ho
  · rename_i C' bm hm
    rw [Bool.and_eq_true, beq_iff_eq] at ho
    obtain ⟨rfl, ho⟩ := ho
    exact ⟨cd, bm, hc, hm, ho, by simpa using hd⟩
  · cases ho
theorem xset_new {name : Str} {v : Value} {x t1 : Addr} {Q : Unit → Shared → Prop} (XC : XCls K C B newId i bmB) (X : K.In hp) (hx : hp.get? x = some (excObj C t1 none .none)) (ha : findIn K (.ref C) name = some none)
    (hq : ∀ h' tk' dx, (∀ b o, b ≠ x → hp.get? b = some o → h'.get? b = some o) → hp.objs.size ≤ dx → dx ≠ x → h'.get? x = some (excObj C t1 (some dx) .none) →
      h'.Ns1 dx (fun y => if y = name then some v else none) → Q () ⟨h', g, d, tk', os⟩) :
    wpAny (model prog w) A (setAttr (.ref x) name v) Q E ⟨hp, g, d, t, os⟩ := by
  have I : InstAt hp x (excObj C t1 none .none) C none := ⟨hx, rfl, rfl, trivial⟩
  refine set_plain X I XC.sa ?_
  have hxs : x ≠ hp.objs.size := Nat.ne_of_lt (Heap.lt_size hx)
  refine osa_openX (r := none) XC.sf X I XC.ov (by unfold takerIn; rw [ha]; rfl) fun b => ?_
  obtain ⟨cd, bm, hcd, hm, _, hh⟩ := XC.cd
  have hcls : Looks (model prog w) hp (classData C) cd := looks_clsIn X hcd
  obtain ⟨nm, bs, mro, ns, qn, hd, sn, sb, ab, col, del⟩ := cd
  dsimp only at hh
  subst hh
  unfold storeInOwnDict ownDictForStores
  repeat (first | with_reducible refine HandSPX.store_in_new ?_ ?_ | with_reducible refine wpAny_loadPart_at hx ?_ | with_reducible refine hcls.at ?_ | wp_step)
  · exact ⟨_, #[], _, (Heap.get?_update_ne _ _ _ _ hxs.symm).trans (Heap.get?_push_at rfl rfl), rfl, fun e he => absurd he (by simp), fun _ => rfl⟩
  · intro h' tk' hn' hs
    have hx₁ : (hp.push { cls := .type "dict", data := .dict #[] }).get? x = some (excObj C t1 none .none) := Heap.get?_push_of_some _ hx
    refine hq h' tk' hp.objs.size (fun b o hb ho => ?_) (Nat.le_refl _) hxs.symm ?_ hn'
    · exact (hs.2 b (Nat.ne_of_lt (Heap.lt_size ho))).trans ((Heap.get?_update_ne _ _ _ _ hb).trans (Heap.get?_push_of_some _ ho))
    · exact (hs.2 x hxs).trans (Heap.get?_update_self _ hx₁ rfl)
theorem xcall_mw {u x t1 : Addr} {rest : List Value} {Q : Value → Shared → Prop} (XC : XCls K C B newId i bmB) (X : K.In hp) (hu : hp.get? u = some (kxs_mw i x)) (hx : hp.get? x = some (excObj C t1 none .none)) (hz : rest.length ≤ sizeLine)
    (hq : ∀ h' t2, (∀ b o, b ≠ x → hp.get? b = some o → h'.get? b = some o) → h'.get? x = some (excObj C t2 none .none) → Q .none ⟨h', g, d, t, os⟩) :
    wpAny (model prog w) A (call (.ref u) rest) Q E ⟨hp, g, d, t, os⟩ := by
  obtain ⟨nm, N', qn, bs, bm, hdct, sn, sub, ab, col, dd, k0, k1, k2, k3, k5, hC, hT⟩ := excInit_of X XC.q
  refine wpAny_call (codeAny_of_tree ?_)
  show wpAny _ A.in1 (callAny (.ref u) ⟨rest, []⟩) _ _ _
  simp only [callAny]
  refine wpAny_bind (wpAny_load hu ?_)
  simp only [kxs_mw, show (Value.type "method-wrapper" == Value.type "method" || Value.type "method-wrapper" == Value.type "builtin_function_or_method" || Value.type "method-wrapper" == Value.type "method-wrapper") = true by decide, if_true]
  refine KFB.if_so (by decide) ?_
  refine wpAny_bind (check_bound_init XC.fb.toExcCallFacts hC hx rfl ?_)
  refine wpAny_bind (wpAny_pure (wpAny_pure ?_))
  refine ⟨plainId_quiet XC.fb.init.plain _, codeAny_builtin XC.fb.initEntry ?_⟩
  exact exc_init_tree (cls := .ref C) (t0 := t1) (dv := none) (c2 := .none) (c3 := .none) (b4 := .bool false) hx hz fun h' k e1 _ => hq h' _ k e1
def xbody (msg f p : Str) (p0 p1 p2 p3 p4 p5 p6 p7 p8 p9 : Pos) (j : Nat) : List Stmt :=
  [.Expr (.Call (.Attribute (.Call (.Name "super" p0) [] [] p1) "__init__" p2) [.Constant (.str msg) j p3] [] p4) p5, .Assign [.Attribute (.Name "self" p6) f p7] (.Name p p8) p9]
def xbody0 (msg : Str) (p0 p1 p2 p3 p4 p5 : Pos) (j : Nat) : List Stmt :=
  [.Expr (.Call (.Attribute (.Call (.Name "super" p0) [] [] p1) "__init__" p2) [.Constant (.str msg) j p3] [] p4) p5]
structure XFun (prog : Program) (K : Frag) (C fI : Addr) (qual : Str) (params : Arguments) (body : List Stmt) (scope : Scope) : Prop where
  lk : ∃ oc od osl dV kV doc pm an cda ct cc vs ccl cdd ccs tf cl cld csl, K.lookup fI = some ⟨oc, od, .func (ksFn "__init__" qual params body scope dV kV doc pm an (.ref cda) ct cc), osl⟩ ∧ codeIn K (.ref cda) qual = true ∧
    K.lookup cda = some ⟨ccl, cdd, .fields vs, ccs⟩ ∧ vs[2]? = some (.str prog.main.file tf) ∧ K.lookup cc = some ⟨cl, cld, .cell (some (.ref C)), csl⟩ ∧
    (∀ (s : Shared) (us : List Value), us.length = params.args.length → BindsTo s (ksFn "__init__" qual params body scope dV kV doc pm an (.ref cda) ct cc) ⟨us, []⟩ ((params.args.map (·.arg)).zip us))
  fn : isFn K (.ref fI) = true
  ini : findIn K (.ref C) "__init__" = some (some (.ref fI))
  po : params.posonlyargs = []
  top : (prog.main.scope.names.lookup ("super" : Str)).isSome = false
  ks : scope.names.lookup ("super" : Str) = some .globalImplicit
  kc : scope.names.lookup ("__class__" : Str) = some .free
  kn : scope.kind = .function
  co : scope.isCoroutine = false
  gn : scope.isGenerator = false
  nc : ∀ x ∈ scope.names, x.2 ≠ .cell
  lo : ∀ x ∈ params.args, scope.names.lookup x.arg = some .local
section
variable {mg mb : Str → Option Value} {msg f p qual : Str} {p0 p1 p2 p3 p4 p5 p6 p7 p8 p9 : Pos} {j : Nat} {fI : Addr} {params : Arguments} {scope : Scope} {v : Value}
theorem xsuper {a1 : Around} {env : PySem.Env} {body : List Stmt} {m : Str → Option Value} {x t1 : Addr} {cc cda : Addr} {of : Obj} {fd : FuncData} {vs : Array Value} {tf : Tok} {ccl cl : Value} {cdd cld : Option Addr} {ccs csl : Array (Option Value)} {ar : Arg} {Q : Flow → Shared → Prop} {pl : Sem Bool}
    (XC : XCls K C B newId i bmB) (X : K.In hp) (G : hp.Ns mainGlobals mg) (hs : mg "super" = none) (Bn : hp.Ns builtinsNs mb) (hb : mb "super" = some (.type "super"))
    (hx : hp.get? x = some (excObj C t1 none .none)) (hL : hp.Ns env.locals m) (hm : m ar.arg = some (.ref x))
    (hks : env.kindOf "super" = some .globalImplicit) (hkc : env.kindOf "__class__" = some .free) (hka : env.kindOf ar.arg = some .local) (hk : env.scope.kind = .function) (hfu : env.func = some fI) (hf : hp.get? fI = some of) (hfd : of.data = .func fd)
    (hpar : (fd.params.posonlyargs ++ fd.params.args).head? = some ar) (hco : env.code = .ref cda) (hcc : K.lookup cda = some ⟨ccl, cdd, .fields vs, ccs⟩) (hvs : vs[2]? = some (.str prog.main.file tf)) (htop : (prog.main.scope.names.lookup ("super" : Str)).isSome = false)
    (hgl : env.globals = mainGlobals) (hbu : env.builtins = builtinsNs) (hcl : env.cells.lookup ("__class__" : Str) = some cc) (hcell : K.lookup cc = some ⟨cl, cld, .cell (some (.ref C)), csl⟩)
    (he : eval (.Call (.Attribute (.Call (.Name "super" p0) [] [] p1) "__init__" p2) [.Constant (.str msg) j p3] [] p4) env = (do
      let ov ← attributeBase (.Call (.Name "super" p0) [] [] p1) "__init__" env (eval (.Call (.Name "super" p0) [] [] p1) env)
      standAt p2.atName
      let (f, first) ← holding [ov] (getMethod ov "__init__" pl)
      callWith p4 f first (backTo p4 (starEach [.Constant (.str msg) j p3] env)) []))
    (hi : interactive env = false) (hsw : swapsWith (.Call (.Attribute (.Call (.Name "super" p0) [] [] p1) "__init__" p2) [.Constant (.str msg) j p3] [] p4) none p5.line env = pure false)
    (hq : ∀ h' t2 tk, (∀ b o, b ≠ x → hp.get? b = some o → h'.get? b = some o) → h'.get? x = some (excObj C t2 none .none) → Q .next ⟨h', g, d, tk, os⟩) :
    _root_.PySem.wpAt (model prog w) a1 (.func body env) (exec (.Expr (.Call (.Attribute (.Call (.Name "super" p0) [] [] p1) "__init__" p2) [.Constant (.str msg) j p3] [] p4) p5) env) Q E ⟨hp, g, d, t, os⟩ := by
  obtain ⟨cd, bm, hcd, hmro, htl, hdct⟩ := XC.cd
  obtain ⟨oD, hD1, hD2⟩ : ∃ oD, hp.get? C = some oD ∧ oD.data = .cls cd := by
    have hcd' := hcd
    unfold clsIn at hcd'
    split at hcd'
    · rename_i c d cd' sl ho
      cases hcd'
      exact ⟨_, X _ _ ho, rfl⟩
    · cases hcd'
  have I : InstAt hp x (excObj C t1 none .none) C none := ⟨hx, rfl, rfl, trivial⟩
  refine ks_wpAt_Expr_any (ks_wpAt_MethodCall (pl := pl) (ks_wpAt_super_base (s := ⟨hp, g, d, t, os⟩) hks hkc (by decide) hfu hf hfd hpar hco (X _ _ hcc) rfl hvs (by simp) htop ?_) he) hi hsw
  refine ks_loadName_global hk hks (loadGlobal_builtin (by rw [hgl]; exact G) hs (by rw [hbu]; exact Bn) hb ⟨rfl, ?_⟩)
  refine wpAny_loadName_free hk hkc hcl ⟨_, X _ _ hcell, rfl⟩ ?_
  refine wpAny_loadName_local hk hka hL hm ?_
  refine ks_wpAny_isType_cls hD1 hD2 ⟨rfl, ?_⟩
  refine ks_wpAny_call_super hD1 hD2 hx rfl (fun c e => by cases e) (looks_mroIn X XC.self_) (fun h' e k => ?_)
  have X' : K.In h' := X.keeps k
  have hx' := k _ _ hx
  have I' : InstAt h' x (excObj C t1 none .none) C none := ⟨hx', rfl, rfl, trivial⟩
  have hsu := XC.su
  unfold ks_superIn at hsu
  rw [hcd] at hsu
  refine kxs_getMethod XC.kf e (looks_opaque X' XC.op) (l₀ := cd.mro) (fun A Q E s k q => wpAny_bind ((looks_clsIn X' hcd) A _ E s k (wpAny_pure q))) rfl X' hsu (I'.type.andThen (looks_subIn X' XC.sub)) (ks_ne X I hcd) (by decide) ?_
  have hu : (h'.push (kxs_mw i x)).get? h'.objs.size = some (kxs_mw i x) := Heap.get?_push_at rfl rfl
  have k2 : ∀ b o, h'.get? b = some o → (h'.push (kxs_mw i x)).get? b = some o := fun b o e => Heap.get?_push_of_some _ e
  refine kxs_callWith (i := i) (x := x) (by rfl) (evalArgs_plain ?_)
  refine Calls.spliced_cons (wpAny_Constant_str (k := j) (pos := p3) ?_)
  refine Calls.spliced_nil ⟨hu, ?_⟩
  refine xcall_mw XC (X'.keeps k2) hu (k2 _ _ hx') (by simp [sizeLine_eq]) fun h3 t2 k3 e3 => ?_
  exact hq h3 t2 _ (fun b o hb ho => k3 b o hb (k2 b o (k b o ho))) e3
theorem xmake1 {Q : Value → Shared → Prop} (XC : XCls K C B newId i bmB) (XF : XFun prog K C fI qual params (xbody msg f p p0 p1 p2 p3 p4 p5 p6 p7 p8 p9 j) scope) (hpar : params.args.map (·.arg) = [("self" : Str), p]) (hps : p ≠ "self") (hf : findIn K (.ref C) f = some none)
    (hev : ∀ env : PySem.Env, env.scope = scope → ∃ pl, eval (.Call (.Attribute (.Call (.Name "super" p0) [] [] p1) "__init__" p2) [.Constant (.str msg) j p3] [] p4) env = (do
      let ov ← attributeBase (.Call (.Name "super" p0) [] [] p1) "__init__" env (eval (.Call (.Name "super" p0) [] [] p1) env)
      standAt p2.atName
      let (f, first) ← holding [ov] (getMethod ov "__init__" pl)
      callWith p4 f first (backTo p4 (starEach [.Constant (.str msg) j p3] env)) []))
    (hsw : ∀ env : PySem.Env, env.scope = scope → swapsWith (.Call (.Attribute (.Call (.Name "super" p0) [] [] p1) "__init__" p2) [.Constant (.str msg) j p3] [] p4) none p5.line env = pure false)
    (hsw2 : ∀ env : PySem.Env, env.scope = scope → swapsWith (.Name p p8) (some (.Attribute (.Name "self" p6) f p7)) p9.line env = pure false) (hdb : (p == ("__debug__" : Str)) = false)
    (X : K.In hp) (G : hp.Ns mainGlobals mg) (hs : mg "super" = none) (Bn : hp.Ns builtinsNs mb) (hb : mb "super" = some (.type "super")) (lim : hp.NoLimit) (room : (A.under (.builtin "type.__call__" ⟨[.ref C, v], []⟩)).depth < recursionLimit)
    (hq : ∀ h' tk' a dx t1, (∀ b o, hp.get? b = some o → h'.get? b = some o) → hp.objs.size ≤ a → hp.objs.size ≤ dx → dx ≠ a → h'.get? a = some (excObj C t1 (some dx) .none) → h'.Ns1 dx (fun y => if y = f then some v else none) → Q (.ref a) ⟨h', g, d, tk', os⟩) :
    wpAny (model prog w) A (call (.ref C) [v]) Q E ⟨hp, g, d, t, os⟩ := by
  obtain ⟨nm, N', qn, bs, bm, hdct, sn, sub, ab, col, dd, k0, k1, k2, k3, k5, hC, hT⟩ := excInit_of X XC.q
  obtain ⟨oc, od, osl, dV, kV, doc, pm, an, cda, ct, cc, vs, ccl, cdd, ccs, tf, cl, cld, csl, lk, hcode, hcc, hvs, hcell, hbind⟩ := XF.lk
  obtain ⟨oI, hoI, hcI⟩ : ∃ oI, hp.get? fI = some oI ∧ oI.cls = .type "function" := by
    obtain ⟨o, ho, hc⟩ := Option.map_eq_some_iff.mp (show (K.lookup fI).map (·.cls) = some (.type "function") from beq_iff_eq.mp XF.fn)
    exact ⟨o, X _ _ ho, hc⟩
  refine wpAny_call (PX.call_own XC.fb hT hC (looks_findIn X XF.ini) (fun self => exc_bind hoI hcI self) (by simp [sizeLine_eq]) ?_)
  have kk : ∀ b o, hp.get? b = some o → ((hp.push (kdv_tup [v])).push (PX.excO C hp.objs.size)).get? b = some o := fun b o e => Heap.get?_push_of_some _ (Heap.get?_push_of_some _ e)
  have hx : ((hp.push (kdv_tup [v])).push (PX.excO C hp.objs.size)).get? (hp.objs.size + 1) = some (excObj C hp.objs.size none .none) := by heap_get
  have X2 := X.keeps kk
  have hl : ([Value.ref (hp.objs.size + 1), v] : List Value).length = params.args.length := by
    have e := congrArg List.length hpar
    rw [List.length_map] at e
    exact e.symm
  have hb0 := hbind ⟨(hp.push (kdv_tup [v])).push (PX.excO C hp.objs.size), g, d, t, os⟩ [.ref (hp.objs.size + 1), v] hl
  rw [hpar] at hb0
  have lo1 : scope.names.lookup ("self" : Str) = some .local := by
    have z : ("self" : Str) ∈ params.args.map (·.arg) := by rw [hpar]; simp
    obtain ⟨x, hx, e⟩ := List.mem_map.mp z
    rw [← e]; exact XF.lo x hx
  have lo2 : scope.names.lookup p = some .local := by
    have z : p ∈ params.args.map (·.arg) := by rw [hpar]; simp
    obtain ⟨x, hx, e⟩ := List.mem_map.mp z
    rw [← e]; exact XF.lo x hx
  obtain ⟨ar, hd1, har⟩ : ∃ ar, (params.posonlyargs ++ params.args).head? = some ar ∧ ar.arg = "self" := by
    rw [XF.po, List.nil_append]
    cases h : params.args with
    | nil => rw [h] at hpar; cases hpar
    | cons x l =>
      rw [h, List.map_cons] at hpar
      exact ⟨x, rfl, (List.cons.inj hpar).1⟩
  refine ks_codeAny_call_defAt (fd := ksFn "__init__" qual params (xbody msg f p p0 p1 p2 p3 p4 p5 p6 p7 p8 p9 j) scope dV kV doc pm an (.ref cda) ct cc) (body := xbody msg f p p0 p1 p2 p3 p4 p5 p6 p7 p8 p9 j) (binds := [(("self" : Str), .ref (hp.objs.size + 1)), (p, v)]) room (X2 _ _ lk) rfl (lim.keeps kk) (codeRec_of X2 hcode) rfl hb0 XF.nc
    (fun y hy => by
      rcases List.mem_cons.mp hy with rfl | hy
      · exact lo1
      · rcases List.mem_cons.mp hy with rfl | hy
        · exact lo2
        · cases hy) (fun h0 hns kp => ?_) XF.co XF.gn XF.kn
  have k0 : ∀ b o, hp.get? b = some o → h0.get? b = some o := fun b o e => kp b o (kk b o e)
  have X0 := X.keeps k0
  have hx0 := kp _ _ hx
  obtain ⟨pl, he⟩ := hev (callEnv (ksFn "__init__" qual params (xbody msg f p p0 p1 p2 p3 p4 p5 p6 p7 p8 p9 j) scope dV kV doc pm an (.ref cda) ct cc) ((hp.push (kdv_tup [v])).push (PX.excO C hp.objs.size)).objs.size fI) rfl
  have ms : (fun y => ([(("self" : Str), Value.ref (hp.objs.size + 1)), (p, v)] : List (Str × Value)).reverse.lookup y) ("self" : Str) = some (.ref (hp.objs.size + 1)) := by
    have z : (("self" : Str) == p) = false := beq_eq_false_iff_ne.mpr (Ne.symm hps)
    simp [List.lookup_cons, z]
  have mp : (fun y => ([(("self" : Str), Value.ref (hp.objs.size + 1)), (p, v)] : List (Str × Value)).reverse.lookup y) p = some v := by simp [List.lookup_cons]
  have hin : interactive (callEnv (ksFn "__init__" qual params (xbody msg f p p0 p1 p2 p3 p4 p5 p6 p7 p8 p9 j) scope dV kV doc pm an (.ref cda) ct cc) ((hp.push (kdv_tup [v])).push (PX.excO C hp.objs.size)).objs.size fI) = false := by
    show (scope.kind == .module && _) = false
    rw [XF.kn]
    rfl
  refine ks_wpAt_execs_cons (xsuper (ar := ar) (cda := cda) (cc := cc) (m := fun y => ([(("self" : Str), Value.ref (hp.objs.size + 1)), (p, v)] : List (Str × Value)).reverse.lookup y) XC X0 (G.keeps k0) hs (Bn.keeps k0) hb hx0 hns (by rw [har]; exact ms) XF.ks XF.kc (by rw [har]; exact lo1) XF.kn rfl (k0 _ _ (X _ _ lk)) rfl hd1 rfl hcc hvs XF.top rfl rfl rfl hcell he hin (hsw _ rfl) fun h1 t2 tk1 kx hx1 => ?_)
  refine ks_wpAt_execs_cons (ks_wpAt_Assign_Attr (wpAt_of_wpAny ?_) (hsw2 _ rfl))
  have hLne : ((hp.push (kdv_tup [v])).push (PX.excO C hp.objs.size)).objs.size ≠ hp.objs.size + 1 := by simp [Heap.size_push]
  have hns1 : h1.Ns ((hp.push (kdv_tup [v])).push (PX.excO C hp.objs.size)).objs.size (fun y => ([(("self" : Str), Value.ref (hp.objs.size + 1)), (p, v)] : List (Str × Value)).reverse.lookup y) := by
    obtain ⟨o, es, ep, e1, r⟩ := hns
    exact ⟨o, es, ep, kx _ _ hLne e1, r⟩
  refine wpAny_Name (wpAny_loadName_local XF.kn lo2 hns1 mp ?_) hdb
  refine wpAny_Name (wpAny_loadName_local XF.kn lo1 hns1 ms ?_) (by decide)
  have X1 : K.In h1 := fun b o e => kx b o (fun z => by
    have := X _ _ e
    rw [z] at this
    exact absurd (Heap.lt_size this) (by simp)) (X0 b o e)
  refine xset_new XC X1 hx1 hf fun h2 tk2 dx k2 hdx hne hx2 hn2 => ?_
  refine wpAt_of_wpAny ?_
  show wpAny _ _ (pure Flow.next) _ _ _
  refine wpAny_pure ⟨rfl, ?_⟩
  have ne : ∀ {b : Addr} {o : Obj}, hp.get? b = some o → b ≠ hp.objs.size + 1 := fun {b o} e z => by
    rw [z] at e
    exact absurd (Heap.lt_size e) (by simp)
  exact hq h2 tk2 (hp.objs.size + 1) dx t2 (fun b o e => k2 b o (ne e) (kx b o (ne e) (k0 b o e))) (Nat.le_succ _) (Nat.le_trans (Nat.le_of_lt (Nat.lt_of_succ_lt (Heap.lt_size hx1))) hdx) hne hx2 hn2
end
end
end BW

set_option Elab.async false
set_option linter.all false
set_option maxRecDepth 100000
set_option maxHeartbeats 4000000
namespace BW
open PySem PySem.Spec PyProof.Rows L2
section
open PySem.W PySem.Calls Builtin Builtin.ObjectAttr
variable {prog : Program} {w : World} {A : Around} {E : Value → Shared → Prop} {hp : Heap} {g : Array GenState} {d : Drawn} {t : Nat} {os : OsState} {K : Frag} {C : Addr} {B newId i : String} {bmB : List Value}
variable {mg mb : Str → Option Value} {msg f p qual : Str} {p0 p1 p2 p3 p4 p5 p6 p7 p8 p9 : Pos} {j : Nat} {fI : Addr} {params : Arguments} {scope : Scope} {v : Value}
theorem xmake0 {Q : Value → Shared → Prop} (XC : XCls K C B newId i bmB) (XF : XFun prog K C fI qual params (xbody0 msg p0 p1 p2 p3 p4 p5 j) scope) (hpar : params.args.map (·.arg) = [("self" : Str)])
    (hev : ∀ env : PySem.Env, env.scope = scope → ∃ pl, eval (.Call (.Attribute (.Call (.Name "super" p0) [] [] p1) "__init__" p2) [.Constant (.str msg) j p3] [] p4) env = (do
      let ov ← attributeBase (.Call (.Name "super" p0) [] [] p1) "__init__" env (eval (.Call (.Name "super" p0) [] [] p1) env)
      standAt p2.atName
      let (f, first) ← holding [ov] (getMethod ov "__init__" pl)
      callWith p4 f first (backTo p4 (starEach [.Constant (.str msg) j p3] env)) []))
    (hsw : ∀ env : PySem.Env, env.scope = scope → swapsWith (.Call (.Attribute (.Call (.Name "super" p0) [] [] p1) "__init__" p2) [.Constant (.str msg) j p3] [] p4) none p5.line env = pure false)
    (X : K.In hp) (G : hp.Ns mainGlobals mg) (hs : mg "super" = none) (Bn : hp.Ns builtinsNs mb) (hb : mb "super" = some (.type "super")) (lim : hp.NoLimit) (room : (A.under (.builtin "type.__call__" ⟨[.ref C], []⟩)).depth < recursionLimit)
    (hq : ∀ h' tk' a t1, (∀ b o, hp.get? b = some o → h'.get? b = some o) → hp.objs.size ≤ a → h'.get? a = some (excObj C t1 none .none) → Q (.ref a) ⟨h', g, d, tk', os⟩) :
    wpAny (model prog w) A (call (.ref C) []) Q E ⟨hp, g, d, t, os⟩ := by
  obtain ⟨nm, N', qn, bs, bm, hdct, sn, sub, ab, col, dd, k0, k1, k2, k3, k5, hC, hT⟩ := excInit_of X XC.q
  obtain ⟨oc, od, osl, dV, kV, doc, pm, an, cda, ct, cc, vs, ccl, cdd, ccs, tf, cl, cld, csl, lk, hcode, hcc, hvs, hcell, hbind⟩ := XF.lk
  obtain ⟨oI, hoI, hcI⟩ : ∃ oI, hp.get? fI = some oI ∧ oI.cls = .type "function" := by
    obtain ⟨o, ho, hc⟩ := Option.map_eq_some_iff.mp (show (K.lookup fI).map (·.cls) = some (.type "function") from beq_iff_eq.mp XF.fn)
    exact ⟨o, X _ _ ho, hc⟩
  refine wpAny_call (PX.call_own XC.fb hT hC (looks_findIn X XF.ini) (fun self => exc_bind hoI hcI self) (by simp [sizeLine_eq]) ?_)
  have kk : ∀ b o, hp.get? b = some o → ((hp.push (kdv_tup [])).push (PX.excO C hp.objs.size)).get? b = some o := fun b o e => Heap.get?_push_of_some _ (Heap.get?_push_of_some _ e)
  have hx : ((hp.push (kdv_tup [])).push (PX.excO C hp.objs.size)).get? (hp.objs.size + 1) = some (excObj C hp.objs.size none .none) := by heap_get
  have X2 := X.keeps kk
  have hl : ([Value.ref (hp.objs.size + 1)] : List Value).length = params.args.length := by
    have e := congrArg List.length hpar
    rw [List.length_map] at e
    exact e.symm
  have hb0 := hbind ⟨(hp.push (kdv_tup [])).push (PX.excO C hp.objs.size), g, d, t, os⟩ [.ref (hp.objs.size + 1)] hl
  rw [hpar] at hb0
  have lo1 : scope.names.lookup ("self" : Str) = some .local := by
    have z : ("self" : Str) ∈ params.args.map (·.arg) := by rw [hpar]; simp
    obtain ⟨x, hx, e⟩ := List.mem_map.mp z
    rw [← e]; exact XF.lo x hx
  obtain ⟨ar, hd1, har⟩ : ∃ ar, (params.posonlyargs ++ params.args).head? = some ar ∧ ar.arg = "self" := by
    rw [XF.po, List.nil_append]
    cases h : params.args with
    | nil => rw [h] at hpar; cases hpar
    | cons x l =>
      rw [h, List.map_cons] at hpar
      exact ⟨x, rfl, (List.cons.inj hpar).1⟩
  refine ks_codeAny_call_defAt (fd := ksFn "__init__" qual params (xbody0 msg p0 p1 p2 p3 p4 p5 j) scope dV kV doc pm an (.ref cda) ct cc) (body := xbody0 msg p0 p1 p2 p3 p4 p5 j) (binds := [(("self" : Str), .ref (hp.objs.size + 1))]) room (X2 _ _ lk) rfl (lim.keeps kk) (codeRec_of X2 hcode) rfl hb0 XF.nc
    (fun y hy => by
      rcases List.mem_cons.mp hy with rfl | hy
      · exact lo1
      · cases hy) (fun h0 hns kp => ?_) XF.co XF.gn XF.kn
  have k0 : ∀ b o, hp.get? b = some o → h0.get? b = some o := fun b o e => kp b o (kk b o e)
  have X0 := X.keeps k0
  have hx0 := kp _ _ hx
  obtain ⟨pl, he⟩ := hev (callEnv (ksFn "__init__" qual params (xbody0 msg p0 p1 p2 p3 p4 p5 j) scope dV kV doc pm an (.ref cda) ct cc) ((hp.push (kdv_tup [])).push (PX.excO C hp.objs.size)).objs.size fI) rfl
  have ms : (fun y => ([(("self" : Str), Value.ref (hp.objs.size + 1))] : List (Str × Value)).reverse.lookup y) ("self" : Str) = some (.ref (hp.objs.size + 1)) := by
    simp [List.lookup_cons]
  have hin : interactive (callEnv (ksFn "__init__" qual params (xbody0 msg p0 p1 p2 p3 p4 p5 j) scope dV kV doc pm an (.ref cda) ct cc) ((hp.push (kdv_tup [])).push (PX.excO C hp.objs.size)).objs.size fI) = false := by
    show (scope.kind == .module && _) = false
    rw [XF.kn]
    rfl
  refine ks_wpAt_execs_cons (xsuper (ar := ar) (cda := cda) (cc := cc) (m := fun y => ([(("self" : Str), Value.ref (hp.objs.size + 1))] : List (Str × Value)).reverse.lookup y) XC X0 (G.keeps k0) hs (Bn.keeps k0) hb hx0 hns (by rw [har]; exact ms) XF.ks XF.kc (by rw [har]; exact lo1) XF.kn rfl (k0 _ _ (X _ _ lk)) rfl hd1 rfl hcc hvs XF.top rfl rfl rfl hcell he hin (hsw _ rfl) fun h1 t2 tk1 kx hx1 => ?_)
  refine wpAt_of_wpAny ?_
  show wpAny _ _ (pure Flow.next) _ _ _
  refine wpAny_pure ⟨rfl, ?_⟩
  have ne : ∀ {b : Addr} {o : Obj}, hp.get? b = some o → b ≠ hp.objs.size + 1 := fun {b o} e z => by
    rw [z] at e
    exact absurd (Heap.lt_size e) (by simp)
  exact hq h1 tk1 (hp.objs.size + 1) t2 (fun b o e => kx b o (ne e) (k0 b o e)) (Nat.le_succ _) hx1
end
structure XTx (scope : Scope) (msg f p : Str) (p0 p1 p2 p3 p4 p5 p6 p7 p8 p9 : Pos) (j : Nat) : Prop where
  hev : ∀ env : PySem.Env, env.scope = scope → ∃ pl, eval (.Call (.Attribute (.Call (.Name "super" p0) [] [] p1) "__init__" p2) [.Constant (.str msg) j p3] [] p4) env = (do
      let ov ← attributeBase (.Call (.Name "super" p0) [] [] p1) "__init__" env (eval (.Call (.Name "super" p0) [] [] p1) env)
      standAt p2.atName
      let (f, first) ← holding [ov] (getMethod ov "__init__" pl)
      callWith p4 f first (backTo p4 (starEach [.Constant (.str msg) j p3] env)) [])
  hsw : ∀ env : PySem.Env, env.scope = scope → swapsWith (.Call (.Attribute (.Call (.Name "super" p0) [] [] p1) "__init__" p2) [.Constant (.str msg) j p3] [] p4) none p5.line env = pure false
  hsw2 : ∀ env : PySem.Env, env.scope = scope → swapsWith (.Name p p8) (some (.Attribute (.Name "self" p6) f p7)) p9.line env = pure false
  hdb : (p == ("__debug__" : Str)) = false
def XC1 (P : Program) (K : PySem.W.Frag) (mg : Str → Option Value) (c : Str) : Prop :=
  ∃ (C fI : Addr) (B newId i : String) (bmB : List Value) (qual msg f p : Str) (params : Arguments) (scope : Scope) (p0 p1 p2 p3 p4 p5 p6 p7 p8 p9 : Pos) (j : Nat),
    mg c = some (.ref C) ∧ PySem.W.keepIn K (.ref C) = true ∧ PySem.W.subIn K (.ref C) (.type "BaseException") = some true ∧ PySem.W.typeIn K (.ref C) = some (.type "type") ∧ fieldOf c = some f ∧
    XCls K C B newId i bmB ∧ XFun P K C fI qual params (xbody msg f p p0 p1 p2 p3 p4 p5 p6 p7 p8 p9 j) scope ∧ XTx scope msg f p p0 p1 p2 p3 p4 p5 p6 p7 p8 p9 j ∧ params.args.map (·.arg) = [("self" : Str), p] ∧ p ≠ "self" ∧ PySem.W.findIn K (.ref C) f = some none
variable [Tb]
section
variable {X : Cx} {W : Wx}
theorem inv_blt {pins : List (Addr × Obj)} {σ : L2.St} {H : Hp} {s : Shared} (I : Inv X pins σ H s) : ∃ mb, s.heap.Ns builtinsNs mb ∧ mb "super" = some (.type "super") := by
  obtain ⟨mb, h1, h2⟩ := I.ok.mod.blt
  exact ⟨mb, h1.keeps I.bk, (h2 "super" (by decide)).trans (by decide +kernel)⟩
theorem pmk_x1 {c : Str} {C : Addr} {f : Str} {e : Expr} {te : TE} {p pos : Pos} {k : Nat} (XC : XC1 X.prog X.K X.mg c) (hC : X.mg c = some (.ref C)) (hf : fieldOf c = some f) (hs : X.mg "super" = none) (hr : Room (k + 1) X.A) (hg : Gl X c) (he : PE X e te)
    (hst : starEach [e] X.env = (false, eval e X.env) :: starEach [] X.env := by rfl) (hdb : (c == ("__debug__" : Str)) = false := by decide) :
    PMk X (.Call (.Name c p) [e] [] pos) (fun σ H Q => te σ H fun v H1 => ∀ dx, H1 dx = none → Q (.ref C) (some dx) (upd H1 dx (.xd [(f, v)]))) := by
  intro pins s σ H Q I h
  obtain ⟨C', fI, B, newId, i, bmB, qual, msg, f', p', params, scope, p0, p1, p2, p3, p4, p5, p6, p7, p8, p9, j, hC', kC, sub, ty, hf', XK, XF, XT, hpar, hps, hff⟩ := XC
  rw [hC] at hC'
  cases hC'
  rw [hf] at hf'
  cases hf'
  refine wpAny_Call_Name_kw (ld_glob I hg hC ?_ hdb)
  refine PySem.W.callWith_K (h₀ := X.base) I.ok.mod.kin kC ?_ hst (by rfl)
  rw [hst]
  show wpAny _ _ (spliced ((false, eval e X.env) :: backTo pos (starEach [] X.env))) _ _ s
  refine Calls.spliced_cons (thn (he.run pins s σ H _ I h) fun u s1 ⟨v, H1, I1, r1, q1⟩ => ?_)
  refine Calls.spliced_nil ⟨I1.kIn, ?_⟩
  show wpAny _ _ (call (.ref C) [u]) _ _ _
  obtain ⟨mb, nb, eb⟩ := inv_blt I1
  have G1 := I1.ok.mod.glob.keeps I1.bk
  have room := (hr.make C [u] []).depth
  obtain ⟨hp, g, d, t, os⟩ := s1
  refine xmake1 XK XF hpar hps hff XT.hev XT.hsw XT.hsw2 XT.hdb I1.kIn G1 hs nb eb I1.nolimit room fun h' tk' a dx t1 kk ha hdx hne hx hns => ?_
  obtain ⟨G, g1, g2⟩ := restrict h' fun b => decide (b ≠ a)
  have gk : ∀ b o, b ≠ a → h'.get? b = some o → G.get? b = some o := fun b o hb e => by
    rw [g1 b (decide_eq_true hb)]; exact e
  have ga : G.get? a = none := g2 a (decide_eq_false fun z => z rfl)
  have gs : ∀ b o, G.get? b = some o → h'.get? b = some o := fun b o e => by
    by_cases hb : b = a
    · rw [hb, ga] at e; cases e
    · rw [← g1 b (decide_eq_true hb)]; exact e
  have nea : ∀ {b : Addr} {o : Obj}, hp.get? b = some o → b ≠ a := fun {b o} z => Nat.ne_of_lt (Nat.lt_of_lt_of_le (Heap.lt_size z) ha)
  have J := I1.laid (t' := tk') (a := dx) (o := .xd [(f, v)]) (h' := G) (fun b o e => gk b o (nea e) (kk b o e)) hdx
    ⟨fun y => if y = f then some u else none, (by
      obtain ⟨o, es, ep, e1, e2⟩ := hns
      exact ⟨o, es, ep, gk _ _ hne e1, e2⟩), fun y => by
      by_cases hy : y = f
      · subst hy
        simp only [List.lookup_cons, beq_self_eq_true, if_true]
        exact r1
      · have : (y == f) = false := beq_eq_false_iff_ne.mpr hy
        simp only [List.lookup_cons, this, if_neg hy, List.lookup_nil]
        trivial⟩
  have hn : H1 dx = none := I1.hok.fresh hdx
  exact ⟨a, _, _, _, _, .ref C, some dx, rfl, J, gs, ga, hx, ⟨rfl, rfl⟩, rfl, rfl, by rw [upd_ne (Ne.symm hne)]; exact I1.hok.fresh ha, rfl, I1.bare, raises_own sub ty, q1 dx hn⟩
def svRaise1 (c : Str) (f : Ev) : Sv := fun e h => (pv f e h).toFl e fun d h1 => .exc (.exc c [d]) e h1
theorem den_raise1 {c : Str} {ex : Expr} {p pos pos' : Pos} {f : Ev} {k : Nat} (XC : XC1 X.prog X.K X.mg c) (hs : X.mg "super" = none) (hr : Room k X.A) (tk : Takes X W) (he : DenE X W ex f) (hjk : 1 ≤ k := by decide) (hg : Gl X c := by rfl) (hc : X.calm = true := by rfl)
    (hst : starEach [ex] X.env = (false, eval ex X.env) :: starEach [] X.env := by rfl) (hdb : (c == ("__debug__" : Str)) = false := by decide) :
    DenS X W (.Raise (some (.Call (.Name c p) [ex] [] pos)) none pos') (svRaise1 c f) := by
  obtain ⟨C, fn, hC, hf⟩ : ∃ C fn, X.mg c = some (.ref C) ∧ fieldOf c = some fn := by
    obtain ⟨C', fI, B, newId, i, bmB, qual, msg, f', p', params, scope, p0, p1, p2, p3, p4, p5, p6, p7, p8, p9, j, hC', kC, sub, ty, hf', _⟩ := XC
    exact ⟨_, _, hC', hf'⟩
  refine PS.imp (ps_raise hc tk (pmk_x1 (k := 0) XC hC hf hs (hr.mono hjk) hg (den_pv he) hst hdb)) fun N σ H ⟨r, e, h, er, hr, ok⟩ => ?_
  unfold svRaise1 at ok
  refine rdV_bindS er hr ok fun d h1 v r1 H1 s1 hr1 t1 er1 ok1 => fun dx hdx => ?_
  have s2 : Step r1 H1 r1 (upd H1 dx (.xd [(fn, v)])) := Step.alloc hdx
  exact ok1 _ _ σ r1 _ s2 (er1.mono s2.mn) (hr1.alloc hdx) (.e1 hC hf (fun z => hr1.there z hdx) upd_same (t1.mono s2.mn))
end
end BW

set_option Elab.async false
set_option linter.all false
set_option maxRecDepth 100000
set_option maxHeartbeats 4000000
namespace BW
open PySem PySem.Spec PyProof.Rows L2
section
variable {X : Cx} {pins : List (Addr × Obj)} {σ : L2.St} {H : Hp} {s : Shared}
end
section
variable {X : Cx} {x1 x2 n y : Str} {c1 c2 : Value} {i j kk : Nat} {body : List Stmt} {np1 np2 tp py pn' pa pos pos' : Pos} {tb : WX → TS} {Wout : WX}
end
end BW

set_option Elab.async false
set_option linter.all false
set_option maxRecDepth 100000
set_option maxHeartbeats 4000000
namespace BW
open PySem PySem.Spec PyProof.Rows L2
section
open PySem.W PySem.Calls
variable {prog : Program} {w : World} {A : Around} {E : Value → Shared → Prop} {s : Shared} {K : Frag} {x D : Addr} {ox : Obj}
end
variable [Tb]
section
variable {X : Cx} {W : Wx}
end
end BW

set_option Elab.async false
set_option linter.all false
set_option maxRecDepth 100000
set_option maxHeartbeats 4000000
namespace BW
open PySem PySem.Spec PyProof.Rows L2
section
open PySem.W
variable {M : Model} {A : Around} {E : Value → Shared → Prop} {s : Shared} {qual : Str} {params : Arguments} {body : Expr} {scope : Scope} {env : PySem.Env} {c P : Addr} {ps : Array Value} {pos : Pos} {firstLine : Nat} {mg : Str → Option Value}
  {clos : List (Str × Addr)} {Q : Value → Shared → Prop} {dV : Value}
end
section
variable {X : Cx} {pins : List (Addr × Obj)} {σ : L2.St} {H : Hp} {s : Shared}
end
section
variable {X : Cx} {pins : List (Addr × Obj)} {σ : L2.St} {H HZ : Hp} {s s1 : Shared}
end
section
variable {X : Cx}
end
end BW

set_option Elab.async false
set_option linter.all false
set_option maxRecDepth 100000
set_option maxHeartbeats 4000000
namespace BW
open PySem PySem.Spec PyProof.Rows L2
variable [Tb]
section
variable {K : PySem.W.Frag} {mg : Str → Option Value}
end
abbrev Lv := AH → Out D
section
variable {X : Cx} {W : Wx}
end
end BW

set_option Elab.async false
set_option linter.all false
set_option maxRecDepth 100000
set_option maxHeartbeats 4000000
namespace BW
open PySem PySem.Spec PyProof.Rows L2
variable [Tb]
section
variable {X : Cx}
end
end BW

set_option Elab.async false
set_option linter.all false
set_option maxRecDepth 100000
set_option maxHeartbeats 4000000
namespace BW
open PySem PySem.Spec PyProof.Rows L2
section
open PySem.W
def xclsB (K : Frag) (C : Addr) (B newId i : String) (bmB : List Value) : Bool :=
  excInitIn K C bmB newId && (excOver K C bmB && (hasDictIn K C && (decide (findIn K (.ref C) "__setattr__" = some (some (.builtin "object.__setattr__"))) && (decide (subIn K (.ref C) (.type B) = some true) &&
    (decide (ks_superIn K C C "__init__" = some (some (.builtin i))) && (decide (nsIn K cStatics "thirdparty.any" = some none) && (decide (mroIn K C (.ref C) = some true) && (keepIn K (.ref C) && (decide (subIn K (.ref C) (.type "BaseException") = some true) && decide (typeIn K (.ref C) = some (.type "type")))))))))))
theorem xcls_of {K : Frag} {C : Addr} {B newId i : String} {bmB : List Value} (fb : ExcBaseFacts B newId i bmB) (kf : KxsFacts B i) (sf : StoreFacts B bmB "object.__setattr__" "object") (h : xclsB K C B newId i bmB = true) :
    XCls K C B newId i bmB ∧ keepIn K (.ref C) = true ∧ subIn K (.ref C) (.type "BaseException") = some true ∧ typeIn K (.ref C) = some (.type "type") := by
  unfold xclsB at h
  simp only [Bool.and_eq_true, decide_eq_true_eq] at h
  obtain ⟨h1, h2, h3, h4, h5, h6, h7, h8, h9, h10, h11⟩ := h
  exact ⟨⟨fb, kf, sf, h1, h2, h3, h4, h5, h6, h7, h8⟩, h9, h10, h11⟩
abbrev veT : List Value := [.type "ValueError", .type "Exception", .type "BaseException", .type "object"]
abbrev ovT : List Value := [.type "OverflowError", .type "ArithmeticError", .type "Exception", .type "BaseException", .type "object"]
def xB (K : Frag) (C : Addr) (ov : Bool) : Bool := if ov then xclsB K C "OverflowError" "OverflowError.__new__" "OverflowError.__init__" ovT else xclsB K C "ValueError" "ValueError.__new__" "ValueError.__init__" veT
theorem xB_ok {K : Frag} {C : Addr} {ov : Bool} (h : xB K C ov = true) : ∃ B newId i bmB, XCls K C B newId i bmB ∧ keepIn K (.ref C) = true ∧ subIn K (.ref C) (.type "BaseException") = some true ∧ typeIn K (.ref C) = some (.type "type") := by
  unfold xB at h
  split at h
  · exact ⟨_, _, _, _, xcls_of PySem.F.excBase_OverflowError kxs_OverflowError PySem.F.store_OverflowError h⟩
  · exact ⟨_, _, _, _, xcls_of PySem.F.excBase_ValueError kxs_ValueError PySem.F.store_ValueError h⟩
end
def xscB (prog : Program) (params : Arguments) (scope : Scope) : Bool :=
  params.posonlyargs.isEmpty && (!(prog.main.scope.names.lookup ("super" : Str)).isSome && (decide (scope.names.lookup ("super" : Str) = some .globalImplicit) && (decide (scope.names.lookup ("__class__" : Str) = some .free) && (decide (scope.kind = .function) && (!scope.isCoroutine && (!scope.isGenerator &&
    ((scope.names.all fun x => !decide (x.2 = .cell)) && params.args.all fun x => decide (scope.names.lookup x.arg = some .local))))))))
theorem xfun_mk {P : Program} {K : PySem.W.Frag} {C fI cda cc : Addr} {qual : Str} {st : Stmt} {body : List Stmt} {oc dV kV doc pm ct : Value} {od an : Option Addr} {osl : Array (Option Value)} {vs : Array Value} {ccl cl : Value} {cdd cld : Option Addr} {ccs csl : Array (Option Value)} {tf : Tok}
    (l : K.lookup fI = some ⟨oc, od, .func (PySem.W.ksFn "__init__" qual (defArgs st) (defBody st) (defScope st) dV kV doc pm an (.ref cda) ct cc), osl⟩) (hc : PySem.W.codeIn K (.ref cda) qual = true) (lc : K.lookup cda = some ⟨ccl, cdd, .fields vs, ccs⟩) (hv : vs[2]? = some (.str P.main.file tf))
    (lcc : K.lookup cc = some ⟨cl, cld, .cell (some (.ref C)), csl⟩) (hfn : PySem.W.isFn K (.ref fI) = true) (ini : PySem.W.findIn K (.ref C) "__init__" = some (some (.ref fI))) (hb : defBody st = body) (hs : xscB P (defArgs st) (defScope st) = true)
    (hbind : ∀ (s : Shared) (us : List Value), us.length = (defArgs st).args.length → BindsTo s (PySem.W.ksFn "__init__" qual (defArgs st) (defBody st) (defScope st) dV kV doc pm an (.ref cda) ct cc) ⟨us, []⟩ (((defArgs st).args.map (·.arg)).zip us)) :
    XFun P K C fI qual (defArgs st) body (defScope st) := by
  subst hb
  unfold xscB at hs
  simp only [Bool.and_eq_true, Bool.not_eq_true', decide_eq_true_eq, List.all_eq_true, decide_eq_false_iff_not, List.isEmpty_iff] at hs
  obtain ⟨h1, h2, h3, h4, h5, h6, h7, h8, h9⟩ := hs
  exact ⟨⟨oc, od, osl, dV, kV, doc, pm, an, cda, ct, cc, vs, ccl, cdd, ccs, tf, cl, cld, csl, l, hc, lc, hv, lcc, hbind⟩, hfn, ini, h1, h2, h3, h4, h5, h6, h7, h8, h9⟩
variable [Tb]
section
variable {P : Program} {w : World} {K : PySem.W.Frag} {mg : Str → Option Value} {base : Heap}
end
end BW
namespace BW
open PySem PySem.Spec PyProof.Rows L2
variable [Tb]
section
variable {X : Cx} {W : Wx}
end
end BW
namespace BW
open PySem PySem.Spec PyProof.Rows L2
theorem xc1_mk {P : Program} {K : PySem.W.Frag} {mg : Str → Option Value} {c qual : Str} {st : Stmt} {ov : Bool} {C fI cda cc : Addr} {oc dV kV doc pm ct : Value} {od an : Option Addr} {osl : Array (Option Value)} {vs : Array Value} {ccl cl : Value} {cdd cld : Option Addr} {ccs csl : Array (Option Value)} {tf : Tok}
    {msg f p : Str} {p0 p1 p2 p3 p4 p5 p6 p7 p8 p9 : Pos} {j : Nat}
    (hm : mg c = some (.ref C)) (hx : xB K C ov = true) (l : K.lookup fI = some ⟨oc, od, .func (PySem.W.ksFn "__init__" qual (defArgs st) (defBody st) (defScope st) dV kV doc pm an (.ref cda) ct cc), osl⟩) (hc : PySem.W.codeIn K (.ref cda) qual = true) (lc : K.lookup cda = some ⟨ccl, cdd, .fields vs, ccs⟩) (hv : vs[2]? = some (.str P.main.file tf))
    (lcc : K.lookup cc = some ⟨cl, cld, .cell (some (.ref C)), csl⟩) (hfn : PySem.W.isFn K (.ref fI) = true) (ini : PySem.W.findIn K (.ref C) "__init__" = some (some (.ref fI))) (hs : xscB P (defArgs st) (defScope st) = true) (hfl : PySem.W.findIn K (.ref C) f = some none)
    (hb : defBody st = xbody msg f p p0 p1 p2 p3 p4 p5 p6 p7 p8 p9 j) (hf : fieldOf c = some f) (hpar : (defArgs st).args.map (·.arg) = [("self" : Str), p]) (hps : p ≠ "self") (T : XTx (defScope st) msg f p p0 p1 p2 p3 p4 p5 p6 p7 p8 p9 j)
    (hbind : ∀ (s : Shared) (us : List Value), us.length = (defArgs st).args.length → BindsTo s (PySem.W.ksFn "__init__" qual (defArgs st) (defBody st) (defScope st) dV kV doc pm an (.ref cda) ct cc) ⟨us, []⟩ (((defArgs st).args.map (·.arg)).zip us)) : XC1 P K mg c := by
  obtain ⟨B, newId, i, bmB, x1, x2, x3, x4⟩ := xB_ok hx
  exact ⟨C, fI, B, newId, i, bmB, qual, msg, f, p, defArgs st, defScope st, p0, p1, p2, p3, p4, p5, p6, p7, p8, p9, j, hm, x2, x3, x4, hf, x1, xfun_mk l hc lc hv lcc hfn ini hb hs hbind, T, hpar, hps, hfl⟩
end BW

set_option Elab.async false
set_option linter.all false
set_option maxRecDepth 100000
set_option maxHeartbeats 4000000
namespace BW
open PySem PySem.Spec PyProof.Rows L2
variable [Tb]
section
variable {X : Cx} {W : Wx}
end
end BW

set_option Elab.async false
set_option linter.all false
set_option maxRecDepth 100000
set_option maxHeartbeats 4000000
namespace BW
open PySem PySem.Spec PyProof.Rows L2
structure DctG (K : PySem.W.Frag) (mg : Str → Option Value) (x : Str) (tab : List (Int × List Int)) : Prop where
  ex : ∃ p es n, mg x = some (.ref p) ∧ K.lookup p = some ⟨.type "dict", none, .dict es n, #[]⟩ ∧ (∀ e ∈ es.toList, ∃ i t, e.key = .int i t ∧ e.hash = hashInt i) ∧
    ∀ k l, tab.lookup k = some l → ∃ q, findBy Value.isInt es k = some (.ref q) ∧ ∀ H, SqT K H q (l.map V.int)
def evWg (tab : List (Int × List Int)) (f : Ev) : Ev := fun e h => (f e h).bind fun d h1 => match d with
  | .int k => match tab.lookup k with
    | some l => .ok (.kt l) h1
    | none => .stuck
  | _ => .stuck
def opIxK (h : AH) (x y : D) : Option D := match x, y with
  | .kt xs, .int i => (atI (xs.map V.int) i).bind fun v => match v with
    | .int j => some (.int j)
    | _ => none
  | x, y => opIx h x y
section
variable [Tb] {X : Cx} {W : Wx}
def rWg (es : Array DictEntry) (p : Addr) : R2 := fun x y H Q => ∃ k q, x = .ref p ∧ y = .int k ∧ findBy Value.isInt es k = some (.ref q) ∧ Q (.ref q) H
theorem ix_wg {p : Addr} {es : Array DictEntry} {n : Nat} (hl : X.K.lookup p = some ⟨.type "dict", none, .dict es n, #[]⟩) (hk : ∀ e ∈ es.toList, ∃ i t, e.key = .int i t ∧ e.hash = hashInt i) : IxR X (rWg es p) := by
  intro value slice pins s σ H x y v u Q I rx ry h hs
  obtain ⟨k, a, rfl, rfl, hf, q⟩ := h
  obtain rfl : v = Value.ref p := rx
  obtain ⟨t, rfl⟩ := (show ∃ t, u = Value.int k t from ry)
  have hm : s.heap.MapOf (intKind X.prog X.w) p (fun k => findBy Value.isInt es k) :=
    ⟨_, es, n, I.kIn _ _ hl, ⟨rfl, rfl, rfl⟩, rfl, fun e he => by
      obtain ⟨i, t, e1, e2⟩ := hk e (Array.mem_toList_iff.mpr he)
      exact ⟨i, by rw [e1]; exact intKind_is _ _ i t, e2⟩, fun _ => rfl⟩
  exact tail_any hm.typeIs slot_dict_getitem.lookup (wpAny_getItem_of (intKind_is X.prog X.w k t) hm hf ⟨.ref a, H, I.tok _, rfl, q⟩) hs
theorem den_wget {x : Str} {tab : List (Int × List Int)} {b : Expr} {p pos : Pos} {f : Ev} (T : DctG X.K X.mg x tab) (hg : Gl X x) (hb : DenE X W b f) (hdb : (x == ("__debug__" : Str)) = false := by decide) (hs : PlainIx b := by exact fun _ _ => rfl) : DenE X W (.Subscript (.Name x p) b pos) (evWg tab f) := by
  obtain ⟨a, es, n, hm, hl, hk, hv⟩ := T.ex
  refine PE.imp (pe_ix (ix_wg hl hk) (pe_glob (v := .ref a) hg hm rfl hdb) hb hs) fun σ H Q ⟨r, e, h, er, hr, ok⟩ => ?_
  unfold evWg at ok
  refine rdE_bind er hr ok fun d h1 v r1 H1 s1 hr1 t1 er1 ok1 => ?_
  cases d with
  | int k =>
    dsimp only at ok1
    cases hlk : tab.lookup k with
    | none => rw [hlk] at ok1; exact ok1.elim
    | some l =>
      rw [hlk] at ok1
      obtain ⟨q, h1, h2⟩ := hv k l hlk
      obtain rfl := t1.u.int_inv
      exact ⟨k, q, rfl, rfl, h1, ok1 _ r1 H1 (Step.refl _ _) hr1 (.val (.kt h2))⟩
  | _ => exact ok1.elim
theorem ixdK : IxR X (rdO X.K X.mg opIxK) := fun value slice pins s σ H x y v u Q I rx ry q => by
  obtain ⟨r, h, dx, dy, d, hr, tx, ty, hg, q⟩ := q
  unfold opIxK at hg
  split at hg
  · rename_i xs i
    cases tx with
    | val tx =>
      cases tx with
      | @kt a xs hT =>
        cases hat : atI (xs.map V.int) i with
        | none => rw [hat] at hg; cases hg
        | some w =>
          rw [hat] at hg
          cases w with
          | int j =>
            simp only [Option.bind_some, Option.some.injEq] at hg
            subst hg
            exact ix_tup value slice pins s σ H _ y v u Q I rx ry ⟨a, _, i, .int j, rfl, ty.int_inv, hT H, hat, q _ H (Step.refl r H) hr (.val (.int _))⟩
          | _ => cases hg
  · exact ixd value slice pins s σ H x y v u Q I rx ry ⟨r, h, _, _, d, hr, tx, ty, hg, q⟩
theorem den_ixK {a b : Expr} {pos : Pos} {fa fb : Ev} (ha : DenE X W a fa) (hb : DenE X W b fb) (hs : PlainIx b := by exact fun _ _ => rfl) : DenE X W (.Subscript a b pos) (evOp opIxK fa fb) :=
  PE.imp (pe_ix ixdK ha hb hs) fun σ H Q q => rdO_of q
end
theorem sqK {K : PySem.W.Frag} {q : Addr} {d : Option Addr} {n : Nat} {sl : Array (Option Value)} {a b : Int} {ta tb : Tok} (h : K.lookup q = some ⟨.type "tuple", d, .seq #[.int a ta, .int b tb] n, sl⟩) (H : Hp) : SqT K H q ([a, b].map V.int) :=
  .inr ⟨_, _, _, h, rfl, rfl, (show (2 : Nat) ≤ sizeLine from by decide), .cons ⟨_, rfl⟩ (.cons ⟨_, rfl⟩ .nil)⟩
theorem dctg5 {K : PySem.W.Frag} {mg : Str → Option Value} {x : Str} {p q0 q1 q2 q3 q4 : Addr} {n : Nat} {k0 k1 k2 k3 k4 h0 h1 h2 h3 h4 : Int} {t0 t1 t2 t3 t4 : Tok} {a0 a1 a2 a3 a4 b0 b1 b2 b3 b4 : Int} {ta0 ta1 ta2 ta3 ta4 tb0 tb1 tb2 tb3 tb4 : Tok} {d0 d1 d2 d3 d4 : Option Addr} {n0 n1 n2 n3 n4 : Nat} {s0 s1 s2 s3 s4 : Array (Option Value)}
    (hm : mg x = some (.ref p)) (hl : K.lookup p = some ⟨.type "dict", none, .dict #[⟨h0, .int k0 t0, .ref q0⟩, ⟨h1, .int k1 t1, .ref q1⟩, ⟨h2, .int k2 t2, .ref q2⟩, ⟨h3, .int k3 t3, .ref q3⟩, ⟨h4, .int k4 t4, .ref q4⟩] n, #[]⟩)
    (l0 : K.lookup q0 = some ⟨.type "tuple", d0, .seq #[.int a0 ta0, .int b0 tb0] n0, s0⟩) (l1 : K.lookup q1 = some ⟨.type "tuple", d1, .seq #[.int a1 ta1, .int b1 tb1] n1, s1⟩) (l2 : K.lookup q2 = some ⟨.type "tuple", d2, .seq #[.int a2 ta2, .int b2 tb2] n2, s2⟩) (l3 : K.lookup q3 = some ⟨.type "tuple", d3, .seq #[.int a3 ta3, .int b3 tb3] n3, s3⟩) (l4 : K.lookup q4 = some ⟨.type "tuple", d4, .seq #[.int a4 ta4, .int b4 tb4] n4, s4⟩)
    (e0 : h0 = hashInt k0) (e1 : h1 = hashInt k1) (e2 : h2 = hashInt k2) (e3 : h3 = hashInt k3) (e4 : h4 = hashInt k4) : DctG K mg x [(k0, [a0, b0]), (k1, [a1, b1]), (k2, [a2, b2]), (k3, [a3, b3]), (k4, [a4, b4])] := by
  refine ⟨p, _, n, hm, hl, fun e he => ?_, fun k l hk => ?_⟩
  · simp only [List.mem_cons, List.not_mem_nil, or_false] at he
    rcases he with rfl | rfl | rfl | rfl | rfl
    · exact ⟨_, _, rfl, e0⟩
    · exact ⟨_, _, rfl, e1⟩
    · exact ⟨_, _, rfl, e2⟩
    · exact ⟨_, _, rfl, e3⟩
    · exact ⟨_, _, rfl, e4⟩
  · have fb : ∀ (es : List DictEntry), findBy Value.isInt es.toArray k = (es.find? fun e => Value.isInt k e.key).map (·.val) := fun es => by
      unfold findBy; rw [List.find?_toArray]
    rw [fb]
    have isI : ∀ (i : Int) (t : Tok), Value.isInt k (.int i t) = (k == i) := fun i t => by
      simp only [Value.isInt]
      by_cases h : k = i
      · subst h; simp
      · simp [h, Ne.symm h, beq_eq_false_iff_ne.mpr h, beq_eq_false_iff_ne.mpr (Ne.symm h)]
    simp only [List.lookup] at hk
    simp only [List.find?, isI]
    by_cases c0 : (k == k0) = true
    · simp only [c0] at hk ⊢; cases hk; exact ⟨q0, rfl, sqK l0⟩
    by_cases c1 : (k == k1) = true
    · simp only [c0, c1] at hk ⊢; cases hk; exact ⟨q1, rfl, sqK l1⟩
    by_cases c2 : (k == k2) = true
    · simp only [c0, c1, c2] at hk ⊢; cases hk; exact ⟨q2, rfl, sqK l2⟩
    by_cases c3 : (k == k3) = true
    · simp only [c0, c1, c2, c3] at hk ⊢; cases hk; exact ⟨q3, rfl, sqK l3⟩
    by_cases c4 : (k == k4) = true
    · simp only [c0, c1, c2, c3, c4] at hk ⊢; cases hk; exact ⟨q4, rfl, sqK l4⟩
    · simp only [c0, c1, c2, c3, c4] at hk; cases hk
end BW

set_option Elab.async false
set_option linter.all false
set_option maxRecDepth 100000
set_option maxHeartbeats 4000000
namespace BW
open PySem PySem.Spec PyProof.Rows L2
section
variable {prog : Program} {w : World} {A : Around} {E : Value → Shared → Prop} {s : Shared}
theorem adjust_rev (n : Nat) : Builtin.Slice.sliceAdjust none none (-1) (n : Int) = ((n : Int) - 1, -1) := by
  unfold Builtin.Slice.sliceAdjust
  simp
theorem places_rev (n : Nat) : Builtin.Slice.slicePlaces ((n : Int) - 1) (-1) (-1) = n := by
  unfold Builtin.Slice.slicePlaces
  have h1 : ¬ ((-1 : Int) > 0) := by omega
  simp only [h1, if_false]
  by_cases h : (n : Int) - 1 > -1
  · rw [if_pos h]
    have : ((n : Int) - 1 - -1 - 1) / (- -1) + 1 = n := by
      rw [show (- -1 : Int) = 1 by omega, Int.ediv_one]; omega
    rw [this]; simp
  · rw [if_neg h]; omega
theorem applied_rev {sl : Addr} {vl vu vs : Value} {n : Nat} {Q : Int × Int × Nat → Shared → Prop} (hs : s.heap.IsSliceOf sl vl vu vs) (pl : IsPart vl none) (pu : IsPart vu none) (ps : IsPart vs (some (-1)))
    (h : Q ((n : Int) - 1, -1, n) s) : wpAny (model prog w) A (Builtin.Slice.sliceApplied (.ref sl) (pure (n : Int))) Q E s := by
  obtain ⟨os, hos, hcs, hds⟩ := id hs
  unfold Builtin.Slice.sliceApplied Builtin.Slice.sliceFields
  refine wpAny_bind (wpAny_bind (wpAny_field hos hds (x := vl) rfl (wpAny_bind (wpAny_field hos hds (x := vu) rfl (wpAny_bind (wpAny_field hos hds (x := vs) rfl (wpAny_pure ?_)))))))
  refine wpAny_bind (HT.slicePart_ ps ?_)
  show wpAny _ _ (if ((-1 : Int) == 0) = true then _ else _) _ _ s
  rw [if_neg (by decide)]
  refine wpAny_bind (HT.slicePart_ pl (wpAny_bind (HT.slicePart_ pu (wpAny_bind (wpAny_pure ?_)))))
  show wpAny _ _ (match Builtin.Slice.sliceAdjust none none (-1) (n : Int) with | (lo, hi) => pure (lo, (-1 : Int), Builtin.Slice.slicePlaces lo hi (-1))) _ _ s
  rw [adjust_rev n]
  show wpAny _ _ (pure ((n : Int) - 1, (-1 : Int), Builtin.Slice.slicePlaces ((n : Int) - 1) (-1) (-1))) _ _ s
  rw [places_rev]
  exact wpAny_pure h
theorem pick_rev_aux (xs : List Value) : ∀ m, m ≤ xs.length → (List.range m).filterMap (fun (k : Nat) => xs.toArray[(((xs.length : Int) - 1) + (k : Int) * (-1)).toNat]?) = xs.reverse.take m
  | 0, _ => by simp
  | m + 1, h => by
    rw [List.range_succ, List.filterMap_append, pick_rev_aux xs m (by omega), List.take_add_one]
    congr 1
    have e : (((xs.length : Int) - 1) + (m : Int) * (-1)).toNat = xs.length - 1 - m := by omega
    have h2 : xs.length - 1 - m < xs.length := by omega
    have h3 : m < xs.reverse.length := by simp; omega
    simp only [List.filterMap_cons, List.filterMap_nil, e]
    rw [List.getElem?_eq_getElem h3]
    simp [h2]
theorem pick_rev (xs : List Value) : (List.range xs.length).filterMap (fun (k : Nat) => xs.toArray[(((xs.length : Int) - 1) + (k : Int) * (-1)).toNat]?) = xs.reverse := by
  rw [pick_rev_aux xs xs.length (Nat.le_refl _), ← List.length_reverse (as := xs), List.take_length]
theorem getItem_tuple_rev {t sl : Addr} {vals : List Value} {vl vu vs : Value} {Q : Value → Shared → Prop} (ht : IsTup s.heap t vals.toArray) (hs : s.heap.IsSliceOf sl vl vu vs) (pl : IsPart vl none) (pu : IsPart vu none) (ps : IsPart vs (some (-1)))
    (h : Q (.ref s.heap.objs.size) { s with heap := s.heap.push { cls := .type "tuple", data := .seq vals.reverse.toArray } })
    (hsz : vals.length ≤ sizeLine) : wpAny (model prog w) A (getItem (.ref t) (.ref sl)) Q E s := by
  have htake : sizeOk (.seq vals.reverse.toArray) := by
    show vals.reverse.toArray.size ≤ sizeLine
    rw [List.size_toArray, List.length_reverse]
    exact hsz
  obtain ⟨os, hos, hcs, hds⟩ := id hs
  have hTs : s.TypeIs (.ref sl) "slice" := ⟨os, hos, hcs⟩
  unfold getItem
  try with_reducible refine wpAny_holding ?_
  first | refine wpAny_bind (wpAny_pure ?_) | skip
  refine wpAny_bind (wpAny_sequenceKey ht.typeIs (by decide) ?_)
  refine wpAny_bind (wpAny_callSpecial?_slot (name := Str.ofString "__getitem__") ht.typeIs PyProof.Rows.slot_tuple_getitem
    (wpAny_call_entry PyProof.Rows.slot_tuple_getitem ht.typeIs entry_tuple_getitem ?_ (args_tuple_getitem _ _)))
  show wpAny _ _ (Builtin.Tuple.tupleItemsOf (.ref t) >>= _) _ _ s
  refine wpAny_bind (tupleItemsOf_ ht ?_)
  refine wpAny_bind (wpAny_typeOf hTs ?_)
  rw [if_pos (by decide)]
  refine wpAny_bind (applied_rev (n := vals.toArray.size) hs pl pu ps ?_)
  have hno : ¬ ((((vals.toArray.size : Int) - 1) == 0 && (-1 : Int) == 1 && vals.toArray.size == vals.toArray.size) = true) := by
    intro q
    rw [Bool.and_eq_true, Bool.and_eq_true] at q
    exact absurd q.1.2 (by decide)
  show wpAny _ _ (if (((vals.toArray.size : Int) - 1) == 0 && (-1 : Int) == 1 && vals.toArray.size == vals.toArray.size) = true then _ else _) _ _ s
  rw [if_neg hno, List.size_toArray, pick_rev]
  first
    | exact wpAny_bind (m := Builtin.Tuple.tupleExact _) (wpAny_newObj_type (wpAny_pure ⟨_, rfl, wpAny_pure h⟩) htake)
    | exact wpAny_bind (m := Builtin.Tuple.tupleExact _) (wpAny_newObj_type (wpAny_bind (wpAny_pure (wpAny_pure ⟨_, rfl, wpAny_pure h⟩))) htake)
    | exact wpAny_bind (wpAny_bind (m := Builtin.Tuple.tupleExact _) (wpAny_newObj_type (wpAny_pure (wpAny_pure ⟨_, rfl, wpAny_pure h⟩)) htake))
    | exact wpAny_bind (wpAny_bind (m := Builtin.Tuple.tupleExact _) (wpAny_newObj_type (wpAny_pure ⟨_, rfl, wpAny_pure h⟩) htake))
end
section
variable {X : Cx} {W : Wx}
def tRev (K : PySem.W.Frag) (te : TE) : TE := fun σ H Q => te σ H fun x H1 => ∃ a xs, x = .ref a ∧ ((SqL K H1 a xs ∧ ∀ p, H1 p = none → Q (.ref p) (upd H1 p (.lst xs.reverse))) ∨ (SqT K H1 a xs ∧ ∀ p, H1 p = none → Q (.ref p) (upd H1 p (.tup xs.reverse))))
theorem pe_rev {e : Expr} {te : TE} {k : Nat} {p1 p2 p3 pos : Pos} (he : PE X e te) : PE X (.Subscript e (.Slice none none (some (.UnaryOp .USub (.Constant (.int 1) k p1) p2)) p3) pos) (tRev X.K te) := by
  refine ⟨fun pins s σ H Q I h => ?_⟩
  refine Subscript_ (thn (he.run pins s σ H _ I h) fun v s1 ⟨x, H1, I1, r1, q1⟩ => ?_)
  obtain ⟨a, xs, ex, hq⟩ := q1
  subst ex
  cases r1
  have hst : PO X (some (.UnaryOp .USub (.Constant (.int 1) k p1) p2)) (tPart (tUn (rU fun i => .int (-i)) (tC (.int 1)))) := po_some (pe_un un_neg pe_int)
  refine wpAny_Slice (thn (po_none.run pins s1 σ H1 (fun o H2 => o = none ∧ H2 = H1) I1 ⟨rfl, rfl⟩) fun vl s2 ⟨l, H2, I2, pl, el, e2⟩ => ?_)
  subst el e2
  refine thn (po_none.run pins s2 σ H2 (fun o H3 => o = none ∧ H3 = H2) I2 ⟨rfl, rfl⟩) fun vu s3 ⟨u, H3, I3, pu, eu, e3⟩ => ?_
  subst eu e3
  refine thn (hst.run pins s3 σ H3 (fun o H4 => o = some (-1) ∧ H4 = H3) I3 ⟨1, rfl, -1, rfl, rfl, rfl⟩) fun vs s4 ⟨o, H4, I4, ps, eo, e4⟩ => ?_
  subst eo e4
  have I5 : Inv X pins σ H4 { s4 with heap := s4.heap.push { cls := .type "slice", data := .fields #[vl, vu, vs] } } := I4.kept (t' := s4.toks) fun b ob q => Heap.get?_push_of_some _ q
  show wpAny (model X.prog X.w) X.A (subscriptTail e (.Slice none none (some (.UnaryOp .USub (.Constant (.int 1) k p1) p2)) p3) (.ref a) (.ref s4.heap.objs.size)) (EP X pins σ Q) X.xe { s4 with heap := s4.heap.push { cls := .type "slice", data := .fields #[vl, vu, vs] } }
  rcases hq with ⟨hx, q⟩ | ⟨hx, q⟩
  · obtain ⟨its, r, ht, hz⟩ := I5.list hx
    have hlen := r.length
    refine tail_any (ops := [.ref a, .ref s4.heap.objs.size]) ht.isList.typeIs (PySem.slot_list_getitem.lookup) ?_ (by with_unfolding_all rfl)
    refine wpAny_getItem_list_slice ht.isList (Heap.IsSliceOf.new _ vl vu vs) pl pu ps (by decide) ?_ (by rw [List.size_toArray]; omega)
    rw [PySem.W.krv_pick]
    refine ⟨.ref _, _, I5.laid (t' := s4.toks) (o := .lst xs.reverse) (fun b ob q => Heap.get?_push_of_some _ q) (Nat.le_refl _) ?_, rfl, q _ (I5.hok.fresh (Nat.le_refl _))⟩
    exact ⟨by rw [List.length_reverse]; exact hz, _, 0, r.reverse, Heap.get?_push_size _ rfl⟩
  · obtain ⟨its, r, ht, hz⟩ := I5.tuple hx
    have hlen := r.length
    refine tail_any (ops := [.ref a, .ref s4.heap.objs.size]) ht.typeIs PyProof.Rows.slot_tuple_getitem.lookup ?_ (by with_unfolding_all rfl)
    refine getItem_tuple_rev ht (Heap.IsSliceOf.new _ vl vu vs) pl pu ps ?_ (by omega)
    refine ⟨.ref _, _, I5.laid (t' := s4.toks) (o := .tup xs.reverse) (fun b ob q => Heap.get?_push_of_some _ q) (Nat.le_refl _) ?_, rfl, q _ (I5.hok.fresh (Nat.le_refl _))⟩
    exact ⟨by rw [List.length_reverse]; exact hz, _, r.reverse, IsTup.new _ _⟩
def revD (h : AH) : D → Option D
  | .tup xs => some (.tup xs.reverse)
  | x => (lstOfR h x).map fun xs => .tl xs.reverse
def evRev (f : Ev) : Ev := fun e h => (f e h).bind fun x h1 => ofO (revD h1 x) h1
theorem den_rev [Tb] {ex : Expr} {k : Nat} {p1 p2 p3 pos : Pos} {f : Ev} (hf : DenE X W ex f) : DenE X W (.Subscript ex (.Slice none none (some (.UnaryOp .USub (.Constant (.int 1) k p1) p2)) p3) pos) (evRev f) :=
  PE.imp (pe_rev hf) fun σ H Q ⟨r, e, h, er, hr, ok⟩ => by
    unfold evRev at ok
    refine rdE_bind er hr ok fun x h1 v r1 H1 s1 hr1 t1 er1 ok1 => ?_
    cases hg : revD h1 x with
    | none => rw [hg] at ok1; exact ok1.elim
    | some d =>
      rw [hg] at ok1
      have z : (∃ xs, x = .tup xs ∧ d = .tup xs.reverse) ∨ (∃ xs, lstOfR h1 x = some xs ∧ d = .tl xs.reverse) := by
        cases x <;> simp only [revD, Option.map_eq_some_iff] at hg
        case tup xs => cases hg; exact .inl ⟨xs, rfl, rfl⟩
        all_goals
          obtain ⟨xs, e1, e2⟩ := hg
          exact .inr ⟨xs, e1, e2.symm⟩
      rcases z with ⟨xs, rfl, rfl⟩ | ⟨xs, hl, rfl⟩
      · cases t1 with
        | val q => cases q with
          | @tup a vs _ h3 h4 =>
            exact ⟨a, vs, rfl, .inr ⟨h3.sq, fun p hp => newT hr1 hp h4.reverse fun v H' s q t => ok1 v r1 H' s q t⟩⟩
      · obtain ⟨a, vs, rfl, h3, h4⟩ := lstOfR_inv hr1 t1.u hl
        exact ⟨a, vs, rfl, .inl ⟨h3, fun p hp => newL hr1 hp h4.reverse fun v H' s q t => ok1 v r1 H' s q t⟩⟩
end
end BW

set_option Elab.async false
set_option linter.all false
set_option maxRecDepth 100000
set_option maxHeartbeats 4000000
namespace BW
open PySem PySem.Spec PyProof.Rows L2
variable [Tb]
section
variable {X : Cx} {W : Wx} {pins : List (Addr × Obj)} {σ : L2.St} {H : Hp} {s : Shared} {r : List Addr} {h : AH}
end
end BW

set_option Elab.async false
set_option linter.all false
set_option maxRecDepth 100000
set_option maxHeartbeats 4000000
namespace BW
open PySem PySem.Spec PyProof.Rows L2
variable [Tb]
def evAttr (c f : Str) (fe : Ev) : Ev := fun e h => (fe e h).bind fun o h1 => match o with
  | .ref n => match h1[n]? with
    | some (.ins c' fs) => if c' = c then match fs.lookup f with
      | some d => .ok d h1
      | none => .stuck
      else .stuck
    | _ => .stuck
  | _ => .stuck
def isI (h : AH) (c m : Str) (o : D) : Bool := match o with
  | .ref n => match h[n]? with
    | some (.ins c' fs) => decide (c' = c) && (fs.lookup m).isNone
    | _ => false
  | _ => false
section
variable {K : PySem.W.Frag} {mg : Str → Option Value} {r : List Addr} {H : Hp}
end
section
variable {X : Cx} {W : Wx}
end
end BW

set_option Elab.async false
set_option linter.all false
set_option maxRecDepth 100000
set_option maxHeartbeats 4000000
namespace BW
open PySem PySem.Spec PyProof.Rows L2
variable [Tb]
section
variable {X : Cx} {W : Wx}
end
end BW

set_option Elab.async false
set_option linter.all false
set_option maxRecDepth 100000
set_option maxHeartbeats 4000000
namespace BW
open PySem PySem.Spec PyProof.Rows L2
section
variable {prog : Program} {w : World} {A : Around} {s : Shared} {E : Value → Shared → Prop} {l : Addr} {xs : Array (Int × Tok)}
theorem min_intTup {Q : Value → Shared → Prop} (hh : A.handled = none) (hl : s.heap.IsTuple l (intItems xs)) (hne : 0 < xs.size)
    (h : ∀ v h' tk, (intItems xs)[argBest (fun i j => decide (numAt xs i < numAt xs j)) (xs.size - 1)]? = some v → (∀ b o, s.heap.get? b = some o → h'.get? b = some o) → Q v { s with heap := h', toks := tk }) :
    wpAny (model prog w) A (call (.builtin "min") [.ref l]) Q E s := by
  have hlt : l < s.heap.objs.size := by obtain ⟨_, e, _⟩ := hl; exact Heap.lt_size e
  refine call_min_walk (wpAny_pyIter_tuple hl ?_)
  refine ⟨_, [s.heap.objs.size, l], [s.heap.objs.size], _, _, _, _, rfl, Walks.tuple (A := A.in1) hh _ l (Nat.ne_of_lt hlt) (intItems xs), ⟨⟨_, Heap.get?_push_size _ rfl, rfl, rfl⟩, hl.push _⟩, fun c hc => ?_, by simpa [intItems] using hne, CmpOf.ints_lt (numAt xs) (fun _ _ => intItems_at), fun v h' tk hP hk => ?_⟩
  · show c < (s.heap.push _).objs.size
    rw [Heap.size_push]
    rcases List.mem_cons.mp hc with rfl | hc
    · exact Nat.lt_succ_self _
    · rcases List.mem_cons.mp hc with rfl | hc
      · exact Nat.lt_succ_of_lt hlt
      · cases hc
  · refine h v h' tk (by simpa [intItems] using hP) fun b o e => ?_
    refine hk b o (fun hm => ?_) (Heap.get?_push_of_some _ e)
    rcases List.mem_cons.mp hm with e1 | hm
    · exact absurd (e1 ▸ Heap.lt_size e) (Nat.lt_irrefl _)
    · cases hm
theorem min_rawT {its : List Value} {ns : List Int} {Q : Value → Shared → Prop} (hh : A.handled = none) (hl : s.heap.IsTuple l its.toArray) (hi : IntsAre its ns) (hne : 0 < ns.length)
    (h : ∀ h' tk M t', (∀ b o, s.heap.get? b = some o → h'.get? b = some o) → M ∈ ns → (∀ a, a ∈ ns → M ≤ a) → Q (.int M t') { s with heap := h', toks := tk }) : wpAny (model prog w) A (call (.builtin "min") [.ref l]) Q E s := by
  obtain ⟨xs, e⟩ := hi.allInts.items
  have hn : numsOf (intItems xs).toList = ns := by rw [← e]; exact hi.numsOf
  rw [nums_intItems] at hn
  subst hn
  rw [e] at hl
  have hsz : 0 < xs.size := by simpa using hne
  refine min_intTup hh hl hsz fun v h' tk hv hk => ?_
  obtain ⟨t, rfl⟩ := intItems_at hv
  obtain ⟨h1, h2⟩ := argBest_lt (numAt xs) (xs.size - 1)
  refine h h' tk _ t hk ?_ fun a ha => ?_
  · rw [numAt_eq]; exact PySem.getD_mem (by rw [List.length_map, Array.length_toList]; omega)
  · obtain ⟨j, hj, rfl⟩ := mem_getD ha
    rw [List.length_map, Array.length_toList] at hj
    rw [← numAt_eq]; exact h2 j (by omega)
end
theorem min_same {ns : List Int} {m k : Int} (h1 : m ∈ ns) (h2 : ∀ y ∈ ns, m ≤ y) (h3 : k ∈ ns) (h4 : ∀ y ∈ ns, k ≤ y) : m = k := by
  have a := h2 k h3
  have b := h4 m h1
  omega
def minI : Int → List Int → Int
  | a, [] => a
  | a, b :: l => minI (if b < a then b else a) l
theorem minI_mem : ∀ (l : List Int) (a : Int), minI a l ∈ a :: l
  | [], a => by simp [minI]
  | b :: l, a => by
    unfold minI
    have := minI_mem l (if b < a then b else a)
    split at this
    · rw [if_pos (by assumption)]; exact List.mem_cons_of_mem _ this
    · rw [if_neg (by assumption)]
      rcases List.mem_cons.mp this with z | z
      · rw [z]; simp
      · exact List.mem_cons_of_mem _ (List.mem_cons_of_mem _ z)
theorem minI_le : ∀ (l : List Int) (a : Int), ∀ y ∈ a :: l, minI a l ≤ y
  | [], a, y, hy => by simp at hy; subst hy; simp [minI]
  | b :: l, a, y, hy => by
    unfold minI
    have := minI_le l (if b < a then b else a)
    by_cases c : b < a
    · rw [if_pos c] at this ⊢
      rcases List.mem_cons.mp hy with rfl | hy
      · have := this b List.mem_cons_self; omega
      · exact this y hy
    · rw [if_neg c] at this ⊢
      rcases List.mem_cons.mp hy with rfl | hy
      · exact this y List.mem_cons_self
      · rcases List.mem_cons.mp hy with rfl | hy
        · have := this a List.mem_cons_self; omega
        · exact this y (List.mem_cons_of_mem _ hy)
variable [Tb]
def bMin (h : AH) : List D → Option D
  | [.tup xs] => match intsOf xs with
    | some (a :: l) => some (.int (minI a l))
    | _ => none
  | _ => none
section
variable {X : Cx} {W : Wx}
def rMinT (K : PySem.W.Frag) : List V → Hp → VK → Prop := fun vs H Q => ∃ (a : Addr) (ns : List Int), vs = [V.ref a] ∧ SqT K H a (ns.map V.int) ∧ 0 < ns.length ∧ ∀ m, m ∈ ns → (∀ y, y ∈ ns → m ≤ y) → Q (.int m) H
theorem cr_minT (hc : X.calm = true) : CallR X (.builtin "min") (rMinT X.K) := by
  intro pins s σ H vs us Q I r h
  obtain ⟨a, ns, rfl, hs, hne, q⟩ := h
  obtain ⟨its, rv, hl, _⟩ := I.tuple hs
  rw [Vals.ref1 r]
  exact min_rawT (I.ok.hd hc) hl rv.ints hne fun h' tk m t' hk h1 h2 => ⟨.int _, H, I.kept hk, ⟨_, rfl⟩, q m h1 h2⟩
theorem cd_min (hc : X.calm = true) : CallD X (.builtin "min") bMin := CallR.imp (cr_minT hc) fun vs H Q ⟨r, h, ds, d, hr, ts, hg, q⟩ => by
  unfold bMin at hg
  split at hg
  · rename_i xs
    split at hg
    · rename_i a l hl
      cases hg
      obtain ⟨v, rfl, t⟩ := ts.one
      obtain ⟨p, ws, rfl, h3, h4⟩ := t.tup_inv
      obtain rfl := ints_rel h4 hl
      refine ⟨p, a :: l, rfl, h3.sq, by simp, fun m m1 m2 => ?_⟩
      rw [min_same m1 m2 (minI_mem l a) (minI_le l a)]
      exact q _ H (Step.refl r H) hr (.val (.int _))
    · cases hg
  · cases hg
end
section
variable {X : Cx} {W : Wx}
theorem pair2_ok {K : PySem.W.Frag} {mg : Str → Option Value} {r1 : List Addr} {h1 : AH} {H1 H2 : Hp} {T : Addr} {x y : V} {d d' : D} (hr1 : HRel K mg r1 h1 H1) (hT : H1 T = none) (e : H2 = upd H1 T (.tup [x, y])) (q : Rel K mg r1 H1 x d) (q' : Rel K mg r1 H1 y d') :
    Step r1 H1 r1 H2 ∧ HRel K mg r1 h1 H2 ∧ Rel K mg r1 H2 (.ref T) (.tup [d, d']) := pair_ok hr1 hT e q q'
theorem zip_at {xs ys : List D} {i : Nat} {d d' : D} (h : xs[i]? = some d) (h' : ys[i]? = some d') : (zipD xs ys)[i]? = some (.tup [d, d']) := by
  unfold zipD
  rw [List.getElem?_zipWith, h, h']
theorem den_zip {a a2 : Expr} {p pos tpos : Pos} {elts : List Expr} {kk : Nat} {f f2 : Ev} (hg : Gl X "zip") (hm : X.mg "zip" = none) (ha : DenA X W [a, a2] (evs [f, f2]))
    (hs : starEach [a, a2] X.env = (false, eval a X.env) :: starEach [a2] X.env := by rfl) (hpl : (backTo pos (starEach [a2] X.env)).any (·.1) = false := by rfl) :
    DenI X W (.Tuple elts kk tpos) (.Call (.Name "zip" p) [a, a2] [] pos) (ivBy [f, f2] kZip) :=
  PI.imp (RZ.pi_zipA hg hm ha hs hpl) fun σ H R ⟨r, e, h, er, hr, ok⟩ => by
    unfold ivBy at ok
    cases hfe : evs [f, f2] e h with
    | stuck => rw [hfe] at ok; exact ok.elim
    | exc x h1 => exact ⟨r, e, h, er, hr, by rw [hfe] at ok ⊢; exact ok⟩
    | ok ds h1 =>
      rw [hfe, Out.bind_ok] at ok
      refine ⟨r, e, h, er, hr, ?_⟩
      rw [hfe]
      intro vs r1 H1 s1 hr1 t1
      unfold kZip at ok
      split at ok
      · rename_i xs ys
        obtain ⟨v, v', rfl, t, t'⟩ := t1.two
        obtain ⟨b, ws, rfl, z1, z2⟩ := t.tup_inv
        obtain ⟨b', ws', rfl, z1', z2'⟩ := t'.tup_inv
        refine ⟨b, b', ws, ws', rfl, .inr ⟨z1.sq, z1'.sq, ok _ r1 H1 s1 hr1 ⟨fun H => SqT X.K H b ws ∧ SqT X.K H b' ws', fun i H x H' => ∃ T y y', x = .ref T ∧ H T = none ∧ H' = upd H T (.tup [y, y']) ∧ ws[i]? = some y ∧ ws'[i]? = some y', ?_, fun r' H' h' s _ _ => ⟨(z1.mono s.mn).sq, (z1'.mono s.mn).sq⟩, ?_⟩⟩⟩
        · have hl : (zipD xs ys).length = min ws.length ws'.length := by simp [zipD, z2.length, z2'.length]
          refine walk_len (n := min ws.length ws'.length) ⟨fun i H hi q => ⟨ws, ws', ws[i]'(by omega), ws'[i]'(by omega), q.1, q.2, by simp [show i < ws.length by omega], by simp [show i < ws'.length by omega]⟩, fun H q => ⟨ws, ws', q.1, q.2, by omega⟩, fun i H x H' hi q y => ?_⟩ hl.symm
          obtain ⟨T, u, u', y1, y2, y3, y4, y5⟩ := y
          exact ⟨T, u, u', y1, y2, y3, y4 ws q.1, y5 ws' q.2⟩
        · rintro i r2 h2 H2 x H3 hi s2 hr2 hgd ⟨T, y, y', rfl, hT, eH, hy, hy'⟩
          obtain ⟨d, g1, g2⟩ := (z2.mono s2.mn).get hy
          obtain ⟨d', g1', g2'⟩ := (z2'.mono s2.mn).get hy'
          obtain ⟨w1, w2, w3⟩ := pair2_ok hr2 hT eH g2 g2'
          exact ⟨w1, w2, _, zip_at g1 g1', w3⟩
      · exact ok.elim
      · exact ok.elim
      · rename_i d d' n0 n1 n2
        split at ok
        · rename_i it it' hi hi'
          split at ok
          · rename_i gg hgg
            obtain ⟨v, v', rfl, t, t'⟩ := t1.two
            have nt : ∀ xs, d ≠ .tup xs := n1
            have nt' : ∀ xs, d' ≠ .tup xs := n2
            obtain ⟨b, ws, rfl, z1, z2⟩ := list_walk hr1 t hi nt
            obtain ⟨b', ws', rfl, z1', z2'⟩ := list_walk hr1 t' hi' nt'
            have ga : ∀ h', guardOk gg h' = true → guardOk it.g h' = true ∧ guardOk it'.g h' = true := fun h' q => by
              revert hgg q
              generalize it.g = g1
              generalize it'.g = g2
              intro hgg q
              rcases g1 with _ | ⟨n, o⟩
              · simp only [zipG, Option.some.injEq] at hgg
                subst hgg
                exact ⟨rfl, q⟩
              · rcases g2 with _ | ⟨m, o'⟩
                · cases o <;> (simp only [zipG, Option.some.injEq] at hgg; subst hgg; exact ⟨q, rfl⟩)
                · cases o <;> cases o' <;> first | (simp [zipG] at hgg; done) | (simp only [zipG, Option.some.injEq] at hgg; subst hgg; simp only [guardOk, Bool.and_eq_true, decide_eq_true_eq] at q ⊢; exact q)
            refine ⟨b, b', ws, ws', rfl, .inl ⟨z1, z1', ok _ r1 H1 s1 hr1 ⟨fun H => (∃ us, SqL X.K H b us ∧ us.length = it.xs.length) ∧ ∃ us, SqL X.K H b' us ∧ us.length = it'.xs.length, fun i H x H' => ∃ T y y', x = .ref T ∧ H T = none ∧ H' = upd H T (.tup [y, y']) ∧ (∀ us, SqL X.K H b us → us[i]? = some y) ∧ ∀ us, SqL X.K H b' us → us[i]? = some y', ?_, fun r' H' h' s hr' hg' => ?_, ?_⟩⟩⟩
            · have hl : (zipD it.xs it'.xs).length = min it.xs.length it'.xs.length := by simp [zipD]
              refine walk_len (n := min it.xs.length it'.xs.length) ⟨fun i H hi ⟨⟨us, q, ql⟩, ⟨us', q', ql'⟩⟩ => ⟨us, us', us[i]'(by omega), us'[i]'(by omega), q, q', by simp [show i < us.length by omega], by simp [show i < us'.length by omega]⟩, fun H ⟨⟨us, q, ql⟩, ⟨us', q', ql'⟩⟩ => ⟨us, us', q, q', by omega⟩, fun i H x H' hi q y => ?_⟩ hl.symm
              obtain ⟨T, u, u', y1, y2, y3, y4, y5⟩ := y
              exact ⟨T, u, u', y1, y2, y3, y4, y5⟩
            · obtain ⟨us, g1, g2⟩ := z2 r' h' H' s hr' (ga h' hg').1
              obtain ⟨us', g1', g2'⟩ := z2' r' h' H' s hr' (ga h' hg').2
              exact ⟨⟨us, g1, g2.length⟩, ⟨us', g1', g2'.length⟩⟩
            · rintro i r2 h2 H2 x H3 hi s2 hr2 hgd ⟨T, y, y', rfl, hT, eH, hy, hy'⟩
              obtain ⟨us, g1, g2⟩ := z2 r2 h2 H2 s2 hr2 (ga h2 hgd).1
              obtain ⟨us', g1', g2'⟩ := z2' r2 h2 H2 s2 hr2 (ga h2 hgd).2
              obtain ⟨d, g3, g4⟩ := g2.get (hy us g1)
              obtain ⟨d', g3', g4'⟩ := g2'.get (hy' us' g1')
              obtain ⟨w1, w2, w3⟩ := pair2_ok hr2 hT eH g4 g4'
              exact ⟨w1, w2, _, zip_at g3 g3', w3⟩
          · exact ok.elim
        · exact ok.elim
      · exact ok.elim
end
end BW

set_option Elab.async false
set_option linter.all false
set_option maxRecDepth 100000
set_option maxHeartbeats 4000000
namespace BW
open PySem PySem.Spec PyProof.Rows L2
section
variable {M : Model} {prog : Program} {w : World} {A : Around} {E : Value → Shared → Prop} {s : Shared} {K : PySem.W.Frag} {x C f L l : Addr} {ox : Obj} {od : Option Obj} {b : Value} {h₀ : Heap} {m : Str → Option Value}
end
section
variable {X : Cx}
end
section
variable [Tb]
variable {X : Cx} {W : Wx}
end
end BW

set_option Elab.async false
set_option linter.all false
set_option maxRecDepth 100000
set_option maxHeartbeats 4000000
namespace BW
open PySem PySem.Spec PyProof.Rows L2
mutual
def D.py : D → Option PyData
  | .bl b => some (.bool b)
  | .int i => some (.int i)
  | .str x => some (.str x)
  | .tup xs => (D.pys xs).map .tuple
  | _ => none
def D.pys : List D → Option (List PyData)
  | [] => some []
  | x :: xs => (D.py x).bind fun p => (D.pys xs).map fun ps => p :: ps
end
section
variable [Tb]
variable {X : Cx} {pins : List (Addr × Obj)} {σ : L2.St} {H : Hp} {s : Shared} {r : List Addr}
mutual
theorem py_reads (I : Inv X pins σ H s) : ∀ {d : D} {p : PyData} {v : V} {u : Value}, d.py = some p → Rel X.K X.mg r H v d → RelV v u → ∃ as, Reads s.heap u p as
  | .bl b, p, v, u, e, q, rv => by simp only [D.py, Option.some.injEq] at e; subst e; cases q; cases rv; exact ⟨_, .bool b⟩
  | .int i, p, v, u, e, q, rv => by simp only [D.py, Option.some.injEq] at e; subst e; cases q; obtain ⟨t, rfl⟩ := rv; exact ⟨_, .int i t⟩
  | .str x, p, v, u, e, q, rv => by simp only [D.py, Option.some.injEq] at e; subst e; cases q; obtain ⟨t, rfl⟩ := rv; exact ⟨_, .str x t⟩
  | .tup xs, p, v, u, e, q, rv => by
    simp only [D.py, Option.map_eq_some_iff] at e
    obtain ⟨ps, e1, rfl⟩ := e
    cases q with
    | tup h1 h2 =>
      cases rv
      obtain ⟨its, rv, ⟨o, ho, hc, n', hd⟩, _⟩ := I.tuple h1.sq
      obtain ⟨as, x⟩ := pys_reads I e1 h2 rv
      exact ⟨_, .tuple ho hc hd x⟩
  | .non, p, v, u, e, q, rv => by simp [D.py] at e
  | .tl _, p, v, u, e, q, rv => by simp [D.py] at e
  | .rl _, p, v, u, e, q, rv => by simp [D.py] at e
  | .ref _, p, v, u, e, q, rv => by simp [D.py] at e
  | .exc _ _, p, v, u, e, q, rv => by simp [D.py] at e
  | .kt _, p, v, u, e, q, rv => by simp [D.py] at e
theorem pys_reads (I : Inv X pins σ H s) : ∀ {ds : List D} {ps : List PyData} {vs : List V} {us : List Value}, D.pys ds = some ps → Rels X.K X.mg r H vs ds → Vals vs us → ∃ as, ReadsAll s.heap us ps as
  | [], ps, vs, us, e, q, rv => by
    simp only [D.pys, Option.some.injEq] at e
    subst e
    cases q
    cases rv
    exact ⟨_, .nil⟩
  | d :: ds, ps, vs, us, e, q, rv => by
    simp only [D.pys, Option.bind_eq_some_iff, Option.map_eq_some_iff] at e
    obtain ⟨p, e1, ps', e2, rfl⟩ := e
    cases q with
    | cons h1 h2 =>
      cases rv with
      | cons r1 r2 =>
        obtain ⟨as, x⟩ := py_reads I e1 h1 r1
        obtain ⟨bs, y⟩ := pys_reads I e2 h2 r2
        exact ⟨_, .cons x y⟩
end
end
def leL (a b : List Int) : Bool := decide (a.length < b.length ∨ (a.length = b.length ∧ a ≤ b))
def sortL (ns : List (List Int)) : List (List Int) := ns.mergeSort leL
theorem sortL_perm (ns : List (List Int)) : (sortL ns).Perm ns := List.mergeSort_perm ns _
def tupI (ns : List Int) : D := .tup (ns.map .int)
end BW

set_option Elab.async false
set_option linter.all false
set_option maxRecDepth 100000
set_option maxHeartbeats 4000000
namespace BW
open PySem PySem.Spec PyProof.Rows L2
def evPopAt (f g : Ev) : Ev := fun e h => (f e h).bind fun o h1 => match o with
  | .ref n => match h1[n]? with
    | some (.lst _) => (pv g e h1).bind fun d h2 => match h2[n]?, d with
      | some (.lst xs), .int i => if 0 ≤ i ∧ i < 1000000 then match xs[i.toNat]? with
        | some y => .ok y (h2.set n (.lst (xs.eraseIdx i.toNat)))
        | none => .stuck
        else .stuck
      | _, _ => .stuck
    | _ => .stuck
  | _ => .stuck
theorem Rels.eraseIdx {K : PySem.W.Frag} {mg : Str → Option Value} {r : List Addr} {H : Hp} : ∀ {vs : List V} {xs : List D} (i : Nat), Rels K mg r H vs xs → Rels K mg r H (vs.eraseIdx i) (xs.eraseIdx i)
  | _, _, _, .nil => .nil
  | _, _, 0, .cons h t => t
  | _, _, i + 1, .cons h t => .cons h (Rels.eraseIdx i t)
section
variable [Tb]
variable {X : Cx} {W : Wx}
theorem den_popAt {o ex : Expr} {apos cpos : Pos} {f g : Ev} (ho : DenE X W o f) (hg : DenE X W ex g)
    (hbase : attributeBase o "pop" X.env (eval o X.env) = eval o X.env := by rfl)
    (hfew : ((backTo cpos (starEach [ex] X.env)).all (fun z => !z.1) && (backToKw cpos (keywordEach [] X.env)).all (fun z => z.1.isSome) && decide ([ex].length + ([] : List Keyword).length + (if ([] : List Keyword).isEmpty then 0 else 1) < 30)) = true := by rfl)
    (hline : (apos.endLine == cpos.line) = true := by rfl) (hs : starEach [ex] X.env = (false, eval ex X.env) :: starEach [] X.env := by rfl) (hplain : (backTo cpos (starEach [] X.env)).any (·.1) = false := by rfl) :
    DenE X W (.Call (.Attribute o "pop" apos) [ex] [] cpos) (evPopAt f g) :=
  PE.imp (pe_bm PySem.F.plainAttrs_list PySem.F.slot_list_pop PySem.F.type_list_pop mt_popAt ho (PAone (den_pv hg) hs) hbase hfew hline hs hplain) fun σ H Q ⟨r, e, h, er, hr, ok⟩ => by
    unfold evPopAt at ok
    refine rdE_bind er hr ok fun x h1 v r1 H1 s1 hr1 t1 er1 ok1 => ?_
    split at ok1
    · rename_i n
      split at ok1
      · rename_i zs hz
        obtain ⟨a, vs, rfl, hn, y1, y2⟩ := hnlist hr1 t1.u hz
        refine ⟨.inl ⟨rfl, vs, .inl (.inl y1)⟩, rdV_bind er1 hr1 ok1 fun d h2 w r2 H2 s2 hr2 t2 er2 ok2 => ?_⟩
        split at ok2
        · rename_i xs i hx
          split at ok2
          · rename_i hl
            split at ok2
            · rename_i y hy
              have hn2 := s2.get hn
              obtain ⟨ws, y3, y4⟩ := hr2.obj _ _ _ hx hn2
              obtain ⟨u, hu, ru⟩ := y4.get' hy
              have ha : a ∈ r2 := List.mem_of_getElem? hn2
              have s3 : Step r2 H2 r2 (upd H2 a (.lst (ws.eraseIdx i.toNat))) := Step.mut ha (by rw [y3]; exact fun _ _ z => nomatch z)
              have hlt : i.toNat < ws.length := (List.getElem?_eq_some_iff.mp hu).1
              cases t2
              refine ⟨a, ws, i, i.toNat, u, rfl, rfl, y3, by omega, by omega, ?_, hu, ok2 _ r2 _ s3 ?_ (.val (ru.mono s3.mn))⟩
              · first
                  | (unfold seqIndex?; simp only []; rw [if_neg (by omega), if_pos (by omega)])
                  | (unfold seqIndex?; split <;> first | omega | (split <;> first | rfl | (exfalso; omega) | simp; omega))
                  | (simp [seqIndex?]; omega)
              · exact hr2.put (ob := .lst (xs.eraseIdx i.toNat)) hn2 ⟨_, upd_same, (y4.eraseIdx i.toNat).mono s3.mn⟩
            · exact ok2.elim
          · exact ok2.elim
        · exact ok2.elim
      · exact ok1.elim
    · exact ok1.elim
end
end BW

set_option Elab.async false
set_option linter.all false
namespace BS
open PySem PySem.Spec PyProof.Rows L2
def Msk (m : Nat) : Prop := ∃ n, 3 ≤ n ∧ n ≤ 13 ∧ m + 1 = 2 ^ n
def gs : Nat → Nat
  | 0 => 0
  | k + 1 => 5 * gs k + 1
structure Tab (t : SetTable) (hs : List Int) : Prop where
  inc : Ris t.place.toList
  nod : t.dummies = #[]
  len : t.place.toList.length = hs.length
  msk : Msk t.mask
  bd : ∀ x ∈ t.place.toList, x ≤ t.mask
  path : ∀ (i : Nat) (h : Int) (j : Nat), hs[i]? = some h → t.place.toList[i]? = some j → ∃ k, way t.mask h k = j ∧ ∀ c, c < k → way t.mask h c ∈ t.place.toList
end BS

set_option Elab.async false
set_option linter.all false
set_option maxRecDepth 100000
set_option maxHeartbeats 4000000
namespace BS
open PySem PySem.Spec PyProof.Rows L2
def few : Nat := 1200
abbrev spot (m : Nat) (h : Int) (c : Nat) : SetTable.Probe := nth m (runAt m (SetTable.bits h % (m + 1)) (SetTable.bits h)) c
section
variable {P : Program} {w : World} {A : Around} {E : Value → Shared → Prop} {s : Shared}
variable {a : Addr} {L : List (Addr × List Int)} {es : Array (Int × Value)} {ep : Nat} {t : SetTable}
end
end BS

set_option Elab.async false
set_option linter.all false
set_option maxRecDepth 100000
set_option maxHeartbeats 4000000
namespace BS
open PySem PySem.Spec PyProof.Rows L2
section
variable {P : Program} {w : World} {A : Around} {E : Value → Shared → Prop} {s : Shared}
end
end BS

set_option Elab.async false
set_option linter.all false
set_option maxRecDepth 100000
set_option maxHeartbeats 4000000
namespace BW
open PySem PySem.Spec PyProof.Rows L2
section
variable {X : Cx}
end
section
variable [Tb]
variable {X : Cx} {W : Wx}
end
end BW

set_option Elab.async false
set_option linter.all false
set_option maxRecDepth 100000
set_option maxHeartbeats 4000000
namespace BW
open PySem PySem.Spec PyProof.Rows L2
section
variable [Tb]
variable {X : Cx}
end
end BW

set_option Elab.async false
set_option linter.all false
set_option maxRecDepth 100000
set_option maxHeartbeats 4000000
namespace BW
open PySem PySem.Spec PyProof.Rows L2
section
variable {X : Cx}
variable {a b c d : Expr} {ta tb tc td : TE} {pos : Pos}
end
section
variable [Tb]
variable {X : Cx} {W : Wx}
end
end BW

set_option Elab.async false
set_option linter.all false
set_option maxRecDepth 100000
set_option maxHeartbeats 4000000
namespace BW
open PySem PySem.Spec PyProof.Rows L2
section
variable [Tb]
variable {X : Cx} {W : Wx}
end
end BW

set_option Elab.async false
set_option linter.all false
set_option maxRecDepth 100000
set_option maxHeartbeats 4000000
namespace BW
open PySem PySem.Spec PyProof.Rows L2
section
variable [Tb]
variable {X : Cx}
end
end BW

set_option Elab.async false
set_option linter.all false
set_option maxRecDepth 100000
set_option maxHeartbeats 4000000
namespace BW
open PySem PySem.Spec PyProof.Rows L2
section
variable {X : Cx}
def tDispT (tk tv : TE) : TE := fun σ H Q => ∀ p, H p = none → tPairs [(tk, tv)] σ (upd H p (.dT [])) fun ps H2 => ∃ x y b ks, ps = [(x, y)] ∧ x = .ref b ∧ H2 b = some (.tup (ks.map kV)) ∧ H2 p = some (.dT []) ∧ Q (.ref p) (upd H2 p (.dT (putK [] ks y)))
theorem pe_dispT {k v : Expr} {pos : Pos} {tk tv : TE} (hu : X.A.units + 1 < cLine) (hk : PE X k tk) (hv : PE X v tv) : PE X (.Dict [some k] [v] pos) (tDispT tk tv) := by
  refine ⟨fun pins s σ H Q I q => ?_⟩
  have hn := I.hok.fresh (Nat.le_refl s.heap.objs.size)
  have I1 := I.laid (a := s.heap.objs.size) (o := .dT []) (h' := s.heap.push { cls := .type "dict", data := .dict #[] }) (t' := s.toks) (fun _ _ q => Heap.get?_push_of_some _ q) (Nat.le_refl _) (dt_empty s.heap I.big)
  refine wpAny_Dict_any rfl rfl (by simp) (Nat.le_of_ble_eq_true rfl) (thn ((pps_cons hk hv pps_nil).run pins _ σ _ _ I1 (q _ hn)) fun ws s2 ⟨ps, H2, I2, rel, x, y, b, ks, ep, ex, eb, ed, q2⟩ => ?_)
  subst ep ex
  cases rel with
  | @cons p0 w0 _ _ r0 r1 =>
      cases r1
      obtain ⟨u, w⟩ := w0
      obtain ⟨ru, rw0⟩ := r0
      cases (show u = Value.ref b from ru)
      obtain ⟨z, hd, xs, rk, dd⟩ := dt_of I2.hok ed
      cases rk
      unfold storeAll
      refine wpAny_storeAllH (knd := tupleKind (mixKind X.prog X.w)) (Nat.lt_of_succ_lt hu) [(.ref b, w)] [(ks, b, w)] [] s2 _ ⟨rfl, rfl, key_of I2.hok eb, trivial⟩ dd (by simp; rw [sizeLine_eq]; omega) fun h' tk dd' hs => ?_
      obtain ⟨o, es, ep, hq, h2, h3, h4, _, h5⟩ := dd'
      refine ⟨.ref s.heap.objs.size, upd H2 s.heap.objs.size (.dT (putK [] ks y)), d_write I2 (by rw [ed]; exact True.intro) hs ⟨o, hq⟩ ⟨?_, hd, _, (KT.put (show KT H2 [] [] from Paired.nil) ks eb rw0).keeps fun c ys ec => ?_, o, es, ep, hq, h2, h3, h4, h5⟩, rfl, q2⟩
      · have := length_putK ([] : List (List Key × V)) ks y
        rw [sizeLine_eq]
        simp at this
        omega
      · rw [upd_ne (ne_of ec ed (fun z => nomatch z))]
        exact ec
end
theorem pi_keysL {X : Cx} {tg e : Expr} {td : TE} (he : PE X e td) : PI X tg e (fun σ H R => td σ H fun x H1 => ∃ d kvs, x = .ref d ∧ H1 d = some (.dT kvs) ∧ ∀ o, R (Itkt d o kvs) (upd H1 d (.frz o (.dT kvs)))) := by
  refine ⟨fun pins s σ H R I h => ?_⟩
  refine thn (he.run pins s σ H _ I h) fun u s1 ⟨x, H1, I1, rx, d, kvs, ex, hd, q⟩ => ?_
  subst ex
  obtain rfl : u = Value.ref d := rx
  obtain ⟨od, I2⟩ := I1.lock hd True.intro
  obtain ⟨hs, hgd, hx, es, ep, hdt, hsz, ent⟩ := I2.frzT upd_same
  refine iter_keys hs hgd hx hdt (pi_one (tk := s1.toks) I2 _ (turn_keysT _ hdt) ⟨_, Heap.get?_push_size _ rfl, rfl, ?_⟩ (q od))
  rw [hsz] <;> rfl
section
variable [Tb] {X : Cx} {W : Wx}
def keyV : Key → D
  | .inl i => .int i
  | .inr x => .str x
def keyT (ks : List Key) : D := .tup (ks.map keyV)
theorem ORel.notup {K : PySem.W.Frag} {mg : Str → Option Value} {r : List Addr} {H : Hp} {a : Addr} {o : AO} {vs : List V} (q : ORel K mg r H a o) : H a ≠ some (.tup vs) := by
  cases o with
  | lst xs => obtain ⟨_, h1, _⟩ := q; rw [h1]; exact fun z => nomatch z
  | dk xs => obtain ⟨_, h1, _⟩ := q; rw [h1]; exact fun z => nomatch z
  | dt xs => obtain ⟨_, h1, _⟩ := q; rw [h1]; exact fun z => nomatch z
  | ins c fs => obtain ⟨_, _, _, _, h1, _⟩ := q; rw [h1]; exact fun z => nomatch z
  | sins c fs => obtain ⟨_, _, _, _, h1, _⟩ := q; rw [h1]; exact fun z => by unfold SlX.SlO at z; cases z
  | fz xs => obtain ⟨_, _, h1, _⟩ := q; rw [h1]; exact fun z => nomatch z
theorem HRel.notup {K : PySem.W.Frag} {mg : Str → Option Value} {r : List Addr} {h : AH} {H : Hp} {a : Addr} {vs : List V} (hr : HRel K mg r h H) (e : H a = some (.tup vs)) : a ∉ r := fun ha => by
  obtain ⟨i, hi⟩ := List.getElem?_of_mem ha
  have hl : i < h.length := by rw [← hr.len]; exact (List.getElem?_eq_some_iff.mp hi).1
  exact (hr.obj i h[i] a (List.getElem?_eq_getElem hl) hi).notup e
theorem keys_rels {K : PySem.W.Frag} {mg : Str → Option Value} {r : List Addr} {H : Hp} : ∀ ks : List Key, Rels K mg r H (ks.map kV) (ks.map keyV)
  | [] => .nil
  | .inl i :: ks => .cons (.int i) (keys_rels ks)
  | .inr x :: ks => .cons (.str x) (keys_rels ks)
theorem keyT_rel {K : PySem.W.Frag} {mg : Str → Option Value} {r : List Addr} {h : AH} {H : Hp} {a : Addr} {ks : List Key} (hr : HRel K mg r h H) (e : H a = some (.tup (ks.map kV))) : Rel K mg r H (.ref a) (keyT ks) :=
  .tup ⟨hr.notup e, e⟩ (keys_rels ks)
theorem keysD_inv {K : PySem.W.Frag} {mg : Str → Option Value} {r : List Addr} {H : Hp} {v : V} {d : D} {ks : List Key} (q : RelU K mg r H v d) (e : keysD d = some ks) : ∃ b, v = .ref b ∧ H b = some (.tup (ks.map kV)) := by
  cases d with
  | tup xs =>
    obtain ⟨b, ws, rfl, y1, y2⟩ := q.tup_inv
    obtain rfl := keys_rel e y2
    exact ⟨b, rfl, y1.2⟩
  | _ => cases e
theorem newO {K : PySem.W.Frag} {mg : Str → Option Value} {r : List Addr} {h : AH} {H : Hp} {p : Addr} {o : HO} {ob : AO} {Q : VK} (hr : HRel K mg r h H) (hp : H p = none) (hf : ¬ Fixed o) (hn : NoOwn o) (new : ∀ r' H', Mn r H r' H' → H' p = some o → ORel K mg r' H' p ob)
    (k : ∀ v r' H', Step r H r' H' → HRel K mg r' (h ++ [ob]) H' → RelT K mg H r' H' v (.ref h.length) → Q v H') : Q (.ref p) (upd H p o) := by
  have s1 : Step r H r (upd H p o) := Step.alloc hp
  have hpr : p ∉ r := fun z => hr.there z hp
  have m : Mo r (upd H p o) (r ++ [p]) (upd H p o) := Mo.push upd_same hf hn
  exact k _ _ _ (Step.push hpr s1 (.of hp)) ((hr.alloc hp hn.2).push (ob := ob) hpr m (new _ _ (s1.mn.trans m.toMn) upd_same)) (.val (.ref (by rw [← hr.len, List.getElem?_append_right (Nat.le_refl _), Nat.sub_self]; rfl)))
def evD0T : Ev := fun _ h => .ok (.ref h.length) (h ++ [.dt []])
theorem den_d0T {pos : Pos} : DenE X W (.Dict [] [] pos) evD0T := PE.imp pe_dnewT fun σ H Q ⟨r, e, h, er, hr, ok⟩ => by
  intro p hp
  exact newO (ob := .dt []) hr hp (fun z => z) NoOwn.of (fun r' H' _ e => ⟨[], e, .nil⟩) fun v r' H' s hr' t => ok v r' H' s hr' t
def evDispT (fk fv : Ev) : Ev := fun e h => (fk e h).bind fun k h1 => (pv fv e h1).bind fun d h2 => match keysD k with
  | some ks => .ok (.ref h2.length) (h2 ++ [.dt [(ks, d)]])
  | none => .stuck
theorem den_dispT {k v : Expr} {pos : Pos} {fk fv : Ev} (hu : X.A.units + 1 < cLine) (hk : DenE X W k fk) (hv : DenE X W v fv) : DenE X W (.Dict [some k] [v] pos) (evDispT fk fv) :=
  PE.imp (pe_dispT hu hk (den_pv hv)) fun σ H Q ⟨r, e, h, er, hr, ok⟩ => by
    unfold evDispT at ok
    intro p hp
    have sA : Step r H r (upd H p (.dT [])) := Step.alloc hp
    have hn : p ∉ r := fun z => hr.there z hp
    show rdE X.K X.mg W fk σ (upd H p (.dT [])) fun x H1 => rdV X.K X.mg W (pv fv) σ H1 fun y H2 => _
    refine ⟨r, e, h, er.mono sA.mn, hr.alloc hp, ?_⟩
    cases hfk : fk e h with
    | stuck => rw [hfk] at ok; exact ok
    | exc x h1 => rw [hfk] at ok; exact fun c dx r' H' s => ok c dx r' H' (sA.trans s)
    | ok kd h1 =>
      rw [hfk, Out.bind_ok] at ok
      intro v1 r1 H1 s1 hr1 t1
      refine ⟨r1, e, h1, (er.mono sA.mn).mono s1.mn, hr1, ?_⟩
      cases hfv : pv fv e h1 with
      | stuck => rw [hfv] at ok; exact ok
      | exc x h2 => rw [hfv] at ok; exact fun c dx r' H' s => ok c dx r' H' ((sA.trans s1).trans s)
      | ok d h2 =>
        rw [hfv, Out.bind_ok] at ok
        intro w r2 H2 s2 hr2 t2
        split at ok
        · rename_i ks hq
          obtain ⟨b, rfl, eb⟩ := keysD_inv (t1.mono s2).u hq
          have hp1 : H1 p = some (.dT []) := s1.keep p _ upd_same hn NoOwn.of
          have hn1 : p ∉ r1 := s1.notin hn upd_same NoOwn.of
          have hp2 : H2 p = some (.dT []) := s2.keep p _ hp1 hn1 NoOwn.of
          have hn2 : p ∉ r2 := s2.notin hn1 hp1 NoOwn.of
          refine ⟨_, w, b, ks, rfl, rfl, eb, hp2, ?_⟩
          have m2 : Mn r2 H2 r2 (upd H2 p (.dT (putK [] ks w))) := Mn.mutNew hp2 fun z => z
          have hr3 := hr2.mutNew (o := .dT (putK [] ks w)) hn2 hp2 (fun z => z) NoOwn.of
          have m3 : Mo r2 (upd H2 p (.dT (putK [] ks w))) (r2 ++ [p]) (upd H2 p (.dT (putK [] ks w))) := Mo.push upd_same (fun z => z) NoOwn.of
          have s3 : Step r H (r2 ++ [p]) (upd H2 p (.dT (putK [] ks w))) := Step.push hn2 (((sA.trans s1).trans s2).mutNew hp) (.of hp)
          refine ok _ _ _ s3 (hr3.push (ob := .dt [(ks, d)]) hn2 m3 ⟨_, upd_same, ?_⟩) (.val (.ref ?_))
          · exact .cons ((t2.mono m2).mono m3.toMn) .nil
          · rw [← hr2.len, List.getElem?_append_right (Nat.le_refl _), Nat.sub_self]; rfl
        · exact ok.elim
def dtOf (h : AH) (o : D) : Option (List (List Key × D)) := match o with
  | .ref n => match h[n]? with
    | some (.dt kvs) => some kvs
    | some (.fz kvs) => some kvs
    | _ => none
  | _ => none
theorem dtOf_inv {K : PySem.W.Frag} {mg : Str → Option Value} {r : List Addr} {h : AH} {H : Hp} {v : V} {d : D} {kvs : List (List Key × D)} (hr : HRel K mg r h H) (q : RelU K mg r H v d) (e : dtOf h d = some kvs) : ∃ a vs, v = .ref a ∧ Rd H a (.dT vs) ∧ RelKT K mg r H vs kvs := by
  cases q with
  | tl => cases e
  | val q => cases q with
    | @ref n a hn =>
      simp only [dtOf] at e
      split at e
      · rename_i ys hy
        cases e
        obtain ⟨vs, h1, h2⟩ := hr.obj _ _ _ hy hn
        exact ⟨a, vs, rfl, .inl h1, h2⟩
      · rename_i ys hy
        cases e
        obtain ⟨o, vs, h1, h2⟩ := hr.obj _ _ _ hy hn
        exact ⟨a, vs, rfl, .inr ⟨o, h1⟩, h2⟩
      · cases e
    | _ => cases e
theorem RelKT.isSome {K : PySem.W.Frag} {mg : Str → Option Value} {r : List Addr} {H : Hp} {k : List Key} : ∀ {vs : List (List Key × V)} {xs : List (List Key × D)}, RelKT K mg r H vs xs → (valV vs k).isSome = (valD xs k).isSome
  | _, _, .nil => rfl
  | _, _, @RelKT.cons _ _ _ _ k' _ _ _ _ q t => by
    unfold valV valD
    by_cases hk : k' = k
    · simp only [List.find?_cons, hk, decide_true, Option.map_some, Option.isSome_some]
    · simp only [List.find?_cons, hk, decide_false]
      exact RelKT.isSome t
theorem RelKT.length {K : PySem.W.Frag} {mg : Str → Option Value} {r : List Addr} {H : Hp} : ∀ {vs : List (List Key × V)} {xs : List (List Key × D)}, RelKT K mg r H vs xs → vs.length = xs.length
  | _, _, .nil => rfl
  | _, _, .cons _ t => by simp only [List.length_cons, RelKT.length t]
theorem RelKT.any {K : PySem.W.Frag} {mg : Str → Option Value} {r : List Addr} {H : Hp} {k : List Key} : ∀ {vs : List (List Key × V)} {xs : List (List Key × D)}, RelKT K mg r H vs xs → (vs.any fun kv => decide (kv.1 = k)) = (xs.any fun kv => decide (kv.1 = k))
  | _, _, .nil => rfl
  | _, _, .cons q t => by simp only [List.any_cons, RelKT.any t]
theorem RelKT.mapPut {K : PySem.W.Frag} {mg : Str → Option Value} {r : List Addr} {H : Hp} {k : List Key} {v : V} {x : D} (q : Rel K mg r H v x) : ∀ {vs : List (List Key × V)} {xs : List (List Key × D)}, RelKT K mg r H vs xs → RelKT K mg r H (vs.map fun kv => if kv.1 = k then (kv.1, v) else kv) (xs.map fun kv => if kv.1 = k then (kv.1, x) else kv)
  | _, _, .nil => .nil
  | _, _, @RelKT.cons _ _ _ _ k' _ _ _ _ q' t => by
    simp only [List.map_cons]
    by_cases hk : k' = k
    · simp only [hk, if_true]; exact .cons q (RelKT.mapPut q t)
    · simp only [hk, if_false]; exact .cons q' (RelKT.mapPut q t)
theorem RelKT.append {K : PySem.W.Frag} {mg : Str → Option Value} {r : List Addr} {H : Hp} : ∀ {vs vs' : List (List Key × V)} {xs xs' : List (List Key × D)}, RelKT K mg r H vs xs → RelKT K mg r H vs' xs' → RelKT K mg r H (vs ++ vs') (xs ++ xs')
  | _, _, _, _, .nil, q => q
  | _, _, _, _, .cons h t, q => .cons h (RelKT.append t q)
theorem RelKT.put {K : PySem.W.Frag} {mg : Str → Option Value} {r : List Addr} {H : Hp} {k : List Key} {v : V} {x : D} {vs : List (List Key × V)} {xs : List (List Key × D)} (t : RelKT K mg r H vs xs) (q : Rel K mg r H v x) : RelKT K mg r H (putK vs k v) (putD xs k x) := by
  unfold putK putD
  rw [t.any]
  split
  · exact t.mapPut q
  · exact t.append (.cons q .nil)
def dgT (h : AH) (o k : D) : Option D := (dtOf h o).bind fun kvs => (keysD k).bind fun q => valD kvs q
def evDgT (f g : Ev) : Ev := fun e h => (f e h).bind fun o h1 => (g e h1).bind fun k h2 => ofO (dgT h2 o k) h2
theorem den_dgT {o i : Expr} {pos : Pos} {f g : Ev} (hu : X.A.units + 1 < cLine) (ho : DenE X W o f) (hi : DenE X W i g) (hs : NoSl i := by exact fun _ _ => rfl) : DenE X W (.Subscript o i pos) (evDgT f g) :=
  PE.imp (pe_dget hu ho hi hs) fun σ H Q ⟨r, e, h, er, hr, ok⟩ => by
    unfold evDgT at ok
    refine rdE_bind er hr ok fun x h1 v r1 H1 s1 hr1 t1 er1 ok1 => ?_
    refine rdE_bind er1 hr1 ok1 fun y h2 w r2 H2 s2 hr2 t2 er2 ok2 => ?_
    cases hg : dgT h2 x y with
    | none => rw [hg] at ok2; exact ok2.elim
    | some d =>
      rw [hg] at ok2
      unfold dgT at hg
      simp only [Option.bind_eq_some_iff] at hg
      obtain ⟨kvs, hk, q, hq, hv⟩ := hg
      obtain ⟨a, vs, rfl, z1, z2⟩ := dtOf_inv hr2 (t1.mono s2).u hk
      obtain ⟨b, rfl, eb⟩ := keysD_inv t2.u hq
      obtain ⟨u, z3, z4⟩ := z2.val hv
      exact ⟨a, u, rfl, .inr ⟨vs, q, b, z1, rfl, eb, z3.symm⟩, ok2 _ r2 H2 (Step.refl _ _) hr2 (.val z4)⟩
def svDputT (fo fi fv : Ev) : Sv := fun e h => (pv fv e h).toFl e fun d h1 => (fo e h1).toFl e fun o h2 => (fi e h2).toFl e fun k h3 => match o with
  | .ref n => match h3[n]?, keysD k with
    | some (.dt kvs), some q => if kvs.length < 16777216 then .nx e (h3.set n (.dt (putD kvs q d))) else .stuck
    | _, _ => .stuck
  | _ => .stuck
theorem den_dputT {o i ex : Expr} {pos pos' : Pos} {fo fi fv : Ev} (hu : X.A.units + 1 < cLine) (ho : DenE X W o fo) (hi : DenE X W i fi) (hv : DenE X W ex fv) (hs : swapsWith ex (some (.Subscript o i pos')) pos.line X.env = pure false := by rfl) : DenS X W (.Assign [.Subscript o i pos'] ex pos) (svDputT fo fi fv) :=
  PS.imp (ps_dput hu ho hi (den_pv hv) hs) fun N σ H ⟨r, e, h, er, hr, ok⟩ => by
    unfold svDputT at ok
    refine rdV_bindS er hr ok fun d h1 v r1 H1 s1 hr1 t1 er1 ok1 => ?_
    refine rdE_bindS er1 hr1 ok1 fun x h2 w r2 H2 s2 hr2 t2 er2 ok2 => ?_
    refine rdE_bindS er2 hr2 ok2 fun y h3 u r3 H3 s3 hr3 t3 er3 ok3 => ?_
    split at ok3
    · rename_i n
      split at ok3
      · rename_i kvs q hk hq
        split at ok3
        · rename_i hz
          have t2' := t2.mono s3
          cases t2' with
          | val t2' =>
            cases t2' with
            | @ref n a hn =>
              obtain ⟨vs, z1, z2⟩ := hr3.obj _ _ _ hk hn
              obtain ⟨b, rfl, eb⟩ := keysD_inv t3.u hq
              have ha : a ∈ r3 := List.mem_of_getElem? hn
              have t1' := (t1.mono s2.mn).mono s3.mn
              have s4 : Step r3 H3 r3 (upd H3 a (.dT (putK vs q v))) := Step.mut ha (by rw [z1]; exact fun _ _ z => nomatch z)
              refine ⟨a, _, rfl, DPut.t z1 eb (by rw [z2.length]; exact hz), ok3 σ r3 _ s4 (er3.mono s4.mn) ?_⟩
              exact hr3.put (ob := .dt (putD kvs q d)) hn ⟨putK vs q v, upd_same, (z2.put t1').mono s4.mn⟩
        · exact ok3.elim
      · exact ok3.elim
    · exact ok3.elim
def inT (neg : Bool) (h : AH) (x y : D) : Option D := (dtOf h y).bind fun kvs => (keysD x).bind fun q => some (.bl (neg ^^ (valD kvs q).isSome))
theorem op_notInT (hu : X.A.units + 1 < cLine) : OpR X (compareOp .NotIn) (fun x y H Q => ∃ a o, y = .ref a ∧ DGet H a x o ∧ Q (.bl (!o.isSome)) H) := by
  intro pins s σ H x y v u Q I rx ry h
  obtain ⟨a, o, rfl, g, q⟩ := h
  cases ry
  exact d_notIn hu I g rx fun s' I' => ⟨.bl (!o.isSome), H, I', rfl, q⟩
theorem opd_notInT (hu : X.A.units + 1 < cLine) : OpD X (compareOp .NotIn) (inT true) := OpR.imp (op_notInT hu) fun x y H Q ⟨r, h, dx, dy, d, hr, tx, ty, hg, q⟩ => by
  unfold inT at hg
  simp only [Option.bind_eq_some_iff] at hg
  obtain ⟨kvs, hk, ks, hq, e⟩ := hg
  cases e
  obtain ⟨a, vs, rfl, z1, z2⟩ := dtOf_inv hr ty hk
  obtain ⟨b, rfl, eb⟩ := keysD_inv tx hq
  exact ⟨a, _, rfl, .inr ⟨vs, ks, b, z1, rfl, eb, rfl⟩, by rw [z2.isSome]; exact q _ H (Step.refl _ _) hr (.val (by rw [Bool.true_xor]; exact .bl _))⟩
def bLenT (h : AH) (ds : List D) : Option D := match ds with
  | [.ref n] => match h[n]? with
    | some (.dt kvs) => some (.int (kvs.length : Nat))
    | _ => none
  | _ => none
def keysOf (kvs : List (List Key × D)) : List D := kvs.map fun p => keyT p.1
def ivKeys (f : Ev) : Iv := fun e h => (f e h).bind fun d h1 => match d with
  | .ref n => match h1[n]? with
    | some (.dt kvs) => .ok { xs := keysOf kvs } (h1.set n (.fz kvs))
    | _ => .stuck
  | _ => .stuck
theorem den_ikeys {tg ex : Expr} {f : Ev} (hf : DenE X W ex f) : DenI X W tg ex (ivKeys f) := PI.imp (pi_keysL hf) fun σ H R ⟨r, e, h, er, hr, ok⟩ => by
  unfold ivKeys at ok
  refine rdI_bind er hr ok fun d h1 v r1 H1 hfe s1 hr1 t1 er1 ok1 => ?_
  clear hfe
  split at ok1
  · rename_i n
    split at ok1
    · rename_i kvs hk
      cases t1 with
      | val t1 => cases t1 with
        | @ref n a hn =>
          obtain ⟨vs, z1, z2⟩ := hr1.obj _ _ _ hk hn
          refine ⟨a, vs, rfl, z1, fun o => ?_⟩
          have ha : a ∈ r1 := List.mem_of_getElem? hn
          have s2 : Step r1 H1 r1 (upd H1 a (.frz o (.dT vs))) := Step.mut ha (by rw [z1]; exact fun _ _ z => nomatch z)
          have hr2 : HRel X.K X.mg r1 (h1.set n (.fz kvs)) (upd H1 a (.frz o (.dT vs))) := hr1.put (ob := .fz kvs) hn ⟨o, vs, upd_same, z2.mono s2.mn⟩
          refine ok1 _ r1 _ s2 hr2 ?_
          have hl : (keysOf kvs).length = vs.length := by unfold keysOf; rw [List.length_map, z2.length]
          refine ⟨_, _, walk_len walk_keysT hl.symm, fun r' H' h' s' _ _ => s'.frz _ _ _ upd_same, ?_⟩
          rintro i r2 h2 H2 x H3 hi s' hr' _ ⟨rfl, k, y, b, e1, rfl, e2⟩
          refine ⟨Step.refl _ _, hr', keyT k, ?_, keyT_rel hr' e2⟩
          show (keysOf kvs)[i]? = _
          have kk : ∀ {vs : List (List Key × V)} {xs : List (List Key × D)} {i : Nat}, RelKT X.K X.mg r1 H1 vs xs → vs[i]? = some (k, y) → (keysOf xs)[i]? = some (keyT k) := fun {vs xs i} q => by
            induction q generalizing i with
            | nil => intro e; simp at e
            | cons q t ih =>
              intro e
              cases i with
              | zero => simp at e; simp [keysOf, e.1]
              | succ i => simp at e; exact ih e
          exact kk z2 e1
    · exact ok1.elim
  · exact ok1.elim
end
end BW

set_option Elab.async false
set_option linter.all false
set_option maxRecDepth 100000
set_option maxHeartbeats 4000000
namespace BW
open PySem PySem.Spec PyProof.Rows L2 GenW
section
variable {X : Cx}
section
variable {prog : Program} {w : World} {A : Around} {R : GenEnd} {Y : Protocol} {n : Nat} {s0 : Shared} {fs : List Frame} {s : Shared} {env : PySem.Env} {tg : Expr} {it : Value} {body : List Stmt}
end
end
end BW

set_option Elab.async false
set_option linter.all false
set_option maxRecDepth 100000
set_option maxHeartbeats 4000000
namespace BW
open PySem PySem.Spec PyProof.Rows L2 GenW
variable [Tb]
section
variable (K : PySem.W.Frag) (mg : Str → Option Value)
end
section
variable {X : Cx} {W : Wx}
end
end BW

set_option Elab.async false
set_option linter.all false
set_option maxRecDepth 100000
set_option maxHeartbeats 4000000
namespace BW
open PySem PySem.Spec PyProof.Rows L2 GenW
variable [Tb]
section
variable (K : PySem.W.Frag) (mg : Str → Option Value)
end
section
variable {K : PySem.W.Frag} {mg : Str → Option Value} {P : Program} {w : World} {base : Heap}
end
section
variable {X : Cx} {W : Wx}
end
end BW

set_option Elab.async false
set_option linter.all false
set_option maxRecDepth 100000
set_option maxHeartbeats 4000000
namespace BW
open PySem PySem.Spec PyProof.Rows L2
section
variable [Tb]
variable {X : Cx}
end
end BW

set_option Elab.async false
set_option linter.all false
set_option maxRecDepth 100000
set_option maxHeartbeats 4000000
namespace BW
open PySem PySem.Spec PyProof.Rows L2
variable [Tb]
section
variable {X : Cx} {W : Wx}
end
section
variable {P : Program} {w : World} {K : PySem.W.Frag} {mg : Str → Option Value} {base : Heap}
end
section
variable {X : Cx} {W : Wx}
end
end BW

set_option Elab.async false
set_option linter.all false
set_option maxRecDepth 100000
set_option maxHeartbeats 4000000
namespace BW
open PySem PySem.Spec PyProof.Rows L2
variable [Tb]
section
variable {X : Cx} {W : Wx}
end
end BW

set_option Elab.async false
set_option linter.all false
set_option maxRecDepth 100000
set_option maxHeartbeats 4000000
namespace BW
open PySem PySem.Spec PyProof.Rows L2
variable [Tb]
section
variable {X : Cx}
end
end BW

set_option Elab.async false
set_option linter.all false
set_option maxRecDepth 100000
set_option maxHeartbeats 4000000
namespace BW
open PySem PySem.Spec PyProof.Rows L2
variable [Tb]
section
variable {X : Cx} {W : Wx}
end
end BW

set_option Elab.async false
set_option linter.all false
set_option maxRecDepth 100000
set_option maxHeartbeats 4000000
namespace BW
open PySem PySem.Spec PyProof.Rows L2
variable [Tb]
section
variable {X : Cx} {W : Wx}
end
end BW

set_option Elab.async false
set_option linter.all false
set_option maxRecDepth 100000
set_option maxHeartbeats 4000000
namespace BW
open PySem PySem.Spec PyProof.Rows L2
variable [Tb]
section
variable {X : Cx} {W : Wx}
end
end BW

set_option Elab.async false
set_option linter.all false
set_option maxRecDepth 100000
set_option maxHeartbeats 4000000
namespace PySem
open Sem (wp)
section
variable {prog : Program} {w : World} {A : Around} {E : Value → Shared → Prop} {s : Shared}
end
section
variable {prog : Program} {w : World} {A : Around} {E : Value → Shared → Prop} {s : Shared}
end
end PySem
namespace BW
open PySem PySem.Spec PyProof.Rows L2 GenW
variable [Tb]
section
variable {X : Cx} {W : Wx}
end
end BW

set_option Elab.async false
set_option linter.all false
set_option maxRecDepth 100000
set_option maxHeartbeats 4000000
namespace BW
open PySem PySem.Spec PyProof.Rows L2
variable [Tb]
section
variable {X : Cx} {W : Wx} {pins : List (Addr × Obj)} {σ : L2.St} {H : Hp} {s : Shared} {r : List Addr} {h : AH}
end
end BW

set_option Elab.async false
set_option linter.all false
set_option maxRecDepth 100000
set_option maxHeartbeats 4000000
namespace BW
open PySem PySem.Spec PyProof.Rows L2
variable [Tb]
section
variable {X : Cx} {W : Wx} {pins : List (Addr × Obj)} {σ : L2.St} {H : Hp} {s : Shared} {r : List Addr} {h : AH}
mutual
theorem py_reads0 (I : Inv X pins σ H s) : ∀ {d : D} {p : PyData} {v : V} {u : Value}, d.py = some p → Rel X.K X.mg r H v d → RelV v u → Reads s.heap u p []
  | .bl b, p, v, u, e, q, rv => by simp only [D.py, Option.some.injEq] at e; subst e; cases q; cases rv; exact .bool b
  | .int i, p, v, u, e, q, rv => by simp only [D.py, Option.some.injEq] at e; subst e; cases q; obtain ⟨t, rfl⟩ := rv; exact .int i t
  | .str x, p, v, u, e, q, rv => by simp only [D.py, Option.some.injEq] at e; subst e; cases q; obtain ⟨t, rfl⟩ := rv; exact .str x t
  | .tup xs, p, v, u, e, q, rv => by
    simp only [D.py, Option.map_eq_some_iff] at e
    obtain ⟨ps, e1, rfl⟩ := e
    cases q with
    | tup h1 h2 =>
      cases rv
      obtain ⟨its, rv, ⟨o, ho, hc, n', hd⟩, _⟩ := I.tuple h1.sq
      exact .tuple ho hc hd (pys_reads0 I e1 h2 rv)
  | .non, p, v, u, e, q, rv => by simp [D.py] at e
  | .tl _, p, v, u, e, q, rv => by simp [D.py] at e
  | .rl _, p, v, u, e, q, rv => by simp [D.py] at e
  | .ref _, p, v, u, e, q, rv => by simp [D.py] at e
  | .exc _ _, p, v, u, e, q, rv => by simp [D.py] at e
theorem pys_reads0 (I : Inv X pins σ H s) : ∀ {ds : List D} {ps : List PyData} {vs : List V} {us : List Value}, D.pys ds = some ps → Rels X.K X.mg r H vs ds → Vals vs us → ReadsAll s.heap us ps []
  | [], ps, vs, us, e, q, rv => by
    simp only [D.pys, Option.some.injEq] at e
    subst e
    cases q
    cases rv
    exact .nil
  | d :: ds, ps, vs, us, e, q, rv => by
    simp only [D.pys, Option.bind_eq_some_iff, Option.map_eq_some_iff] at e
    obtain ⟨p, e1, ps', e2, rfl⟩ := e
    cases q with
    | cons h1 h2 =>
      cases rv with
      | cons r1 r2 => exact .cons (py_reads0 I e1 h1 r1) (pys_reads0 I e2 h2 r2)
end
end
end BW

set_option Elab.async false
set_option linter.all false
set_option maxRecDepth 100000
set_option maxHeartbeats 4000000
namespace BW
open PySem PySem.Spec PyProof.Rows L2
variable [Tb]
section
variable {X : Cx} {W : Wx}
theorem kt_ints {H : Hp} {kvs : List (List Key × V)} {xs : List (List Key × Addr × Value)} (r : KT H kvs xs) : ∀ {is : List Int}, kvs.map (·.2) = is.map V.int → ∀ (i : Nat) x, xs[i]? = some x → ∃ t, x.2.2 = Value.int (is.getD i 0) t := by
  unfold KT at r
  induction r with
  | nil => intro is e i x hx; simp at hx
  | cons h t ih =>
    intro is e i x hx
    cases is with
    | nil => simp at e
    | cons j is =>
      simp only [List.map_cons, List.cons.injEq] at e
      obtain ⟨e1, e2⟩ := e
      cases i with
      | zero =>
        simp only [List.getElem?_cons_zero, Option.some.injEq] at hx
        subst hx
        have rv := h.2.2
        rw [e1] at rv
        obtain ⟨t, z⟩ := rv
        exact ⟨t, by rw [z]; rfl⟩
      | succ i =>
        simp only [List.getElem?_cons_succ] at hx
        obtain ⟨t, z⟩ := ih e2 i x hx
        exact ⟨t, by rw [z]; rfl⟩
def tMinValsT (td : TE) : TE := fun σ H Q => td σ H fun x H1 => ∃ a kvs is, x = V.ref a ∧ Rd H1 a (.dT kvs) ∧ kvs.map (·.2) = is.map V.int ∧ is ≠ [] ∧ ∀ m, m ∈ is → (∀ j ∈ is, m ≤ j) → Q (.int m) H1
theorem pe_minValsT {o : Expr} {p pos apos mpos : Pos} {td : TE} (hc : X.calm = true) (hg : Gl X "min") (hm : X.mg "min" = none) (hd : PE X o td) (hbase : attributeBase o "values" X.env (eval o X.env) = eval o X.env := by rfl) (hline : (apos.endLine == mpos.line) = true := by rfl)
    (hse : starEach [Expr.Call (.Attribute o "values" apos) [] [] mpos] X.env = [(false, eval (Expr.Call (.Attribute o "values" apos) [] [] mpos) X.env)] := by rfl) :
    PE X (.Call (.Name "min" p) [.Call (.Attribute o "values" apos) [] [] mpos] [] pos) (tMinValsT td) := by
  refine ⟨fun pins s σ H Q I h => ?_⟩
  refine wpAny_Call_Name_kw (ld_blt I hg hm (u := .builtin "min") (by first | rfl | decide +kernel) ?_ (by first | decide +kernel | decide) (by first | decide +kernel | decide))
  rw [hse]
  refine PySem.callWith_builtin1 (wpAny_Call_method0_late hbase hline (thn (hd.run pins s σ H _ I h) fun v s1 ⟨x, H1, I1, r1, a, kvs, is, ex, ha, hv, hne, q⟩ => ?_))
  subst ex
  obtain rfl : v = Value.ref a := r1
  obtain ⟨z, hs, ks, pr, ob, es, ep, ho, hx, hdt, he, hn⟩ := (show ObjOk X.prog X.w H1 s1.heap a (.dT kvs) from ha.ok I1.hok)
  have l1 : es.size = ks.length := size_of_entries he
  have l2 : kvs.length = ks.length := Paired.length pr
  have raw : s1.heap.DictRaw a es ep := ⟨ob, ho, hx, hdt⟩
  refine ⟨"dict", "dict.values", F.plainAttrs_dict, F.slot_dict_values, F.type_dict_values, ⟨ob, ho, hx.1⟩, fun b e => ?_, Calls.callWith_builtin rfl (PySem.evalArgs_none ?_)⟩
  · cases e
    exact ⟨ob, ho, hx.2.1⟩
  refine call_meetsIn F.slot_dict_values ⟨ob, ho, hx.1⟩ F.entry_dict_values (F.args_dict_values_1 _) (meets_dict_values_raw a hs) ⟨⟨es, ep, raw⟩, ?_⟩
  have k1 : ∀ b u, s1.heap.get? b = some u → (s1.heap.push { cls := .type "dict_values", data := .fields #[.ref a] }).get? b = some u := fun b u e => Heap.get?_push_of_some _ e
  have raw1 : (s1.heap.push { cls := .type "dict_values", data := .fields #[.ref a] }).DictRaw a es ep := raw.at fun o e => k1 _ _ e
  have hli : es.size = is.length := by
    have e1 := congrArg List.length hv
    rw [List.length_map, List.length_map] at e1
    omega
  have hlen : 0 < es.size := by
    rw [hli]
    exact List.length_pos_iff.mpr hne
  have hval : ∀ (i : Nat) (v : Value), (∃ hi : i < es.size, v = es[i].val) → ∃ t, v = Value.int (is.getD i 0) t := fun i v ⟨hi, hk⟩ => by
    have qe := entry_at he i
    rw [Array.getElem?_eq_getElem hi] at qe
    cases hb : ks[i]? with
    | none => rw [hb] at qe; exact nomatch qe
    | some y =>
      rw [hb] at qe
      have e2 := Option.some.inj qe
      obtain ⟨t, e3⟩ := kt_ints pr hv i y hb
      exact ⟨t, by rw [hk, e2]; exact e3⟩
  refine call_min_walk (wpAny_pyIter_values_raw (v := s1.heap.objs.size) (d := a) ⟨_, Heap.get?_push_size _ rfl, rfl, rfl⟩ raw1 ?_)
  have hlt : a < s1.heap.objs.size := Heap.lt_size ho
  have hsz : (s1.heap.push { cls := .type "dict_values", data := .fields #[.ref a] }).objs.size = s1.heap.objs.size + 1 := Heap.size_push _ _
  refine ⟨_, _, _, _, _, _, _, rfl, Walks.rawValues (A := X.A.in1) (I.ok.hd hc) (s1.heap.push { cls := .type "dict_values", data := .fields #[.ref a] }).objs.size a (by rw [hsz]; exact Nat.ne_of_lt (Nat.lt_succ_of_lt hlt)) es ep,
    ⟨⟨_, Heap.get?_push_size _ rfl, rfl, rfl⟩, raw1.at fun u e => Heap.get?_push_of_some _ e⟩, fun b hb => ?_, hlen, CmpOf.ints_lt (fun i => is.getD i 0) hval, fun v h' tk hP hk => ?_⟩
  · show b < ((s1.heap.push _).push _).objs.size
    rw [Heap.size_push, Heap.size_push]
    rw [hsz] at hb
    rcases List.mem_cons.mp hb with e | hb
    · rw [e]
      exact Nat.lt_succ_self _
    · have e : b = a := List.mem_singleton.mp hb
      rw [e]
      exact Nat.lt_succ_of_lt (Nat.lt_succ_of_lt hlt)
  · obtain ⟨t, rfl⟩ := hval _ v hP
    obtain ⟨b1, b2⟩ := argBest_lt (fun i => is.getD i 0) (es.size - 1)
    refine ⟨.int _, H1, I1.kept (t' := tk) fun b u e => hk b u (fun hmem => ?_) (Heap.get?_push_of_some _ (k1 b u e)), ⟨t, rfl⟩, q _ ?_ fun j hj => ?_⟩
    · have e1 : b = (s1.heap.push { cls := .type "dict_values", data := .fields #[.ref a] }).objs.size := List.mem_singleton.mp hmem
      have e2 := Heap.lt_size e
      rw [hsz] at e1
      rw [e1] at e2
      exact absurd e2 (Nat.not_lt.mpr (Nat.le_succ _))
    · have hb : argBest (fun i j => decide (is.getD i 0 < is.getD j 0)) (es.size - 1) < is.length := by omega
      rw [List.getD_eq_getElem?_getD, List.getElem?_eq_getElem hb]
      exact List.getElem_mem hb
    · obtain ⟨i, hi, e⟩ := List.mem_iff_getElem.mp hj
      have e2 : is.getD i 0 = j := by rw [List.getD_eq_getElem?_getD, List.getElem?_eq_getElem hi, ← e] <;> rfl
      rw [← e2]
      exact b2 i (by omega)
def minL : List Int → Int
  | [] => 0
  | x :: l => l.foldl min x
def evMinValsT (f : Ev) : Ev := fun e h => (f e h).bind fun d h1 => match dtOf h1 d with
  | some kvs => match intsOf (kvs.map (·.2)) with
    | some (x :: l) => .ok (.int (minL (x :: l))) h1
    | _ => .stuck
  | none => .stuck
theorem foldl_min : ∀ (l : List Int) (a : Int), (l.foldl min a ≤ a ∧ ∀ y ∈ l, l.foldl min a ≤ y) ∧ (l.foldl min a = a ∨ l.foldl min a ∈ l)
  | [], a => ⟨⟨Int.le_refl _, fun _ h => nomatch h⟩, .inl rfl⟩
  | x :: l, a => by
    obtain ⟨⟨h1, h2⟩, h3⟩ := foldl_min l (min a x)
    rw [List.foldl_cons]
    have m1 := Int.min_le_left a x
    have m2 := Int.min_le_right a x
    refine ⟨⟨by omega, fun y hy => ?_⟩, ?_⟩
    · rcases List.mem_cons.mp hy with z | z
      · rw [z]; omega
      · exact h2 y z
    · rcases h3 with h3 | h3
      · rcases Int.le_total a x with z | z
        · exact .inl (by rw [h3]; exact Int.min_eq_left z)
        · exact .inr (by rw [h3, Int.min_eq_right z]; exact List.mem_cons_self)
      · exact .inr (List.mem_cons_of_mem _ h3)
theorem minL_uniq {x : Int} {l : List Int} {m : Int} (h1 : m ∈ x :: l) (h2 : ∀ j ∈ x :: l, m ≤ j) : minL (x :: l) = m := by
  obtain ⟨⟨a1, a2⟩, a3⟩ := foldl_min l x
  show l.foldl min x = m
  have u1 : m ≤ l.foldl min x := by
    rcases a3 with z | z
    · rw [z]; exact h2 x List.mem_cons_self
    · exact h2 _ (List.mem_cons_of_mem _ z)
  have u2 : l.foldl min x ≤ m := by
    rcases List.mem_cons.mp h1 with z | z
    · rw [z]; exact a1
    · exact a2 _ z
  omega
theorem relKT_ints {K : PySem.W.Frag} {mg : Str → Option Value} {r : List Addr} {H : Hp} : ∀ {vs : List (List Key × V)} {kvs : List (List Key × D)} {is : List Int}, RelKT K mg r H vs kvs → intsOf (kvs.map (·.2)) = some is → vs.map (·.2) = is.map V.int
  | _, _, is, .nil, e => by
    cases is with
    | nil => rfl
    | cons a l => simp [intsOf] at e
  | _, _, is, .cons (x := x) q t, e => by
    rw [List.map_cons] at e
    cases x with
    | int b =>
      simp only [intsOf, Option.map_eq_some_iff] at e
      obtain ⟨js, e1, rfl⟩ := e
      cases q
      rw [List.map_cons, List.map_cons, relKT_ints t e1]
    | _ => exact nomatch e
theorem den_minValsT {o : Expr} {f : Ev} {p pos apos mpos : Pos} (hc : X.calm = true) (hg : Gl X "min") (hm : X.mg "min" = none) (hf : DenE X W o f) (hbase : attributeBase o "values" X.env (eval o X.env) = eval o X.env := by rfl) (hline : (apos.endLine == mpos.line) = true := by rfl)
    (hse : starEach [Expr.Call (.Attribute o "values" apos) [] [] mpos] X.env = [(false, eval (Expr.Call (.Attribute o "values" apos) [] [] mpos) X.env)] := by rfl) :
    DenE X W (.Call (.Name "min" p) [.Call (.Attribute o "values" apos) [] [] mpos] [] pos) (evMinValsT f) :=
  PE.imp (pe_minValsT hc hg hm hf hbase hline hse) fun σ H Q ⟨r, e, h, er, hr, ok⟩ => by
    unfold evMinValsT at ok
    cases hfe : f e h with
    | stuck => rw [hfe] at ok; exact ok.elim
    | exc x h1 => exact ⟨r, e, h, er, hr, by rw [hfe] at ok ⊢; exact ok⟩
    | ok d h1 =>
      rw [hfe, Out.bind_ok] at ok
      refine ⟨r, e, h, er, hr, ?_⟩
      rw [hfe]
      intro v r1 H1 s1 hr1 t1
      split at ok
      · rename_i kvs hk
        obtain ⟨a, vs, rfl, z1, z2⟩ := dtOf_inv hr1 t1.u hk
        split at ok
        · rename_i x l hi
          refine ⟨a, vs, x :: l, rfl, z1, relKT_ints z2 hi, by simp, fun m h1' h2' => ?_⟩
          rw [minL_uniq h1' h2'] at ok
          exact ok _ r1 H1 s1 hr1 (.val (.int _))
        · exact ok.elim
      · exact ok.elim
end
end BW

set_option Elab.async false
set_option linter.all false
set_option maxRecDepth 100000
set_option maxHeartbeats 4000000
namespace BW
open PySem PySem.Spec PyProof.Rows L2
def d_is_whole : Fd := fnD 1
  (svRet (evAnd (evIsi ["int"] (evVar 0)) (evNot (evIsi ["bool"] (evVar 0)))))
def d_is_among : Fd := fnD 3
  (svRet (evAnd (evCall d_is_whole [(evVar 0)]) (evChain opLe opLe (evVar 1) (evVar 0) (evVar 2))))
def d_is_list : Fd := fnD 1
  (svRet (evIsi ["list", "tuple"] (evVar 0)))
def d_is_bond : Fd := fnD 4
  (svSeq (svAsg (evOp opIx (evOp opIx (evVar 0) (evVar 1)) (evVar 2)) (gvName 3)) (svSeq (svIf (tvOf (evOp opEq (evVar 1) (evVar 2))) (svRet (evCall d_is_among [(evVar 3), (evC (.int 1)), (evC (.int 1))])) svNil) (svRet (evAnd (evCall d_is_whole [(evVar 3)]) (evAnd (evInG false [.int 2, .int 3, .int 4, .int 6, .int 0] (evVar 3)) (evOr (evOp opLt (evVar 1) (evVar 2)) (evOp opEq (evVar 3) (evOp opIx (evOp opIx (evVar 0) (evVar 2)) (evVar 1)))))))))
def d_need_rows : Fd := fnD 4
  (svSeq (svIf (tvOr (tvNot (tvOf (evCall d_is_list [(evVar 0)]))) (tvOf (evOp opEq (evB bLen [(evVar 0)]) (evC (.int 0))))) (svRaise1 "BadBonds" (evC .non)) svNil) (svSeq (svIf (tvOf (evOp opGt (evB bLen [(evVar 0)]) (evC (.int 6)))) (svRaise1 "TooGreat" (evC (.int 6))) svNil) (svSeq (svFor (ivSeq (evVar 0)) (gvName 1) (svIf (tvOr (tvNot (tvOf (evCall d_is_list [(evVar 1)]))) (tvOf (evOp opNe (evB bLen [(evVar 1)]) (evB bLen [(evVar 0)])))) (svRaise1 "BadBonds" (evC .non)) svNil)) (svFor (ivBy [(evB bLen [(evVar 0)])] kR1) (gvName 2) (svFor (ivBy [(evB bLen [(evVar 0)])] kR1) (gvName 3) (svIf (tvNot (tvOf (evCall d_is_bond [(evVar 0), (evVar 2), (evVar 3)]))) (svRaise1 "BadBonds" (evTup [(evOp opAdd (evVar 2) (evC (.int 1))), (evOp opAdd (evVar 3) (evC (.int 1)))])) svNil))))))
def d_Bonds___init__ : Fd := fnD 3
  (svSeq (svExpr (evCall d_need_rows [(evVar 1)])) (svSlot "Bonds" (evVar 0) (evB bTuple [(evLc (ivSeq (evVar 1)) (Tgt.own (.one 2)) (Tgt.gv (.one 2)) tvYes (evB bTuple [(evVar 2)]))])))
def d_Bonds___len__ : Fd := fnD 1
  (svRet (evB bLen [(evSlot "Bonds" (evVar 0))]))
def d_Bonds_need_letter : Fd := fnD 2
  (svIf (tvNot (tvOf (evCall d_is_among [(evVar 1), (evC (.int 1)), (evB bLen [(evSlot "Bonds" (evVar 0))])]))) (svRaise1 "BadNumber" (evVar 1)) svNil)
def d_Bonds_weight : Fd := fnD 4
  (svSeq (svExpr (evMeth "Bonds" d_Bonds_need_letter (evVar 0) [(evVar 1)])) (svSeq (svExpr (evMeth "Bonds" d_Bonds_need_letter (evVar 0) [(evVar 2)])) (svSeq (svIf (tvOf (evOp opEq (evVar 1) (evVar 2))) (svRet (evNeg (evC (.int 2)))) svNil) (svSeq (svAsg (evWg [(2, [0, 0]), (3, [1, 1]), (4, [1, 2]), (6, [1, 3]), (0, [2, 2])] (evOp opIx (evOp opIx (evSlot "Bonds" (evVar 0)) (evOp opSub (evVar 1) (evC (.int 1)))) (evOp opSub (evVar 2) (evC (.int 1))))) (gvName 3)) (svRet (evIf (tvOf (evOp opLt (evVar 1) (evVar 2))) (evOp opIxK (evVar 3) (evC (.int 0))) (evOp opIxK (evVar 3) (evC (.int 1)))))))))
def d_need_word : Fd := fnD 4
  (svSeq (svIf (tvNot (tvOf (evCall d_is_list [(evVar 1)]))) (svRaise1 "BadWord" (evC .non)) svNil) (svSeq (svIf (tvOf (evOp opGt (evB bLen [(evVar 1)]) (evC (.int 60)))) (svRaise1 "TooGreat" (evC (.int 60))) svNil) (svFor (ivBy [(evVar 1)] kEnum) (gvTup [(gvName 2), (gvName 3)]) (svIf (tvNot (tvOf (evCall d_is_among [(evVar 3), (evC (.int 1)), (evLenO "Bonds" d_Bonds___len__ (evVar 0))]))) (svRaise1 "BadWord" (evVar 2)) svNil))))
def d_start : Fd := fnD 1
  (svRet (evOp opMul (evTup [(evC (.int 1))]) (evLenO "Bonds" d_Bonds___len__ (evVar 0))))
def d_pressed : Fd := fnD 6
  (svSeq (svAsg (evOp opIx (evVar 1) (evOp opSub (evVar 2) (evC (.int 1)))) (gvName 3)) (svRet (evB bTuple [(evLc (ivBy [(evVar 1)] kEnum) (Tgt.own (.two 4 5)) (Tgt.gv (.two 4 5)) tvYes (evOp opAdd (evVar 5) (evOp opMul (evMeth "Bonds" d_Bonds_weight (evVar 0) [(evVar 2), (evOp opAdd (evVar 4) (evC (.int 1)))]) (evVar 3))))])))
def d_row_by : Fd := fnD 4
  (svSeq (svAsg (evCall d_start [(evVar 0)]) (gvName 2)) (svSeq (svFor (ivSeq (evVar 1)) (gvName 3) (svAsg (evCall d_pressed [(evVar 0), (evVar 2), (evVar 3)]) (gvName 2))) (svRet (evVar 2))))
def d_below : Fd := fnD 3
  (svRet (evB bTuple [(evLc (ivBy [(evVar 0)] kEnum) (Tgt.own (.two 1 2)) (Tgt.gv (.two 1 2)) (tvOf (evOp opLt (evVar 2) (evC (.int 0)))) (evOp opAdd (evVar 1) (evC (.int 1))))]))
def d_undone : Fd := fnD 4
  (svSeq (svPar [(evLst []), (evVar 1)] [2, 3]) (svSeq (svWhile (tvAnd (tvOf (evOp opNe (evCall d_below [(evVar 3)]) (evTup []))) (tvOf (evOp opLt (evB bLen [(evVar 2)]) (evC (.int 60))))) (svSeq (svExpr (evAppend (evVar 2) (evOp opIx (evCall d_below [(evVar 3)]) (evC (.int 0))))) (svAsg (evCall d_pressed [(evVar 0), (evVar 3), (evOp opIx (evVar 2) (evNeg (evC (.int 1))))]) (gvName 3))) 100000) (svRet (evIf (tvOf (evOp opEq (evVar 3) (evCall d_start [(evVar 0)]))) (evB bTuple [(evVar 2)]) (evC .non)))))
def d_shortest_by : Fd := fnD 2
  (svRet (evCall d_undone [(evVar 0), (evCall d_row_by [(evVar 0), (evRev (evB bTuple [(evVar 1)]))])]))
def d_word_by : Fd := fnD 2
  (svRet (evCall d_shortest_by [(evVar 0), (evRev (evCall d_undone [(evVar 0), (evVar 1)]))]))
def d_is_choice : Fd := fnD 5
  (svSeq (svIf (tvOr (tvNot (tvOf (evIsi ["tuple"] (evVar 1)))) (tvNot (tvOf (evB bAll [(evLc (ivSeq (evVar 1)) (Tgt.own (.one 2)) (Tgt.gv (.one 2)) tvYes (evCall d_is_among [(evVar 2), (evC (.int 1)), (evLenO "Bonds" d_Bonds___len__ (evVar 0))]))])))) (svRet (evC (.bl false))) svNil) (svRet (evB bAll [(evLc (ivBy [(evVar 1), (evSl (evVar 1) (pvSome (evC (.int 1))) pvNone)] kZip) (Tgt.own (.two 3 4)) (Tgt.gv (.two 3 4)) tvYes (evOp opLt (evVar 3) (evVar 4)))])))
def d_need_choice : Fd := fnD 2
  (svIf (tvNot (tvOf (evCall d_is_choice [(evVar 0), (evVar 1)]))) (svRaise1 "BadChoice" (evVar 1)) svNil)
def d_ends_in : Fd := fnD 3
  (svRet (evLc (ivSeq (evVar 1)) (Tgt.own (.one 2)) (Tgt.gv (.one 2)) (tvOf (evOp opLt (evOp opIx (evVar 0) (evOp opSub (evVar 2) (evC (.int 1)))) (evC (.int 0)))) (evVar 2)))
def d_is_ahead : Fd := fnD 3
  (svSeq (svExpr (evCall d_need_word [(evVar 0), (evVar 1)])) (svSeq (svExpr (evCall d_need_choice [(evVar 0), (evVar 2)])) (svRet (evOp opEq (evCall d_ends_in [(evCall d_row_by [(evVar 0), (evVar 1)]), (evVar 2)]) (evLst [])))))
def d_is_behind : Fd := fnD 3
  (svSeq (svExpr (evCall d_need_word [(evVar 0), (evVar 1)])) (svSeq (svExpr (evCall d_need_choice [(evVar 0), (evVar 2)])) (svRet (evOp opEq (evCall d_ends_in [(evCall d_row_by [(evVar 0), (evRev (evB bTuple [(evVar 1)]))]), (evVar 2)]) (evLst [])))))
def d_parted_by : Fd := fnD 6
  (svSeq (svPar [(evCall d_row_by [(evVar 0), (evVar 1)]), (evLst [])] [3, 4]) (svSeq (svAsg (evCall d_ends_in [(evVar 3), (evVar 2)]) (gvName 5)) (svSeq (svWhile (tvOf (evOp opNe (evVar 5) (evLst []))) (svSeq (svExpr (evAppend (evVar 4) (evOp opIx (evVar 5) (evC (.int 0))))) (svSeq (svAsg (evCall d_pressed [(evVar 0), (evVar 3), (evOp opIx (evVar 5) (evC (.int 0)))]) (gvName 3)) (svAsg (evCall d_ends_in [(evVar 3), (evVar 2)]) (gvName 5)))) 100000) (svRet (evTup [(evCall d_word_by [(evVar 0), (evVar 3)]), (evCall d_shortest_by [(evVar 0), (evB bTuple [(evRev (evVar 4))])])])))))
def d_parted : Fd := fnD 3
  (svSeq (svExpr (evCall d_need_word [(evVar 0), (evVar 1)])) (svSeq (svExpr (evCall d_need_choice [(evVar 0), (evVar 2)])) (svRet (evCall d_parted_by [(evVar 0), (evVar 1), (evVar 2)]))))
def d_least_between : Fd := fnD 5
  (svSeq (svExpr (evCall d_need_word [(evVar 0), (evVar 2)])) (svSeq (svExpr (evCall d_need_choice [(evVar 0), (evVar 1)])) (svSeq (svExpr (evCall d_need_choice [(evVar 0), (evVar 3)])) (svSeq (svAsg (evOp opIx (evCall d_parted_by [(evVar 0), (evVar 2), (evVar 3)]) (evC (.int 0))) (gvName 4)) (svRet (evCall d_shortest_by [(evVar 0), (evRev (evOp opIx (evCall d_parted_by [(evVar 0), (evRev (evVar 4)), (evVar 1)]) (evC (.int 0))))]))))))
end BW

set_option Elab.async false
set_option linter.all false
set_option maxRecDepth 100000
set_option maxHeartbeats 4000000
namespace BW
open PySem PySem.Spec PyProof.Rows L2
def d__law_mixed : Fd := fnD 3
  (svSeq (svAsg (evOp opAdd (evOp opAdd (evOp opMod (evB bInt [(evOp opMul (evOp opMul (evVar 0) (evOp opAdd (evC (.int 1)) (evOp opMul (evC (.int 2)) (evVar 1)))) (evC (.int 48271)))]) (evC (.int 2147483647))) (evOp opMul (evOp opMul (evC (.int 7919)) (evVar 1)) (evVar 1))) (evOp opMul (evC (.int 104729)) (evVar 1))) (gvName 2)) (svRet (evOp opFdiv (evOp opMod (evB bInt [(evOp opMul (evVar 2) (evC (.int 69621)))]) (evC (.int 2147483629))) (evC (.int 7)))))
def d__law_folded : Fd := fnD 4
  (svSeq (svAsg (evLc (ivBy [(evC (.int 64))] kR1) (Tgt.own (.one 2)) (Tgt.gv (.one 2)) tvYes (evOp opAdd (evC (.int 17)) (evVar 2))) (gvName 1)) (svSeq (svFor (ivBy [(evVar 0)] kEnum) (gvTup [(gvName 2), (gvName 3)]) (svAsg (evOp opMod (evB bInt [(evOp opAdd (evOp opMul (evOp opIx (evVar 1) (evOp opMod (evB bInt [(evVar 2)]) (evC (.int 64)))) (evC (.int 48271))) (evVar 3))]) (evC (.int 2147483647))) (gvSubL (evVar 1) (evOp opMod (evB bInt [(evVar 2)]) (evC (.int 64)))))) (svSeq (svFor (ivBy [(evC (.int 1)), (evC (.int 64))] kR2) (gvName 2) (svAsg (evOp opMod (evB bInt [(evOp opAdd (evOp opIx (evVar 1) (evVar 2)) (evOp opMul (evOp opIx (evVar 1) (evOp opSub (evVar 2) (evC (.int 1)))) (evC (.int 16807))))]) (evC (.int 2147483647))) (gvSubL (evVar 1) (evVar 2)))) (svRet (evVar 1)))))
def d__law_draw : Fd := fnD 6
  (svSeq (svAsg (evDg (evVar 0) (evC (.str "spot"))) (gvName 2)) (svSeq (svDput (evVar 0) (evC (.str "spot")) (evOp opAdd (evVar 2) (evC (.int 1)))) (svSeq (svIf (tvOf (evOp opNe (evDg (evVar 0) (evC (.str "great"))) (evLst []))) (svSeq (svAsg (evDg (evVar 0) (evC (.str "great"))) (gvName 3)) (svSeq (svAsg (evOp opMod (evB bInt [(evVar 2)]) (evB bLen [(evVar 3)])) (gvName 4)) (svSeq (svAsg (evOp opIx (evVar 3) (evVar 4)) (gvName 5)) (svIf (tvOf (evOp opGt (evVar 5) (evC (.int 0)))) (svSeq (svAsg (evOp opFdiv (evVar 5) (evVar 1)) (gvSubL (evVar 3) (evVar 4))) (svRet (evOp opMod (evB bInt [(evVar 5)]) (evVar 1)))) svNil)))) svNil) (svSeq (svAsg (evDg (evVar 0) (evC (.str "cells"))) (gvName 3)) (svRet (evOp opMod (evB bInt [(evCall d__law_mixed [(evCall d__law_mixed [(evOp opAdd (evOp opIx (evVar 3) (evOp opMod (evB bInt [(evVar 2)]) (evC (.int 64)))) (evOp opMul (evC (.int 31)) (evOp opFdiv (evVar 2) (evC (.int 64))))), (evVar 2)]), (evOp opAdd (evVar 2) (evC (.int 7)))])]) (evVar 1)))))))
def d__law_begun : Fd := fnD 3
  (svSeq (svAsg (evDisp [((evC (.str "cells")), (evCall d__law_folded [(evVar 0)])), ((evC (.str "great")), (evLst [])), ((evC (.str "spot")), (evC (.int 0)))]) (gvName 1)) (svSeq (svDput (evVar 1) (evC (.str "great")) (evLc (ivSeq (evVar 0)) (Tgt.own (.one 2)) (Tgt.gv (.one 2)) tvYes (evIf (tvOf (evOp opGe (evVar 2) (evOp opPow (evC (.int 10)) (evC (.int 18))))) (evVar 2) (evC (.int 0))))) (svRet (evVar 1))))
end BW

set_option Elab.async false
set_option linter.all false
set_option maxRecDepth 100000
set_option maxHeartbeats 4000000
namespace BW
open PySem PySem.Spec PyProof.Rows L2
def d2_law_table : Fd := fnD 8
  (svSeq (svAsg (evLc (ivBy [(evVar 1)] kR1) (Tgt.own (.one 7)) (Tgt.gv (.one 7)) tvYes (evOp opMul (evLst [(evC (.int 1))]) (evVar 1))) (gvName 3)) (svSeq (svFor (ivBy [(evVar 1)] kR1) (gvName 4) (svFor (ivBy [(evVar 4)] kR1) (gvName 5) (svSeq (svAsg (evOp opIx (evVar 2) (evCall d__law_draw [(evVar 0), (evB bLen [(evVar 2)])])) (gvName 6)) (svSeq (svAsg (evVar 6) (gvSubL (evOp opIx (evVar 3) (evVar 4)) (evVar 5))) (svAsg (evVar 6) (gvSubL (evOp opIx (evVar 3) (evVar 5)) (evVar 4))))))) (svRet (evVar 3))))
def d2_law_weight : Fd := fnD 4
  (svSeq (svAsg (evDg (evDisp [((evC (.int 2)), (evTup [(evC (.int 0)), (evC (.int 0))])), ((evC (.int 3)), (evTup [(evC (.int 1)), (evC (.int 1))])), ((evC (.int 4)), (evTup [(evC (.int 1)), (evC (.int 2))])), ((evC (.int 6)), (evTup [(evC (.int 1)), (evC (.int 3))])), ((evC (.int 0)), (evTup [(evC (.int 2)), (evC (.int 2))]))]) (evOp opIx (evOp opIx (evVar 0) (evOp opSub (evVar 1) (evC (.int 1)))) (evOp opSub (evVar 2) (evC (.int 1))))) (gvName 3)) (svRet (evIf (tvOf (evOp opLt (evVar 1) (evVar 2))) (evOp opIx (evVar 3) (evC (.int 0))) (evOp opIx (evVar 3) (evC (.int 1))))))
def d2_law_word : Fd := fnD 4
  (svRet (evLc (ivBy [(evCall d__law_draw [(evVar 0), (evOp opAdd (evVar 2) (evC (.int 1)))])] kR1) (Tgt.own (.one 3)) (Tgt.gv (.one 3)) tvYes (evOp opAdd (evC (.int 1)) (evCall d__law_draw [(evVar 0), (evVar 1)]))))
def d2_law_pressed : Fd := fnD 7
  (svSeq (svAsg (evOp opIx (evVar 1) (evOp opSub (evVar 2) (evC (.int 1)))) (gvName 3)) (svSeq (svAsg (evLst []) (gvName 4)) (svSeq (svFor (ivBy [(evC (.int 1)), (evOp opAdd (evB bLen [(evVar 1)]) (evC (.int 1)))] kR2) (gvName 5) (svSeq (svAsg (evOp opIx (evVar 1) (evOp opSub (evVar 5) (evC (.int 1)))) (gvName 6)) (svExpr (evAppend (evVar 4) (evIf (tvOf (evOp opEq (evVar 5) (evVar 2))) (evOp opSub (evC (.int 0)) (evVar 3)) (evOp opAdd (evVar 6) (evOp opMul (evCall d2_law_weight [(evVar 0), (evVar 2), (evVar 5)]) (evVar 3)))))))) (svRet (evB bTuple [(evVar 4)])))))
def d2_law_row : Fd := fnD 4
  (svSeq (svAsg (evOp opMul (evTup [(evC (.int 1))]) (evB bLen [(evVar 0)])) (gvName 2)) (svSeq (svFor (ivSeq (evVar 1)) (gvName 3) (svAsg (evCall d2_law_pressed [(evVar 0), (evVar 2), (evVar 3)]) (gvName 2))) (svRet (evVar 2))))
def d2_law_back : Fd := fnD 5
  (svSeq (svAsg (evLst []) (gvName 2)) (svSeq (svWhile (tvOf (evOp opLt (evB bMin [(evVar 1)]) (evC (.int 0)))) (svSeq (svAsg (evOp opIx (evLc (ivBy [(evB bLen [(evVar 1)])] kR1) (Tgt.own (.one 4)) (Tgt.gv (.one 4)) (tvOf (evOp opLt (evOp opIx (evVar 1) (evVar 4)) (evC (.int 0)))) (evOp opAdd (evVar 4) (evC (.int 1)))) (evC (.int 0))) (gvName 3)) (svSeq (svExpr (evAppend (evVar 2) (evVar 3))) (svAsg (evCall d2_law_pressed [(evVar 0), (evVar 1), (evVar 3)]) (gvName 1)))) 100000) (svRet (evVar 2))))
def d2_law_least : Fd := fnD 2
  (svRet (evB bTuple [(evCall d2_law_back [(evVar 0), (evCall d2_law_row [(evVar 0), (evRev (evB bList [(evVar 1)]))])])]))
def d2_law_choice : Fd := fnD 3
  (svRet (evB bTuple [(evLc (ivBy [(evC (.int 1)), (evOp opAdd (evVar 1) (evC (.int 1)))] kR2) (Tgt.own (.one 2)) (Tgt.gv (.one 2)) (tvOf (evOp opEq (evCall d__law_draw [(evVar 0), (evC (.int 2))]) (evC (.int 0)))) (evVar 2))]))
def d2_law_shuffled : Fd := fnD 6
  (svSeq (svPar [(evRg false [(evB bLen [(evVar 1)])]), (evLst [])] [2, 3]) (svSeq (svWhile (tvOf (evOp opNe (evVar 2) (evLst []))) (svExpr (evAppend (evVar 3) (evPopAt (evVar 2) (evCall d__law_draw [(evVar 0), (evB bLen [(evVar 2)])])))) 100000) (svRet (evLc (ivSeq (evVar 3)) (Tgt.own (.one 4)) (Tgt.gv (.one 4)) tvYes (evLc (ivSeq (evVar 3)) (Tgt.own (.one 5)) (Tgt.gv (.one 5)) tvYes (evOp opIx (evOp opIx (evVar 1) (evVar 4)) (evVar 5)))))))
def d2_law_finite : Fd := fnD 13
  (svSeq (svAsg (evLst [(evTup [(evLst []), (evC (.int 1)), (evC (.int 0))])]) (gvName 2)) (svSeq (svFor (ivSeq (evLst [(evTup [(evLst [(evLst [(evC (.int 1))])]), (evC (.int 2)), (evC (.int 1))]), (evTup [(evLst [(evLst [(evC (.int 1)), (evC (.int 3))]), (evLst [(evC (.int 3)), (evC (.int 1))])]), (evC (.int 6)), (evC (.int 3))]), (evTup [(evLst [(evLst [(evC (.int 1)), (evC (.int 4))]), (evLst [(evC (.int 4)), (evC (.int 1))])]), (evC (.int 8)), (evC (.int 4))])])) (gvTup [(gvName 3), (gvName 4), (gvName 5)]) (svExpr (evAppend (evVar 2) (evTup [(evVar 3), (evVar 4), (evVar 5)])))) (svSeq (svExpr (evAppend (evVar 2) (evTup [(evLst [(evLst [(evC (.int 1)), (evC (.int 6))]), (evLst [(evC (.int 6)), (evC (.int 1))])]), (evC (.int 12)), (evC (.int 6))]))) (svSeq (svExpr (evAppend (evVar 2) (evTup [(evLst [(evLst [(evC (.int 1)), (evC (.int 3)), (evC (.int 2))]), (evLst [(evC (.int 3)), (evC (.int 1)), (evC (.int 3))]), (evLst [(evC (.int 2)), (evC (.int 3)), (evC (.int 1))])]), (evC (.int 24)), (evC (.int 6))]))) (svSeq (svExpr (evAppend (evVar 2) (evTup [(evLst [(evLst [(evC (.int 1)), (evC (.int 4)), (evC (.int 2))]), (evLst [(evC (.int 4)), (evC (.int 1)), (evC (.int 3))]), (evLst [(evC (.int 2)), (evC (.int 3)), (evC (.int 1))])]), (evC (.int 48)), (evC (.int 9))]))) (svSeq (svExpr (evAppend (evVar 2) (evTup [(evLst [(evLst [(evC (.int 1)), (evC (.int 3)), (evC (.int 2)), (evC (.int 2))]), (evLst [(evC (.int 3)), (evC (.int 1)), (evC (.int 3)), (evC (.int 2))]), (evLst [(evC (.int 2)), (evC (.int 3)), (evC (.int 1)), (evC (.int 3))]), (evLst [(evC (.int 2)), (evC (.int 2)), (evC (.int 3)), (evC (.int 1))])]), (evC (.int 120)), (evC (.int 10))]))) (svSeq (svExpr (evAppend (evVar 2) (evTup [(evLst [(evLst [(evC (.int 1)), (evC (.int 2)), (evC (.int 3)), (evC (.int 2))]), (evLst [(evC (.int 2)), (evC (.int 1)), (evC (.int 3)), (evC (.int 2))]), (evLst [(evC (.int 3)), (evC (.int 3)), (evC (.int 1)), (evC (.int 3))]), (evLst [(evC (.int 2)), (evC (.int 2)), (evC (.int 3)), (evC (.int 1))])]), (evC (.int 192)), (evC (.int 12))]))) (svSeq (svAsg (evLc (ivSeq (evVar 2)) (Tgt.own (.one 11)) (Tgt.gv (.one 11)) (tvOf (evOp opLe (evB bLen [(evOp opIx (evVar 11) (evC (.int 0)))]) (evVar 1))) (evVar 11)) (gvName 2)) (svSeq (svAsg (evOp opIx (evVar 2) (evOp opAdd (evC (.int 1)) (evCall d__law_draw [(evVar 0), (evOp opSub (evB bLen [(evVar 2)]) (evC (.int 1)))]))) (gvName 6)) (svSeq (svAsg (evLc (ivSeq (evVar 2)) (Tgt.own (.one 11)) (Tgt.gv (.one 11)) (tvOf (evOp opLe (evOp opAdd (evB bLen [(evOp opIx (evVar 11) (evC (.int 0)))]) (evB bLen [(evOp opIx (evVar 6) (evC (.int 0)))])) (evVar 1))) (evVar 11)) (gvName 7)) (svSeq (svAsg (evOp opIx (evVar 7) (evCall d__law_draw [(evVar 0), (evB bLen [(evVar 7)])])) (gvName 8)) (svSeq (svPar [(evB bLen [(evOp opIx (evVar 6) (evC (.int 0)))]), (evB bLen [(evOp opIx (evVar 8) (evC (.int 0)))])] [9, 10]) (svSeq (svAsg (evOp opAdd (evLc (ivSeq (evOp opIx (evVar 6) (evC (.int 0)))) (Tgt.own (.one 12)) (Tgt.gv (.one 12)) tvYes (evOp opAdd (evB bList [(evVar 12)]) (evOp opMul (evLst [(evC (.int 2))]) (evVar 10)))) (evLc (ivSeq (evOp opIx (evVar 8) (evC (.int 0)))) (Tgt.own (.one 12)) (Tgt.gv (.one 12)) tvYes (evOp opAdd (evOp opMul (evLst [(evC (.int 2))]) (evVar 9)) (evB bList [(evVar 12)])))) (gvName 3)) (svRet (evLst [(evCall d2_law_shuffled [(evVar 0), (evVar 3)]), (evOp opMul (evOp opIx (evVar 6) (evC (.int 1))) (evOp opIx (evVar 8) (evC (.int 1)))), (evOp opAdd (evOp opIx (evVar 6) (evC (.int 2))) (evOp opIx (evVar 8) (evC (.int 2))))])))))))))))))))
end BW

set_option Elab.async false
set_option linter.all false
set_option maxRecDepth 100000
set_option maxHeartbeats 4000000
namespace BW
open PySem PySem.Spec PyProof.Rows L2
end BW

set_option Elab.async false
set_option linter.all false
set_option maxRecDepth 100000
set_option maxHeartbeats 4000000
namespace BW
open PySem PySem.Spec PyProof.Rows L2
def d2_law_within : Fd := fnD 9
  (svSeq (svAsg (evOp opMul (evTup [(evC (.int 1))]) (evB bLen [(evVar 0)])) (gvName 2)) (svSeq (svPar [(evDispT (evVar 2) (evTup [])), (evLst [(evVar 2)])] [3, 4]) (svSeq (svWhile (tvOf (evOp opNe (evVar 4) (evLst []))) (svSeq (svAsg (evLst []) (gvName 5)) (svSeq (svFor (ivSeq (evVar 4)) (gvName 6) (svFor (ivSeq (evVar 1)) (gvName 7) (svSeq (svAsg (evCall d2_law_pressed [(evVar 0), (evVar 6), (evVar 7)]) (gvName 8)) (svIf (tvOf (evOp (inT true) (evVar 8) (evVar 3))) (svSeq (svDputT (evVar 3) (evVar 8) (evOp opAdd (evDgT (evVar 3) (evVar 6)) (evTup [(evVar 7)]))) (svExpr (evAppend (evVar 5) (evVar 8)))) svNil)))) (svAsg (evVar 5) (gvName 4)))) 100000) (svRet (evLc (ivKeys (evVar 3)) (Tgt.own (.one 6)) (Tgt.gv (.one 6)) tvYes (evDgT (evVar 3) (evVar 6)))))))
def d2_law_between : Fd := fnD 11
  (svSeq (svPar [evD0T, (evCall d2_law_within [(evVar 0), (evVar 3)])] [4, 5]) (svSeq (svFor (ivSeq (evCall d2_law_within [(evVar 0), (evVar 1)])) (gvName 6) (svSeq (svAsg (evCall d2_law_row [(evVar 0), (evOp opAdd (evVar 6) (evVar 2))]) (gvName 7)) (svFor (ivSeq (evVar 5)) (gvName 8) (svSeq (svAsg (evVar 7) (gvName 9)) (svSeq (svFor (ivSeq (evVar 8)) (gvName 10) (svAsg (evCall d2_law_pressed [(evVar 0), (evVar 9), (evVar 10)]) (gvName 9))) (svDputT (evVar 4) (evVar 9) (evB bLen [(evCall d2_law_back [(evVar 0), (evVar 9)])]))))))) (svRet (evVar 4))))
def d2_law_front : Fd := fnD 8
  (svSeq (svPar [(evCall d2_law_row [(evVar 0), (evVar 1)]), (evB bList [(evVar 1)])] [3, 4]) (svSeq (svFor (ivBy [(evC (.int 70))] kR1) (gvName 5) (svSeq (svAsg (evLc (ivSeq (evVar 2)) (Tgt.own (.one 7)) (Tgt.gv (.one 7)) (tvOf (evOp opLt (evOp opIx (evVar 3) (evOp opSub (evVar 7) (evC (.int 1)))) (evC (.int 0)))) (evVar 7)) (gvName 6)) (svIf (tvOf (evOp opNe (evVar 6) (evLst []))) (svSeq (svAsg (evCall d2_law_pressed [(evVar 0), (evVar 3), (evOp opIx (evVar 6) (evC (.int 0)))]) (gvName 3)) (svExpr (evAppend (evVar 4) (evOp opIx (evVar 6) (evC (.int 0)))))) svNil))) (svRet (evVar 4))))
def d2_law_endless_right : Fd := fnD 12
  (svSeq (svAsg (evOp opAdd (evC (.int 1)) (evCall d__law_draw [(evVar 0), (evC (.int 6))])) (gvName 1)) (svSeq (svAsg (evCall d2_law_table [(evVar 0), (evVar 1), (evLst [(evC (.int 2)), (evC (.int 3)), (evC (.int 3)), (evC (.int 4)), (evC (.int 6)), (evC (.int 0))])]) (gvName 2)) (svSeq (svPar [(evMake "Bonds" d_Bonds___init__ [(evVar 2)]), (evCall d2_law_word [(evVar 0), (evVar 1), (evC (.int 12))])] [3, 4]) (svSeq (svPar [(evCall d2_law_choice [(evVar 0), (evVar 1)]), (evCall d2_law_choice [(evVar 0), (evVar 1)])] [5, 6]) (svSeq (svAsg (evRev (evCall d2_law_front [(evVar 2), (evRev (evCall d2_law_front [(evVar 2), (evVar 4), (evVar 6)])), (evVar 5)])) (gvName 7)) (svSeq (svAsg (evCall d_least_between [(evVar 3), (evVar 5), (evVar 4), (evVar 6)]) (gvName 8)) (svSeq (svAsg (evLc (ivBy [(evIf (tvOf (evOp opNe (evVar 5) (evTup []))) (evC (.int 4)) (evC (.int 0)))] kR1) (Tgt.own (.one 11)) (Tgt.gv (.one 11)) tvYes (evOp opIx (evVar 5) (evCall d__law_draw [(evVar 0), (evB bLen [(evVar 5)])]))) (gvName 9)) (svSeq (svAsg (evLc (ivBy [(evIf (tvOf (evOp opNe (evVar 6) (evTup []))) (evC (.int 4)) (evC (.int 0)))] kR1) (Tgt.own (.one 11)) (Tgt.gv (.one 11)) tvYes (evOp opIx (evVar 6) (evCall d__law_draw [(evVar 0), (evB bLen [(evVar 6)])]))) (gvName 10)) (svRet (evAnd (evOp opEq (evVar 8) (evCall d2_law_least [(evVar 2), (evVar 7)])) (evOp opEq (evCall d_least_between [(evVar 3), (evVar 5), (evOp opAdd (evOp opAdd (evVar 9) (evVar 4)) (evVar 10)), (evVar 6)]) (evVar 8))))))))))))
def d_law : Fd := fnD 15
  (svSeq (svAsg (evCall d__law_begun [(evVar 0)]) (gvName 1)) (svSeq (svFor (ivBy [(evC (.int 3))] kR1) (gvName 2) (svSeq (svAsg (evOp opIx (evCall d2_law_finite [(evVar 1), (evC (.int 3))]) (evC (.int 0))) (gvName 3)) (svSeq (svAsg (evB bLen [(evVar 3)]) (gvName 4)) (svSeq (svPar [(evMake "Bonds" d_Bonds___init__ [(evVar 3)]), (evB bTuple [(evCall d2_law_word [(evVar 1), (evVar 4), (evC (.int 10))])])] [5, 6]) (svSeq (svPar [(evCall d2_law_choice [(evVar 1), (evVar 4)]), (evCall d2_law_choice [(evVar 1), (evVar 4)])] [7, 8]) (svSeq (svPar [(evCall d_least_between [(evVar 5), (evVar 7), (evVar 6), (evVar 8)]), (evCall d2_law_between [(evVar 3), (evVar 7), (evVar 6), (evVar 8)])] [9, 10]) (svSeq (svAsg (evLc (ivKeys (evVar 10)) (Tgt.own (.one 14)) (Tgt.gv (.one 14)) (tvOf (evOp opEq (evDgT (evVar 10) (evVar 14)) (evMinValsT (evVar 10)))) (evVar 14)) (gvName 11)) (svSeq (svIf (tvOr (tvOf (evOp opNe (evB bLen [(evVar 11)]) (evC (.int 1)))) (tvOr (tvOf (evOp opNe (evCall d2_law_row [(evVar 3), (evVar 9)]) (evOp opIx (evVar 11) (evC (.int 0))))) (tvOf (evOp opNe (evVar 9) (evCall d2_law_least [(evVar 3), (evVar 9)]))))) (svRet (evC (.bl false))) svNil) (svSeq (svAsg (evOp opIx (evCall d2_law_within [(evVar 3), (evVar 7)]) (evOp opMul (evCall d__law_draw [(evVar 1), (evC (.int 2))]) (evOp opSub (evB bLen [(evCall d2_law_within [(evVar 3), (evVar 7)])]) (evC (.int 1))))) (gvName 12)) (svSeq (svAsg (evOp opIx (evCall d2_law_within [(evVar 3), (evVar 8)]) (evNeg (evC (.int 1)))) (gvName 13)) (svSeq (svIf (tvOf (evOp opNe (evCall d_least_between [(evVar 5), (evVar 7), (evOp opAdd (evOp opAdd (evVar 12) (evVar 6)) (evVar 13)), (evVar 8)]) (evVar 9))) (svRet (evC (.bl false))) svNil) (svIf (tvOr (tvNot (tvOf (evCall d_is_ahead [(evVar 5), (evVar 9), (evVar 8)]))) (tvNot (tvOf (evCall d_is_behind [(evVar 5), (evVar 9), (evVar 7)])))) (svRet (evC (.bl false))) svNil)))))))))))) (svRet (evAnd (evCall d2_law_endless_right [(evVar 1)]) (evOp opEq (evCall d_least_between [(evMake "Bonds" d_Bonds___init__ [(evLst [(evLst [(evC (.int 1)), (evC (.int 3))]), (evLst [(evC (.int 3)), (evC (.int 1))])])]), (evTup [(evC (.int 1))]), (evTup [(evC (.int 1)), (evC (.int 2)), (evC (.int 1))]), (evTup [(evC (.int 1))])]) (evTup [(evC (.int 2))]))))))
end BW

set_option Elab.async false
set_option linter.all false
set_option maxRecDepth 100000
set_option maxHeartbeats 4000000
namespace BW
open PySem
def Fl.seq (o : Fl) (k : Env → AH → Fl) : Fl := match o with
  | .nx e h => k e h
  | o => o
def Fl.fin (o : Fl) (h : AH) : Out D := match o with
  | .ret d h' => BW.fin h d h'
  | .nx _ h' => BW.fin h .non h'
  | .exc x _ h' => finX h x h'
  | _ => .stuck
section
variable {α β : Type}
@[simp] theorem bind_ok (a : α) (h : AH) (f : α → AH → Out β) : (Out.ok a h).bind f = f a h := nrfl rfl
@[simp] theorem toFl_ok (a : α) (h : AH) (e : Env) (f : α → AH → Fl) : (Out.ok a h).toFl e f = f a h := nrfl rfl
@[simp] theorem toFl_ite (c : Prop) [Decidable c] (a b : Out α) (e : Env) (f : α → AH → Fl) : (if c then a else b).toFl e f = if c then a.toFl e f else b.toFl e f := by split <;> rfl
end
@[simp] theorem seq_nx (e : Env) (h : AH) (k : Env → AH → Fl) : (Fl.nx e h).seq k = k e h := nrfl rfl
@[simp] theorem seq_ret (d : D) (h : AH) (k : Env → AH → Fl) : (Fl.ret d h).seq k = .ret d h := nrfl rfl
@[simp] theorem seq_exc (x : D) (e : Env) (h : AH) (k : Env → AH → Fl) : (Fl.exc x e h).seq k = .exc x e h := nrfl rfl
@[simp] theorem seq_ite (c : Prop) [Decidable c] (a b : Fl) (k : Env → AH → Fl) : (if c then a else b).seq k = if c then a.seq k else b.seq k := by split <;> rfl
@[simp] theorem fin_ret (d : D) (h h' : AH) : (Fl.ret d h').fin h = BW.fin h d h' := nrfl rfl
@[simp] theorem fin_nx (e : Env) (h h' : AH) : (Fl.nx e h').fin h = BW.fin h .non h' := nrfl rfl
@[simp] theorem fin_exc (x : D) (e : Env) (h h' : AH) : (Fl.exc x e h').fin h = finX h x h' := nrfl rfl
@[simp] theorem fin_ite (c : Prop) [Decidable c] (a b : Fl) (h : AH) : (if c then a else b).fin h = if c then a.fin h else b.fin h := by split <;> rfl
theorem fnD_eq (n : Nat) (body : Sv) (ds : List D) (h : AH) : fnD n body ds h = (body (startE n ds) h).fin h := by
  unfold fnD Fl.fin
  cases body (startE n ds) h <;> rfl
@[simp] theorem svSeq_eq (a b : Sv) (e : Env) (h : AH) : svSeq a b e h = (a e h).seq b := by
  unfold svSeq Fl.seq
  cases a e h <;> rfl
@[simp] theorem svNil_eq (e : Env) (h : AH) : svNil e h = .nx e h := nrfl rfl
@[simp] theorem svRet_eq (f : Ev) (e : Env) (h : AH) : svRet f e h = (f e h).toFl e fun d h1 => .ret d h1 := nrfl rfl
@[simp] theorem svExpr_eq (f : Ev) (e : Env) (h : AH) : svExpr f e h = (f e h).toFl e fun _ h1 => .nx e h1 := nrfl rfl
@[simp] theorem svIf_eq (t : Tv) (a b : Sv) (e : Env) (h : AH) : svIf t a b e h = (t e h).toFl e fun c h1 => if c then a e h1 else b e h1 := nrfl rfl
@[simp] theorem svRaise1_eq (c : Str) (f : Ev) (e : Env) (h : AH) : svRaise1 c f e h = (pv f e h).toFl e fun d h1 => .exc (.exc c [d]) e h1 := nrfl rfl
def Out.nxE (o : Out Env) : Fl := match o with
  | .ok e h => .nx e h
  | _ => .stuck
@[simp] theorem nxE_ok (e : Env) (h : AH) : (Out.ok e h).nxE = .nx e h := nrfl rfl
@[simp] theorem svAsg_eq (f : Ev) (g : Gv) (e : Env) (h : AH) : svAsg f g e h = (pv f e h).toFl e fun d h1 => (g d e h1).nxE := nrfl rfl
@[simp] theorem gvName_eq (i : Nat) (d : D) (e : Env) (h : AH) : gvName i d e h = .ok (e.set i (some d)) h := nrfl rfl
@[simp] theorem pv_eq (f : Ev) (e : Env) (h : AH) : pv f e h = (f e h).bind promote := nrfl rfl
@[simp] theorem promote_int (i : Int) (h : AH) : promote (.int i) h = .ok (.int i) h := nrfl rfl
@[simp] theorem promote_bl (b : Bool) (h : AH) : promote (.bl b) h = .ok (.bl b) h := nrfl rfl
@[simp] theorem promote_non (h : AH) : promote .non h = .ok .non h := nrfl rfl
@[simp] theorem promote_tup (xs : List D) (h : AH) : promote (.tup xs) h = .ok (.tup xs) h := nrfl rfl
@[simp] theorem promote_ref (n : Nat) (h : AH) : promote (.ref n) h = .ok (.ref n) h := nrfl rfl
@[simp] theorem promote_tl (xs : List D) (h : AH) : promote (.tl xs) h = .ok (.ref h.length) (h ++ [.lst xs]) := nrfl rfl
def Out.ofV (o : Option (Option D)) (h : AH) : Out D := match o with
  | some (some d) => .ok d h
  | _ => .stuck
@[simp] theorem ofV_some (d : D) (h : AH) : Out.ofV (some (some d)) h = .ok d h := nrfl rfl
@[simp] theorem evVar_eq (i : Nat) (e : Env) (h : AH) : evVar i e h = Out.ofV e[i]? h := nrfl rfl
@[simp] theorem evC_eq (d : D) (e : Env) (h : AH) : evC d e h = .ok d h := nrfl rfl
theorem ofO_some2 (d : D) (h : AH) : ofO (some d) h = .ok d h := nrfl rfl
@[simp] theorem evOp_eq (g : AH → D → D → Option D) (fa fb : Ev) (e : Env) (h : AH) : evOp g fa fb e h = (fa e h).bind fun x h1 => (fb e h1).bind fun y h2 => ofO (g h2 x y) h2 := nrfl rfl
@[simp] theorem evB_eq (g : AH → List D → Option D) (fs : List Ev) (e : Env) (h : AH) : evB g fs e h = (evs fs e h).bind fun ds h1 => ofO (g h1 ds) h1 := nrfl rfl
@[simp] theorem evs_nil (e : Env) (h : AH) : evs [] e h = .ok [] h := nrfl rfl
@[simp] theorem evs_cons (f : Ev) (fs : List Ev) (e : Env) (h : AH) : evs (f :: fs) e h = (f e h).bind fun d h1 => (evs fs e h1).bind fun ds h2 => .ok (d :: ds) h2 := nrfl rfl
@[simp] theorem evsV_nil (e : Env) (h : AH) : evsV [] e h = .ok [] h := nrfl rfl
@[simp] theorem evsV_cons (f : Ev) (fs : List Ev) (e : Env) (h : AH) : evsV (f :: fs) e h = (pv f e h).bind fun d h1 => (evsV fs e h1).bind fun ds h2 => .ok (d :: ds) h2 := nrfl rfl
@[simp] theorem evCall_eq (d : Fd) (fs : List Ev) (e : Env) (h : AH) : evCall d fs e h = (evsV fs e h).bind d := nrfl rfl
def D.tv (d : D) (h : AH) : Out Bool := match d with
  | .bl b => .ok b h
  | _ => .stuck
@[simp] theorem tv_bl (b : Bool) (h : AH) : (D.bl b).tv h = .ok b h := nrfl rfl
@[simp] theorem tvOf_eq (f : Ev) (e : Env) (h : AH) : tvOf f e h = (f e h).bind D.tv := nrfl rfl
@[simp] theorem tvAnd_eq (t u : Tv) (e : Env) (h : AH) : tvAnd t u e h = (t e h).bind fun b h1 => if b then u e h1 else .ok false h1 := nrfl rfl
@[simp] theorem tvOr_eq (t u : Tv) (e : Env) (h : AH) : tvOr t u e h = (t e h).bind fun b h1 => if b then .ok true h1 else u e h1 := nrfl rfl
@[simp] theorem tvNot_eq (t : Tv) (e : Env) (h : AH) : tvNot t e h = (t e h).bind fun b h1 => .ok (!b) h1 := nrfl rfl
@[simp] theorem evAnd_eq (f g : Ev) (e : Env) (h : AH) : evAnd f g e h = (f e h).bind fun d h1 => (d.tv h1).bind fun b h2 => if b then g e h2 else .ok (.bl false) h2 := by
  unfold evAnd
  congr 1; funext d h1
  cases d <;> try rfl
  rename_i b; cases b <;> rfl
@[simp] theorem evOr_eq (f g : Ev) (e : Env) (h : AH) : evOr f g e h = (f e h).bind fun d h1 => (d.tv h1).bind fun b h2 => if b then .ok (.bl true) h2 else g e h2 := by
  unfold evOr
  congr 1; funext d h1
  cases d <;> try rfl
  rename_i b; cases b <;> rfl
@[simp] theorem evNot_eq (f : Ev) (e : Env) (h : AH) : evNot f e h = (f e h).bind fun d h1 => (d.tv h1).bind fun b h2 => .ok (.bl (!b)) h2 := by
  unfold evNot
  congr 1; funext d h1
  cases d <;> rfl
@[simp] theorem evIf_eq (t : Tv) (f g : Ev) (e : Env) (h : AH) : evIf t f g e h = (t e h).bind fun b h1 => if b then f e h1 else g e h1 := nrfl rfl
@[simp] theorem evChain_eq (g g' : AH → D → D → Option D) (fa fb fc : Ev) (e : Env) (h : AH) : evChain g g' fa fb fc e h = (fa e h).bind fun x h1 => (fb e h1).bind fun y h2 => (ofO (g h2 x y) h2).bind fun d h3 => (d.tv h3).bind fun b _ => if b then (fc e h2).bind fun z h3 => ofO (g' h3 y z) h3 else .ok (.bl false) h2 := by
  unfold evChain
  congr 1; funext x h1; congr 1; funext y h2
  cases g h2 x y with
  | none => rfl
  | some d =>
    cases d <;> try rfl
    rename_i b; cases b <;> rfl
@[simp] theorem startE_eq (n : Nat) (ds : List D) : startE n ds = ds.map some ++ List.replicate (n - ds.length) none := nrfl rfl
@[simp] theorem opAdd_int (h : AH) (a b : Int) : opAdd h (.int a) (.int b) = some (.int (a + b)) := nrfl rfl
@[simp] theorem opAdd_tup (h : AH) (a b : List D) : opAdd h (.tup a) (.tup b) = if a.length + b.length ≤ sizeLine then some (.tup (a ++ b)) else none := nrfl rfl
@[simp] theorem opSub_int (h : AH) (a b : Int) : opSub h (.int a) (.int b) = some (.int (a - b)) := nrfl rfl
@[simp] theorem opMod_int (h : AH) (a b : Int) : opMod h (.int a) (.int b) = if 0 < b then some (.int (a % b)) else none := nrfl rfl
theorem opFdiv_int (h : AH) (a b : Int) : opFdiv h (.int a) (.int b) = if 0 < b ∧ b.natAbs.log2 < 9000 then some (.int (a / b)) else none := rfl
@[simp] theorem opLt_int (h : AH) (a b : Int) : opLt h (.int a) (.int b) = some (.bl (decide (a < b))) := nrfl rfl
@[simp] theorem opLe_int (h : AH) (a b : Int) : opLe h (.int a) (.int b) = some (.bl (decide (a ≤ b))) := nrfl rfl
@[simp] theorem opGt_int (h : AH) (a b : Int) : opGt h (.int a) (.int b) = some (.bl (decide (b < a))) := nrfl rfl
@[simp] theorem opGe_int (h : AH) (a b : Int) : opGe h (.int a) (.int b) = some (.bl (decide (b ≤ a))) := nrfl rfl
theorem eqv_int (a b : Int) : PyData.eqv (.int a) (.int b) = decide (a = b) := by
  simp only [PyData.eqv]
  exact Bool.beq_eq_decide_eq a b
@[simp] theorem eqD_int (h : AH) (a b : Int) : eqD h (.int a) (.int b) = some (decide (a = b)) := by
  simp [eqD, dataK, eqv_int]
@[simp] theorem opEq_int (h : AH) (a b : Int) : opEq h (.int a) (.int b) = some (.bl (decide (a = b))) := by simp [opEq]
@[simp] theorem opNe_int (h : AH) (a b : Int) : opNe h (.int a) (.int b) = some (.bl (!decide (a = b))) := by simp [opNe]
@[simp] theorem bInt_int (h : AH) (i : Int) : bInt h [.int i] = some (.int i) := nrfl rfl
@[simp] theorem evIsi_eq (Ts : List String) (f : Ev) (e : Env) (h : AH) : evIsi Ts f e h = (f e h).bind fun d h1 => ofO ((tyD h1 d).map fun t => .bl (Ts.any fun T => isiD T t)) h1 := by
  unfold evIsi
  congr 1; funext d h1
  cases tyD h1 d <;> rfl
theorem oldOk_self (n : Nat) : ∀ (h t : AH), oldOk n h (h ++ t) = true
  | [], _ => rfl
  | o :: h, t => by simp [oldOk, oldOk_self n h t]
theorem fin_pure {h : AH} {d : D} (t : AH) (hp : promote d (h ++ t) = .ok d (h ++ t)) (hd : d.lt h.length = true) : BW.fin h d (h ++ t) = .ok d h := by
  unfold BW.fin
  rw [hp]
  simp [hd, oldOk_self]
theorem fin_pure0 {h : AH} {d : D} (hp : promote d h = .ok d h) (hd : d.lt h.length = true) : BW.fin h d h = .ok d h := by
  have := fin_pure (h := h) (d := d) [] (by rwa [List.append_nil]) hd
  rwa [List.append_nil] at this
@[simp] theorem fin_int (h : AH) (i : Int) : BW.fin h (.int i) h = .ok (.int i) h := fin_pure0 rfl rfl
@[simp] theorem fin_bl (h : AH) (i : Bool) : BW.fin h (.bl i) h = .ok (.bl i) h := fin_pure0 rfl rfl
@[simp] theorem fin_non (h : AH) : BW.fin h .non h = .ok .non h := fin_pure0 rfl rfl
@[simp] theorem lts_ints (n : Nat) (w : List Int) : D.lts n (w.map .int) = true := by
  induction w with
  | nil => rfl
  | cons x w ih => simp [D.lts, D.lt, ih]
@[simp] theorem fin_ints (h : AH) (w : List Int) : BW.fin h (.tup (w.map .int)) h = .ok (.tup (w.map .int)) h := fin_pure0 rfl (lts_ints _ w)
end BW

set_option Elab.async false
set_option linter.all false
set_option maxRecDepth 100000
set_option maxHeartbeats 4000000
namespace BW
open PySem
theorem forGo_inv {g : Option (Nat × GO)} {gv : Gv} {body : Sv} (P : Nat → Env → AH → Prop) (xs : List D) (hg : ∀ i e h, i ≤ xs.length → P i e h → guardOk g h = true)
    (hs : ∀ i d e h, xs[i]? = some d → P i e h → ∃ e1 h1 e2 h2, gv d e h = .ok e1 h1 ∧ body e1 h1 = .nx e2 h2 ∧ P (i + 1) e2 h2) {e : Env} {h : AH} (h0 : P 0 e h) : ∃ e' h', forGo g gv body xs e h = .nx e' h' ∧ P xs.length e' h' := by
  suffices z : ∀ (ys zs : List D) e h, ys ++ zs = xs → P ys.length e h → ∃ e' h', forGo g gv body zs e h = .nx e' h' ∧ P xs.length e' h' by exact z [] xs e h rfl h0
  intro ys zs
  induction zs generalizing ys with
  | nil =>
    intro e h he hp
    rw [List.append_nil] at he
    subst he
    refine ⟨e, h, ?_, hp⟩
    unfold forGo
    rw [if_pos (hg _ _ _ (Nat.le_refl _) hp)]
  | cons d zs ih =>
    intro e h he hp
    have hx : xs[ys.length]? = some d := by rw [← he]; simp
    obtain ⟨e1, h1, e2, h2, a1, a2, a3⟩ := hs _ d e h hx hp
    obtain ⟨e', h', b1, b2⟩ := ih (ys ++ [d]) e2 h2 (by rw [List.append_assoc]; exact he) (by rw [List.length_append]; exact a3)
    refine ⟨e', h', ?_, b2⟩
    have hl : ys.length ≤ xs.length := by rw [← he]; simp
    unfold forGo
    rw [if_pos (hg _ _ _ hl hp)]
    simp only [a1, a2]
    exact b1
theorem forGo_pure {g : Option (Nat × GO)} {gv : Gv} {body : Sv} {h : AH} (P : Env → Prop) (xs : List D) (hg : guardOk g h = true)
    (hs : ∀ d e, d ∈ xs → P e → ∃ e1 e2, gv d e h = .ok e1 h ∧ body e1 h = .nx e2 h ∧ P e2) {e : Env} (h0 : P e) : ∃ e', forGo g gv body xs e h = .nx e' h ∧ P e' := by
  obtain ⟨e', h', a, b, rfl⟩ := forGo_inv (g := g) (gv := gv) (body := body) (fun _ e h' => P e ∧ h' = h) xs (fun _ _ _ _ z => z.2 ▸ hg) (fun i d e h' hd ⟨z1, z2⟩ => by
    subst z2
    obtain ⟨e1, e2, a1, a2, a3⟩ := hs d e (List.mem_of_getElem? hd) z1
    exact ⟨e1, _, e2, _, a1, a2, a3, rfl⟩) ⟨h0, rfl⟩
  exact ⟨e', a, b⟩
theorem lcGo_inv {g : Option (Nat × GO)} {gv : Gv} {tt : Tv} {elt : Ev} {e : Env} (P : Nat → List D → AH → Prop) (xs : List D) (hg : ∀ i l h, i ≤ xs.length → P i l h → guardOk g h = true)
    (hs : ∀ i d l h, xs[i]? = some d → P i l h → ∃ e1 h1, gv d e h = .ok e1 h1 ∧ ((∃ h2, tt e1 h1 = .ok false h2 ∧ P (i + 1) l h2) ∨ ∃ h2 y h3, tt e1 h1 = .ok true h2 ∧ pv elt e1 h2 = .ok y h3 ∧ P (i + 1) (l ++ [y]) h3))
    {h : AH} (h0 : P 0 [] h) : ∃ ys h', lcGo g gv tt elt e xs h = .ok ys h' ∧ P xs.length ys h' := by
  suffices z : ∀ (ys zs : List D) l h, ys ++ zs = xs → P ys.length l h → ∃ us h', lcGo g gv tt elt e zs h = .ok us h' ∧ P xs.length (l ++ us) h' by
    obtain ⟨us, h', a, b⟩ := z [] xs [] h rfl h0
    exact ⟨us, h', a, b⟩
  intro ys zs
  induction zs generalizing ys with
  | nil =>
    intro l h he hp
    rw [List.append_nil] at he
    subst he
    refine ⟨[], h, ?_, by rwa [List.append_nil]⟩
    unfold lcGo
    rw [if_pos (hg _ _ _ (Nat.le_refl _) hp)]
  | cons d zs ih =>
    intro l h he hp
    have hx : xs[ys.length]? = some d := by rw [← he]; simp
    have hl : ys.length ≤ xs.length := by rw [← he]; simp
    obtain ⟨e1, h1, a1, a2⟩ := hs _ d l h hx hp
    rcases a2 with ⟨h2, b1, b2⟩ | ⟨h2, y, h3, b1, b2, b3⟩
    · obtain ⟨us, h', c1, c2⟩ := ih (ys ++ [d]) l h2 (by rw [List.append_assoc]; exact he) (by rw [List.length_append]; exact b2)
      refine ⟨us, h', ?_, c2⟩
      unfold lcGo
      rw [if_pos (hg _ _ _ hl hp)]
      simp only [a1, b1]
      exact c1
    · obtain ⟨us, h', c1, c2⟩ := ih (ys ++ [d]) (l ++ [y]) h3 (by rw [List.append_assoc]; exact he) (by rw [List.length_append]; exact b3)
      refine ⟨y :: us, h', ?_, by simpa using c2⟩
      unfold lcGo
      rw [if_pos (hg _ _ _ hl hp)]
      simp only [a1, b1, b2, c1, bind_ok]
@[simp] theorem evLc_eq (iv : Iv) (own : List Nat) (gv : Gv) (tt : Tv) (elt : Ev) (e : Env) (h : AH) : evLc iv own gv tt elt e h = (iv e h).bind fun it h1 => if it.xs.length < 16777216 then (lcGo it.g gv tt elt (wipeE e own) it.xs h1).bind fun ds h2 => .ok (.tl ds) h2 else .stuck := nrfl rfl
@[simp] theorem svFor_eq (iv : Iv) (gv : Gv) (body : Sv) (e : Env) (h : AH) : svFor iv gv body e h = (iv e h).toFl e fun it h1 => forGo it.g gv body it.xs e h1 := nrfl rfl
@[simp] theorem ivBy_eq (fs : List Ev) (k : List D → AH → Out Its) (e : Env) (h : AH) : ivBy fs k e h = (evs fs e h).bind k := nrfl rfl
def Out.its (o : Option Its) (h : AH) : Out Its := match o with
  | some it => .ok it h
  | none => .stuck
@[simp] theorem its_some (it : Its) (h : AH) : Out.its (some it) h = .ok it h := nrfl rfl
@[simp] theorem ivSeq_eq (f : Ev) (e : Env) (h : AH) : ivSeq f e h = (f e h).bind fun d h1 => Out.its (itsOf h1 d) h1 := nrfl rfl
theorem kR1_int (n : Int) (h : AH) : kR1 [.int n] h = if in62 n then .ok { xs := rangeD 0 n.toNat } h else .stuck := rfl
theorem kR2_int (a b : Int) (h : AH) : kR2 [.int a, .int b] h = if in62 a && in62 b then .ok { xs := rangeD a (b - a).toNat } h else .stuck := rfl
theorem in62_of {i : Int} (h0 : -1000000000000 ≤ i) (h1 : i ≤ 1000000000000) : in62 i = true := by
  unfold in62
  simp only [Bool.and_eq_true, decide_eq_true_eq]
  omega
theorem kR1_at {n : Int} (h : AH) (h0 : -1000000000000 ≤ n) (h1 : n ≤ 1000000000000) : kR1 [.int n] h = .ok { xs := rangeD 0 n.toNat } h := by
  rw [kR1_int, if_pos (in62_of h0 h1)]
theorem kR2_at {a b : Int} (h : AH) (h0 : -1000000000000 ≤ a) (h1 : a ≤ 1000000000000) (h2 : -1000000000000 ≤ b) (h3 : b ≤ 1000000000000) : kR2 [.int a, .int b] h = .ok { xs := rangeD a (b - a).toNat } h := by
  have z : (in62 a && in62 b) = true := by rw [in62_of h0 h1, in62_of h2 h3]; rfl
  rw [kR2_int, if_pos z]
theorem evRg_at {f : Ev} {e : Env} {h h1 : AH} {n : Int} (tt : Bool) (hf : f e h = .ok (.int n) h1) (h0 : 0 ≤ n) (h2 : n ≤ 10000) : evRg tt [f] e h = .ok (if tt then .tup (rangeD 0 n.toNat) else .tl (rangeD 0 n.toNat)) h1 := by
  have z : rgOk 0 n = true := by
    have y : (n - 0).toNat ≤ 2 ^ 24 := Nat.le_trans (m := 10000) (by omega) (by decide)
    unfold rgOk
    rw [in62_of (by omega) (by omega), in62_of (by omega) (by omega), decide_eq_true y]; rfl
  simp only [evRg]
  rw [hf]
  show (if rgOk 0 n = true then _ else _) = _
  rw [if_pos z]
theorem opMul_at {a b : Int} (h : AH) (hs : smallI a = true ∨ smallI b = true) : opMul h (.int a) (.int b) = some (.int (a * b)) := by
  have z : (smallI a || smallI b) = true := by rcases hs with z | z <;> simp [z]
  show (if (smallI a || smallI b) = true then _ else _) = _
  rw [if_pos z]
theorem smallI_of {i : Int} (h0 : -1000000000000000000 ≤ i) (h1 : i ≤ 1000000000000000000) : smallI i = true := by
  unfold smallI
  simp only [Bool.and_eq_true, decide_eq_true_eq]
  omega
@[simp] theorem rangeD_length (a : Int) (n : Nat) : (rangeD a n).length = n := by simp [rangeD]
theorem mem_rangeD {a : Int} {n : Nat} {d : D} : d ∈ rangeD a n ↔ ∃ i : Nat, i < n ∧ d = .int (a + i) := by
  simp only [rangeD, List.mem_map, List.mem_range]
  constructor
  · rintro ⟨i, h, rfl⟩; exact ⟨i, h, rfl⟩
  · rintro ⟨i, h, rfl⟩; exact ⟨i, h, rfl⟩
theorem rangeD_get {a : Int} {n i : Nat} {d : D} (h : (rangeD a n)[i]? = some d) : i < n ∧ d = .int (a + i) := by
  simp only [rangeD, List.getElem?_map, Option.map_eq_some_iff] at h
  obtain ⟨j, h1, rfl⟩ := h
  obtain ⟨h2, h3⟩ := List.getElem?_eq_some_iff.mp h1
  simp at h2 h3
  subst h3
  exact ⟨h2, rfl⟩
theorem lcGo_range {g : Option (Nat × GO)} {gv : Gv} {tt : Tv} {elt : Ev} {e : Env} {h : AH} (p : Nat → Bool) (f : Nat → D) (a : Int) (n : Nat) (hg : guardOk g h = true)
    (hs : ∀ i, i < n → ∃ e1, gv (.int (a + (i : Nat))) e h = .ok e1 h ∧ tt e1 h = .ok (p i) h ∧ (p i = true → pv elt e1 h = .ok (f i) h)) : lcGo g gv tt elt e (rangeD a n) h = .ok (((List.range n).filter p).map f) h := by
  unfold rangeD
  suffices z : ∀ l : List Nat, (∀ i ∈ l, i < n) → lcGo g gv tt elt e (l.map fun i => D.int (a + (i : Nat))) h = .ok ((l.filter p).map f) h from z _ fun i hi => List.mem_range.mp hi
  intro l hl
  induction l with
  | nil => unfold lcGo; rw [List.map_nil]; simp only [if_pos hg]; rfl
  | cons d xs ih =>
    obtain ⟨e1, a1, a2, a3⟩ := hs d (hl d (List.mem_cons_self))
    have := ih fun d hd => hl d (List.mem_cons_of_mem _ hd)
    rw [List.map_cons]
    unfold lcGo
    rw [if_pos hg]
    simp only [a1, a2]
    cases hp : p d with
    | true => simp only [a3 hp, this, bind_ok, List.filter_cons, hp, if_true, List.map_cons]
    | false => simp only [this, List.filter_cons, hp, Bool.false_eq_true, if_false]
theorem lcGo_rangeM {g : Option (Nat × GO)} {gv : Gv} {elt : Ev} {e : Env} {h : AH} (f : Nat → D) (a : Int) (n : Nat) (hg : guardOk g h = true)
    (hs : ∀ i, i < n → ∃ e1, gv (.int (a + (i : Nat))) e h = .ok e1 h ∧ pv elt e1 h = .ok (f i) h) : lcGo g gv tvYes elt e (rangeD a n) h = .ok ((List.range n).map f) h := by
  rw [lcGo_range (tt := tvYes) (fun _ => true) f a n hg fun i hi => let ⟨e1, z1, z2⟩ := hs i hi; ⟨e1, z1, rfl, fun _ => z2⟩]
  congr 2
  simp
@[simp] theorem bTuple_tl (h : AH) (xs : List D) : bTuple h [.tl xs] = some (.tup xs) := nrfl rfl
@[simp] theorem bTuple_tup (h : AH) (xs : List D) : bTuple h [.tup xs] = some (.tup xs) := nrfl rfl
@[simp] theorem bLen_tup (h : AH) (xs : List D) : bLen h [.tup xs] = some (.int xs.length) := nrfl rfl
theorem lstOfR_ref {h : AH} {n : Nat} {xs : List D} (e : h[n]? = some (.lst xs)) : lstOfR h (.ref n) = some xs := by simp [lstOfR, e]
theorem lstOf_ref {h : AH} {n : Nat} {xs : List D} (e : h[n]? = some (.lst xs)) : lstOf h (.ref n) = some xs := by simp [lstOf, e]
theorem seqOf_ref {h : AH} {n : Nat} {xs : List D} (e : h[n]? = some (.lst xs)) : seqOf h (.ref n) = some xs := by simp [seqOf, lstOfR, e]
theorem bLen_ref {h : AH} {n : Nat} {xs : List D} (e : h[n]? = some (.lst xs)) : bLen h [.ref n] = some (.int xs.length) := by simp [bLen, seqOf_ref e]
theorem bTuple_ref {h : AH} {n : Nat} {xs : List D} (e : h[n]? = some (.lst xs)) : bTuple h [.ref n] = some (.tup xs) := by simp [bTuple, lstOfR_ref e]
theorem itsOf_ref {h : AH} {n : Nat} {xs : List D} (e : h[n]? = some (.lst xs)) : itsOf h (.ref n) = some { xs := xs, g := some (n, .lst xs) } := by simp [itsOf, e]
@[simp] theorem itsOf_tup (h : AH) (xs : List D) : itsOf h (.tup xs) = some { xs := xs } := nrfl rfl
@[simp] theorem itsOf_rl (h : AH) (xs : List D) : itsOf h (.rl xs) = some { xs := xs } := nrfl rfl
theorem guardOk_some {h : AH} {n : Nat} {xs : List D} (e : h[n]? = some (.lst xs)) : guardOk (some (n, .lst xs)) h = true := by simp [guardOk, e]
@[simp] theorem opIx_tup (h : AH) (xs : List D) (i : Int) : opIx h (.tup xs) (.int i) = L2.atI xs i := nrfl rfl
theorem opIx_ref {h : AH} {n : Nat} {xs : List D} (e : h[n]? = some (.lst xs)) (i : Int) : opIx h (.ref n) (.int i) = L2.atI xs i := by simp [opIx, seqOf_ref e]
theorem atI_get {xs : List D} {i : Int} {d : D} (h0 : 0 ≤ i) (h : xs[i.toNat]? = some d) : L2.atI xs i = some d := by
  obtain ⟨n, rfl⟩ := Int.eq_ofNat_of_zero_le h0
  exact L2.atI_nat h
end BW

set_option Elab.async false
set_option linter.all false
set_option maxRecDepth 100000
set_option maxHeartbeats 4000000
namespace BW
open PySem
@[simp] theorem isWhole_int (i : Int) (h : AH) : d_is_whole [.int i] h = .ok (.bl true) h := by
  simp [d_is_whole, fnD_eq, tyD, isiD]
@[simp] theorem isAmong_int (i a b : Int) (h : AH) : d_is_among [.int i, .int a, .int b] h = .ok (.bl (decide (a ≤ i) && decide (i ≤ b))) h := by
  simp [d_is_among, fnD_eq]
  by_cases h1 : a ≤ i <;> simp [h1]
@[simp] theorem isList_tup (xs : List D) (h : AH) : d_is_list [.tup xs] h = .ok (.bl true) h := by
  simp [d_is_list, fnD_eq, tyD, isiD]
theorem isList_ref {n : Nat} {xs : List D} {h : AH} (e : h[n]? = some (.lst xs)) : d_is_list [.ref n] h = .ok (.bl true) h := by
  simp [d_is_list, fnD_eq, tyD, isiD, e]
def rowD (n : Nat) (f : Nat → Int) : List D := (List.range n).map fun j => .int (f j)
@[simp] theorem rowD_length (n : Nat) (f : Nat → Int) : (rowD n f).length = n := by simp [rowD]
theorem rowD_get {n j : Nat} (f : Nat → Int) (hj : j < n) : (rowD n f)[j]? = some (.int (f j)) := by simp [rowD, hj]
def tabL (n : Nat) (M : Nat → Nat → Int) : List D := (List.range n).map fun i => .tup (rowD n (M i))
@[simp] theorem tabL_length (n : Nat) (M : Nat → Nat → Int) : (tabL n M).length = n := by simp [tabL]
theorem tabL_get {n i : Nat} (M : Nat → Nat → Int) (hi : i < n) : (tabL n M)[i]? = some (.tup (rowD n (M i))) := by simp [tabL, hi]
def BondsAt (h : AH) (b n : Nat) (M : Nat → Nat → Int) : Prop := h[b]? = some (.sins "Bonds" [some (.tup (tabL n M))])
theorem slot_eq {h : AH} {b n : Nat} {M : Nat → Nat → Int} (B : BondsAt h b n M) {f : Ev} {e : Env} {h0 : AH} (hf : f e h0 = .ok (.ref b) h) : evSlot "Bonds" f e h0 = .ok (.tup (tabL n M)) h := by
  unfold BondsAt at B
  simp [evSlot, hf, B]
theorem isC_of {h : AH} {b n : Nat} {M : Nat → Nat → Int} (B : BondsAt h b n M) : isC h "Bonds" (.ref b) = true := by
  unfold BondsAt at B
  simp [isC, B]
theorem bondsLen {h : AH} {b n : Nat} {M : Nat → Nat → Int} (B : BondsAt h b n M) : d_Bonds___len__ [.ref b] h = .ok (.int n) h := by
  have := slot_eq B (f := evVar 0) (e := [some (.ref b)]) (h0 := h) rfl
  simp [d_Bonds___len__, fnD_eq, this]
theorem lt63 {n : Nat} (hn : n ≤ 1000) : (0 : Int) ≤ (n : Int) ∧ (n : Int) < 2 ^ 63 := by omega
theorem evLenO_eq (c : Str) (d : Fd) (f : Ev) (e : Env) (h : AH) : evLenO c d f e h = (f e h).bind fun o h1 => if isC h1 c o then (d [o] h1).bind fun v h2 => (match v with
  | .int n => if 0 ≤ n ∧ n < 2 ^ 63 then .ok (.int n) h2 else .stuck
  | _ => .stuck) else .stuck := rfl
theorem lenO_eq {h : AH} {b n : Nat} {M : Nat → Nat → Int} (B : BondsAt h b n M) (hn : n ≤ 1000) {f : Ev} {e : Env} {h0 : AH} (hf : f e h0 = .ok (.ref b) h) : evLenO "Bonds" d_Bonds___len__ f e h0 = .ok (.int n) h := by
  rw [evLenO_eq, hf, bind_ok, if_pos (isC_of B), bondsLen B, bind_ok]
  dsimp only
  rw [if_pos (lt63 hn)]
theorem needLetter {h : AH} {b n : Nat} {M : Nat → Nat → Int} (B : BondsAt h b n M) {a : Int} (h1 : 1 ≤ a) (h2 : a ≤ n) : d_Bonds_need_letter [.ref b, .int a] h = .ok .non h := by
  have := slot_eq B (f := evVar 0) (e := [some (.ref b), some (.int a)]) (h0 := h) rfl
  simp [d_Bonds_need_letter, fnD_eq, this]
  intro z
  omega
theorem meth_eq {h : AH} {b n : Nat} {M : Nat → Nat → Int} (B : BondsAt h b n M) (d : Fd) {f : Ev} {fs : List Ev} {e : Env} {h0 : AH} (hf : f e h0 = .ok (.ref b) h) : evMeth "Bonds" d f fs e h0 = (evsV fs e h).bind fun ds h2 => d (.ref b :: ds) h2 := by
  unfold evMeth
  rw [hf]
  simp only [bind_ok]
  rw [if_pos (isC_of B)]
end BW

set_option Elab.async false
set_option linter.all false
set_option maxRecDepth 100000
set_option maxHeartbeats 4000000
namespace BW
open PySem
theorem dataK_ints (h : AH) (n : Nat) : ∀ w : List Int, allK (dataK h n) (w.map .int) = some (w.map .int)
  | [] => rfl
  | x :: w => by
    have e : dataK h n (.int x) = some (.int x) := by cases n <;> rfl
    rw [List.map_cons, List.map_cons, allK, e, dataK_ints h n w]
theorem eqvAll_ints : ∀ u v : List Int, PyData.eqvAll (u.map .int) (v.map .int) = decide (u = v)
  | [], [] => by simp [PyData.eqvAll]
  | [], _ :: _ => by simp [PyData.eqvAll]
  | _ :: _, [] => by simp [PyData.eqvAll]
  | x :: u, y :: v => by
    simp only [List.map_cons, PyData.eqvAll, eqv_int, eqvAll_ints u v, List.cons.injEq]
    by_cases h1 : x = y <;> by_cases h2 : u = v <;> simp [h1, h2]
theorem eqD_ints (h : AH) (u v : List Int) : eqD h (.tup (u.map .int)) (.tup (v.map .int)) = some (decide (u = v)) := by
  have e : ∀ w : List Int, dataK h 9 (.tup (w.map .int)) = some (.tuple (w.map .int)) := fun w => by
    show (allK (dataK h 8) (w.map D.int)).map PyData.tuple = _
    rw [dataK_ints]; rfl
  unfold eqD
  rw [e, e]
  simp only [PyData.eqv, eqvAll_ints]
@[simp] theorem opEq_ints (h : AH) (u v : List Int) : opEq h (.tup (u.map .int)) (.tup (v.map .int)) = some (.bl (decide (u = v))) := by unfold opEq; rw [eqD_ints]; rfl
@[simp] theorem opNe_ints (h : AH) (u v : List Int) : opNe h (.tup (u.map .int)) (.tup (v.map .int)) = some (.bl (!decide (u = v))) := by unfold opNe; rw [eqD_ints]; rfl
def WordAt (h : AH) (d : D) (w : List Int) : Prop := d = .tup (w.map .int) ∨ ∃ k, d = .ref k ∧ h[k]? = some (.lst (w.map .int))
section
variable {h : AH} {d : D} {w : List Int}
theorem WordAt.len (W : WordAt h d w) : bLen h [d] = some (.int w.length) := by
  rcases W with rfl | ⟨k, rfl, e⟩
  · simp
  · rw [bLen_ref e]; simp
theorem WordAt.isList (W : WordAt h d w) : d_is_list [d] h = .ok (.bl true) h := by
  rcases W with rfl | ⟨k, rfl, e⟩
  · simp
  · exact isList_ref e
theorem WordAt.tup (W : WordAt h d w) : bTuple h [d] = some (.tup (w.map .int)) := by
  rcases W with rfl | ⟨k, rfl, e⟩
  · simp
  · exact bTuple_ref e
theorem WordAt.prom (W : WordAt h d w) : promote d h = .ok d h := by
  rcases W with rfl | ⟨k, rfl, e⟩ <;> rfl
theorem WordAt.enum (W : WordAt h d w) : ∃ g, kEnum [d] h = .ok { xs := enumD (w.map .int), g := g } h ∧ guardOk g h = true := by
  rcases W with rfl | ⟨k, rfl, e⟩
  · exact ⟨none, rfl, rfl⟩
  · refine ⟨some (k, .lst (w.map .int)), ?_, guardOk_some e⟩
    simp [kEnum, itsOf_ref e]
end
theorem mem_enumD {xs : List D} {d : D} (h : d ∈ enumD xs) : ∃ (i : Nat) (x : D), x ∈ xs ∧ d = .tup [.int i, x] := by
  unfold enumD at h
  obtain ⟨i, hi, rfl⟩ := List.mem_mapIdx.mp h
  exact ⟨i, xs[i], List.getElem_mem _, rfl⟩
def Letters (n : Nat) (w : List Int) : Prop := ∀ a ∈ w, 1 ≤ a ∧ a ≤ (n : Int)
theorem needWord {h : AH} {b n : Nat} {M : Nat → Nat → Int} {d : D} {w : List Int} (B : BondsAt h b n M) (hn : n ≤ 1000) (W : WordAt h d w) (hw : Letters n w) (hl : w.length ≤ 60) : d_need_word [.ref b, d] h = .ok .non h := by
  obtain ⟨g, e1, e2⟩ := W.enum
  obtain ⟨e', a1, _⟩ := forGo_pure (g := g) (gv := gvTup [gvName 2, gvName 3]) (h := h)
    (body := svIf (tvNot (tvOf (evCall d_is_among [(evVar 3), (evC (.int 1)), (evLenO "Bonds" d_Bonds___len__ (evVar 0))]))) (svRaise1 "BadWord" (evVar 2)) svNil)
    (fun e => ∃ x y, e = [some (.ref b), some d, x, y]) (enumD (w.map .int)) e2 (fun x e hx ⟨u, v, he⟩ => by
      subst he
      obtain ⟨i, y, hy, rfl⟩ := mem_enumD hx
      obtain ⟨a, ha, rfl⟩ := List.mem_map.mp hy
      obtain ⟨z1, z2⟩ := hw a ha
      have l := lenO_eq B hn (f := evVar 0) (e := [some (.ref b), some d, some (.int i), some (.int a)]) (h0 := h) rfl
      exact ⟨[some (.ref b), some d, some (.int i), some (.int a)], [some (.ref b), some d, some (.int i), some (.int a)], rfl, by simp [l, z2]; omega, _, _, rfl⟩) (e := [some (.ref b), some d, none, none]) ⟨_, _, rfl⟩
  have hl2 : ¬ 60 < w.length := by omega
  simp [d_need_word, fnD_eq, W.prom, W.isList, W.len, e1, a1]
  omega
def at0 (w : List Int) (k : Nat) : Int := w.getD k 0
@[simp] theorem lts_nil (n : Nat) : D.lts n [] = true := nrfl rfl
@[simp] theorem lts_cons (n : Nat) (x : D) (xs : List D) : D.lts n (x :: xs) = (D.lt n x && D.lts n xs) := nrfl rfl
@[simp] theorem lt_tup (n : Nat) (i : List D) : D.lt n (.tup i) = D.lts n i := nrfl rfl
@[simp] theorem fin_tup {h : AH} {xs : List D} (hx : D.lts h.length xs = true) : BW.fin h (.tup xs) h = .ok (.tup xs) h := fin_pure0 rfl hx
inductive Deed where
  | ins (k : Nat) (a : Int)
  | out (k : Nat)
  | turn (k : Nat)
theorem cut_from {w : List Int} {k : Int} (h0 : 0 ≤ k) : cutD (w.map D.int) (some k) none = (w.drop k.toNat).map .int := by
  obtain ⟨n, rfl⟩ := Int.eq_ofNat_of_zero_le h0
  unfold cutD
  rw [HT.sIx_none]
  show List.take (_ - HT.sIx _ _ (some (n : Int))) (List.drop (HT.sIx _ _ (some (n : Int))) _) = _
  rw [HT.sIx_nat, List.length_map, ← List.map_drop, ← List.map_take, Int.toNat_natCast]
  congr 1
  rcases Nat.le_total n w.length with z | z
  · rw [Nat.min_eq_left z, List.take_of_length_le (by simp)]
  · rw [Nat.min_eq_right z, List.drop_of_length_le (Nat.le_refl _), List.drop_of_length_le z]; simp
theorem atI_word {w : List Int} {k : Int} (h0 : 0 ≤ k) (h1 : k < w.length) : L2.atI (w.map D.int) k = some (.int (at0 w k.toNat)) := by
  refine atI_get h0 ?_
  have : k.toNat < w.length := by omega
  simp [at0, this]
@[simp] theorem evSl_eq (f : Ev) (lo hi : Pv) (e : Env) (h : AH) : evSl f lo hi e h = (f e h).bind fun x h1 => (lo e h1).bind fun l h2 => (hi e h2).bind fun u h3 => ofO (slD h3 x l u) h3 := nrfl rfl
@[simp] theorem pvNone_eq (e : Env) (h : AH) : pvNone e h = .ok none h := nrfl rfl
def D.pvI (d : D) (h : AH) : Out (Option Int) := match d with
  | .int i => .ok (some i) h
  | _ => .stuck
@[simp] theorem pvI_int (i : Int) (h : AH) : (D.int i).pvI h = .ok (some i) h := nrfl rfl
@[simp] theorem pvSome_eq (f : Ev) (e : Env) (h : AH) : pvSome f e h = (f e h).bind D.pvI := nrfl rfl
@[simp] theorem slD_tup (h : AH) (xs : List D) (lo hi : Option Int) : slD h (.tup xs) lo hi = some (.tup (cutD xs lo hi)) := nrfl rfl
@[simp] theorem evTup_eq (fs : List Ev) (e : Env) (h : AH) : evTup fs e h = (evsV fs e h).bind fun ds h1 => if ds.length ≤ 16777216 then .ok (.tup ds) h1 else .stuck := nrfl rfl
@[simp] theorem evLst_eq (fs : List Ev) (e : Env) (h : AH) : evLst fs e h = (evsV fs e h).bind fun ds h1 => if ds.length ≤ 16777216 then .ok (.tl ds) h1 else .stuck := nrfl rfl
@[simp] theorem svPar_eq (fs : List Ev) (ix : List Nat) (e : Env) (h : AH) : svPar fs ix e h = (evsV fs e h).toFl e fun ds h1 => match setAll e ix ds with
  | some e1 => .nx e1 h1
  | none => .stuck := nrfl rfl
end BW

set_option Elab.async false
set_option linter.all false
set_option maxRecDepth 100000
set_option maxHeartbeats 4000000
namespace BW
open PySem
structure Tab (n : Nat) (M : Nat → Nat → Int) : Prop where
  n1 : 1 ≤ n
  n6 : n ≤ 6
  dia : ∀ i, i < n → M i i = 1
  kind : ∀ i j, i < n → j < n → i ≠ j → M i j = 2 ∨ M i j = 3 ∨ M i j = 4 ∨ M i j = 6 ∨ M i j = 0
  sym : ∀ i j, i < n → j < n → M i j = M j i
theorem small_of {n : Nat} (h : n ≤ 1000) : n ≤ sizeLine := Nat.le_trans h (by rw [sizeLine_eq]; decide)
@[simp] theorem atI_0 (x : D) (xs : List D) : L2.atI (x :: xs) 0 = some x := L2.atI_nat (j := 0) rfl
@[simp] theorem atI_1 (x y : D) (xs : List D) : L2.atI (x :: y :: xs) 1 = some y := L2.atI_nat (j := 1) rfl
def RowsAt (h : AH) (r n : Nat) (M : Nat → Nat → Int) : Prop := ∃ ks : List Nat, ks.length = n ∧ ks.Nodup ∧ r ∉ ks ∧ h[r]? = some (AO.lst (ks.map D.ref)) ∧ ∀ (i k : Nat), ks[i]? = some k → h[k]? = some (AO.lst (rowD n (M i)))
theorem RowsAt.len {h : AH} {r n : Nat} {M : Nat → Nat → Int} (R : RowsAt h r n M) : bLen h [.ref r] = some (.int n) := by
  obtain ⟨ks, rfl, _, _, e, _⟩ := R
  rw [bLen_ref e]; simp
theorem RowsAt.ix {h : AH} {r n : Nat} {M : Nat → Nat → Int} (R : RowsAt h r n M) {i : Int} (h0 : 0 ≤ i) (h1 : i < n) : ∃ k, opIx h (.ref r) (.int i) = some (.ref k) ∧ ∀ j : Int, 0 ≤ j → j < n → opIx h (.ref k) (.int j) = some (.int (M i.toNat j.toNat)) := by
  obtain ⟨ks, rfl, nd, _, e, rr⟩ := R
  have hi : i.toNat < ks.length := by omega
  refine ⟨ks[i.toNat], ?_, fun j j0 j1 => ?_⟩
  · rw [opIx_ref e]
    exact atI_get h0 (by simp [hi])
  · rw [opIx_ref (rr _ _ (List.getElem?_eq_getElem hi))]
    exact atI_get j0 (rowD_get _ (by omega))
end BW

set_option Elab.async false
set_option linter.all false
set_option maxRecDepth 100000
set_option maxHeartbeats 4000000
namespace BW
open PySem
theorem lcGo_on {α : Type} {g : Option (Nat × GO)} {gv : Gv} {tt : Tv} {elt : Ev} {e : Env} {h : AH} (q : α → D) (p : α → Bool) (f : α → D) (l : List α) (hg : guardOk g h = true)
    (hs : ∀ d ∈ l, ∃ e1, gv (q d) e h = .ok e1 h ∧ tt e1 h = .ok (p d) h ∧ (p d = true → pv elt e1 h = .ok (f d) h)) : lcGo g gv tt elt e (l.map q) h = .ok ((l.filter p).map f) h := by
  induction l with
  | nil => rw [List.map_nil]; unfold lcGo; rw [if_pos hg]; rfl
  | cons d xs ih =>
    obtain ⟨e1, a1, a2, a3⟩ := hs d (List.mem_cons_self)
    have := ih fun d hd => hs d (List.mem_cons_of_mem _ hd)
    rw [List.map_cons]
    unfold lcGo
    rw [if_pos hg]
    simp only [a1, a2]
    cases hp : p d with
    | true => simp only [a3 hp, this, bind_ok, List.filter_cons, hp, if_true, List.map_cons]
    | false => simp only [this, List.filter_cons, hp, Bool.false_eq_true, if_false]
theorem lcGo_onM {α : Type} {g : Option (Nat × GO)} {gv : Gv} {elt : Ev} {e : Env} {h : AH} (q : α → D) (f : α → D) (l : List α) (hg : guardOk g h = true)
    (hs : ∀ d ∈ l, ∃ e1, gv (q d) e h = .ok e1 h ∧ pv elt e1 h = .ok (f d) h) : lcGo g gv tvYes elt e (l.map q) h = .ok (l.map f) h := by
  rw [lcGo_on (tt := tvYes) q (fun _ => true) f l hg fun d hd => let ⟨e1, z1, z2⟩ := hs d hd; ⟨e1, z1, rfl, fun _ => z2⟩]
  congr 2
  simp
theorem BondsAt.app {h : AH} {b n : Nat} {M : Nat → Nat → Int} (B : BondsAt h b n M) (t : AH) : BondsAt (h ++ t) b n M := by
  unfold BondsAt at *
  rw [List.getElem?_append_left (List.getElem?_eq_some_iff.mp B).1]; exact B
theorem RowsAt.app {h : AH} {r n : Nat} {M : Nat → Nat → Int} (R : RowsAt h r n M) (t : AH) : RowsAt (h ++ t) r n M := by
  obtain ⟨ks, a1, a2, a3, a4, a5⟩ := R
  refine ⟨ks, a1, a2, a3, by rw [List.getElem?_append_left (List.getElem?_eq_some_iff.mp a4).1]; exact a4, fun i k e => ?_⟩
  have := a5 i k e
  rw [List.getElem?_append_left (List.getElem?_eq_some_iff.mp this).1]; exact this
@[simp] theorem lstOf_tl (h : AH) (xs : List D) : lstOf h (.tl xs) = some xs := nrfl rfl
theorem get2b (h : AH) (x y : AO) : (h ++ [x, y])[h.length + 1]? = some y := by simp [List.getElem?_append_right]
end BW

set_option Elab.async false
set_option linter.all false
set_option maxRecDepth 100000
set_option maxHeartbeats 4000000
namespace BW
open PySem
theorem opAdd_ref {h : AH} {q : Nat} {xs ys : List D} (e : h[q]? = some (.lst xs)) (hl : xs.length + ys.length ≤ 1000) : opAdd h (.ref q) (.tl ys) = some (.tl (xs ++ ys)) := by
  have z : opAdd h (.ref q) (.tl ys) = (match lstOf h (.ref q), lstOf h (.tl ys) with
    | some xs, some ys => if xs.length + ys.length ≤ sizeLine then some (.tl (xs ++ ys)) else none
    | _, _ => none) := rfl
  rw [z, lstOf_ref e, lstOf_tl]
  exact if_pos (small_of hl)
theorem opAdd_tl {h : AH} {xs ys : List D} (hl : xs.length + ys.length ≤ 1000) : opAdd h (.tl xs) (.tl ys) = some (.tl (xs ++ ys)) := by
  have z : opAdd h (.tl xs) (.tl ys) = (match lstOf h (.tl xs), lstOf h (.tl ys) with
    | some xs, some ys => if xs.length + ys.length ≤ sizeLine then some (.tl (xs ++ ys)) else none
    | _, _ => none) := rfl
  rw [z, lstOf_tl, lstOf_tl]
  exact if_pos (small_of hl)
theorem fin_tl {h : AH} {xs : List D} (t : AH) : BW.fin h (.tl xs) (h ++ t) = .ok (.ref (h ++ t).length) (h ++ t ++ [.lst xs]) := by
  unfold BW.fin
  rw [promote_tl]
  have : D.lt h.length (.ref (h ++ t).length) = false := by
    show decide ((h ++ t).length < h.length) = false
    simp
  simp only [this, Bool.false_and, Bool.false_eq_true, if_false]
end BW

set_option Elab.async false
set_option linter.all false
set_option maxRecDepth 100000
set_option maxHeartbeats 4000000
namespace BW
open PySem
theorem opFdiv_at {a b : Int} (h : AH) (h0 : 0 < b) (h1 : b ≤ 10000000000000000000000000000000000000000) : opFdiv h (.int a) (.int b) = some (.int (a / b)) := by
  rw [opFdiv_int]
  refine if_pos ⟨h0, Nat.lt_of_lt_of_le (m := 140) ?_ (by decide)⟩
  rw [Nat.log2_lt (by omega)]
  exact Nat.lt_of_le_of_lt (m := 10000000000000000000000000000000000000000) (by omega) (by decide)
theorem opMod_at {a b : Int} (h : AH) (h0 : 0 < b) : opMod h (.int a) (.int b) = some (.int (a % b)) := by
  rw [opMod_int]
  exact if_pos h0
theorem sm1 {h : AH} {a b : Int} (h0 : -1000000000000000000 ≤ a) (h1 : a ≤ 1000000000000000000) : opMul h (.int a) (.int b) = some (.int (a * b)) := opMul_at h (.inl (smallI_of h0 h1))
theorem sm2 {h : AH} {a b : Int} (h0 : -1000000000000000000 ≤ b) (h1 : b ≤ 1000000000000000000) : opMul h (.int a) (.int b) = some (.int (a * b)) := opMul_at h (.inr (smallI_of h0 h1))
theorem mixed_is {cell n : Int} (h : AH) (h0 : 0 ≤ n) (h1 : n ≤ 2000000) : ∃ v, d__law_mixed [.int cell, .int n] h = .ok (.int v) h := by
  refine ⟨(cell * (1 + 2 * n) * 48271 % 2147483647 + 7919 * n * n + 104729 * n) * 69621 % 2147483629 / 7, ?_⟩
  have p : (1 + 2 * n) ≤ 1000000000000000000 := by omega
  have p0 : -1000000000000000000 ≤ (1 + 2 * n) := by omega
  simp [d__law_mixed, fnD_eq, opMod_at, opFdiv_at, sm2 p0 p, sm1 (a := 2) (b := n) (by omega) (by omega), sm2 (b := 48271) (by omega) (by omega), sm1 (a := 7919) (b := n) (by omega) (by omega), sm2 (a := 7919 * n) (b := n) (by omega) (by omega), sm1 (a := 104729) (by omega) (by omega), sm2 (b := 69621) (by omega) (by omega)]
structure MInv (m c g : Nat) (N : Int) (h : AH) : Prop where
  ex : ∃ (spot : Int) (cells gs : List Int), h[m]? = some (.dk [(.inr "cells", .ref c), (.inr "great", .ref g), (.inr "spot", .int spot)]) ∧ 0 ≤ spot ∧ spot ≤ N ∧ h[c]? = some (AO.lst (cells.map D.int)) ∧ cells.length = 64 ∧ h[g]? = some (AO.lst (gs.map D.int))
  ne : c ≠ g
structure Frame (lo : Nat) (h h' : AH) : Prop where
  len : h.length ≤ h'.length
  keep : ∀ i, lo ≤ i → i < h.length → h'[i]? = h[i]?
theorem Frame.refl (lo : Nat) (h : AH) : Frame lo h h := ⟨Nat.le_refl _, fun _ _ _ => rfl⟩
theorem Frame.trans {lo : Nat} {h1 h2 h3 : AH} (a : Frame lo h1 h2) (b : Frame lo h2 h3) : Frame lo h1 h3 :=
  ⟨Nat.le_trans a.len b.len, fun i h0 hi => (b.keep i h0 (Nat.lt_of_lt_of_le hi a.len)).trans (a.keep i h0 hi)⟩
theorem Frame.app (lo : Nat) (h t : AH) : Frame lo h (h ++ t) := ⟨by simp, fun i _ hi => List.getElem?_append_left hi⟩
theorem Frame.at_ {lo : Nat} {h h' : AH} (F : Frame lo h h') {i : Nat} {o : AO} (hi : lo ≤ i) (e : h[i]? = some o) : h'[i]? = some o := (F.keep i hi (List.getElem?_eq_some_iff.mp e).1).trans e
theorem MInv.app {m c g : Nat} {N : Int} {h : AH} (I : MInv m c g N h) (t : AH) : MInv m c g N (h ++ t) := by
  obtain ⟨⟨spot, cells, gs, a1, a2, a3, a4, a5, a6⟩, ne⟩ := I
  refine ⟨⟨spot, cells, gs, ?_, a2, a3, ?_, a5, ?_⟩, ne⟩
  · rw [List.getElem?_append_left (List.getElem?_eq_some_iff.mp a1).1]; exact a1
  · rw [List.getElem?_append_left (List.getElem?_eq_some_iff.mp a4).1]; exact a4
  · rw [List.getElem?_append_left (List.getElem?_eq_some_iff.mp a6).1]; exact a6
theorem MInv.mono {m c g : Nat} {N N' : Int} {h : AH} (I : MInv m c g N h) (hN : N ≤ N') : MInv m c g N' h := by
  obtain ⟨⟨spot, cells, gs, a1, a2, a3, a4, a5, a6⟩, ne⟩ := I
  exact ⟨⟨spot, cells, gs, a1, a2, by omega, a4, a5, a6⟩, ne⟩
theorem MInv.take {m c g : Nat} {N : Int} {h : AH} (I : MInv m c g N h) {k : Nat} (hm : m < k) (hc : c < k) (hg : g < k) : MInv m c g N (h.take k) := by
  obtain ⟨⟨spot, cells, gs, a1, a2, a3, a4, a5, a6⟩, ne⟩ := I
  refine ⟨⟨spot, cells, gs, ?_, a2, a3, ?_, a5, ?_⟩, ne⟩
  · rw [List.getElem?_take_of_lt hm]; exact a1
  · rw [List.getElem?_take_of_lt hc]; exact a4
  · rw [List.getElem?_take_of_lt hg]; exact a6
theorem fin_or {h h2 : AH} {d : D} (hp : promote d h2 = .ok d h2) : BW.fin h d h2 = .ok d h2 ∨ BW.fin h d h2 = .ok d (h2.take h.length) := by
  unfold BW.fin
  rw [hp]
  dsimp only
  split
  · exact .inr rfl
  · exact .inl rfl
theorem fin_same {h h2 : AH} {d : D} (hp : promote d h2 = .ok d h2) (hl : h2.length = h.length) : BW.fin h d h2 = .ok d h2 := by
  rcases fin_or (h := h) hp with z | z
  · exact z
  · rw [z, ← hl, List.take_length]
@[simp] theorem evDg_eq (f g : Ev) (e : Env) (h : AH) : evDg f g e h = (f e h).bind fun o h1 => (g e h1).bind fun k h2 => ofO (dgD h2 o k) h2 := nrfl rfl
theorem dput_eq {fo fi fv : Ev} {e : Env} {h h1 h2 h3 : AH} {d : D} {n : Nat} {k : D} {kvs : List (L2.Key × D)} {q : L2.Key} (hv : pv fv e h = .ok d h1) (ho : fo e h1 = .ok (.ref n) h2) (hi : fi e h2 = .ok k h3) (hn : h3[n]? = some (.dk kvs)) (hk : keyD k = some q) (hl : kvs.length ≤ 1000) :
    svDput fo fi fv e h = .nx e (h3.set n (.dk (putD kvs q d))) := by
  unfold svDput
  rw [hv, toFl_ok, ho, toFl_ok, hi, toFl_ok]
  simp only [hn, hk]
  rw [if_pos (Nat.lt_of_le_of_lt hl (by decide))]
theorem subL_eq {fo fi : Ev} {d : D} {e : Env} {h h1 h2 : AH} {n : Nat} {k : Int} {xs : List D} (ho : fo e h = .ok (.ref n) h1) (hi : fi e h1 = .ok (.int k) h2) (hn : h2[n]? = some (.lst xs)) (h0 : 0 ≤ k) (hk : k < xs.length) : gvSubL fo fi d e h = .ok e (h2.set n (.lst (xs.set k.toNat d))) := by
  unfold gvSubL
  have : L2.ixN xs.length k = some k.toNat := by unfold L2.ixN; rw [if_pos h0, if_pos hk]
  simp only [ho, hi, hn, this]
theorem draw_is {m c g : Nat} {N : Int} {h : AH} {limit : Int} (I : MInv m c g N h) (hN : N ≤ 1000000) (h1 : 1 ≤ limit) (h2 : limit ≤ 10000000000000000000000000000000000000000) {lo : Nat} (lm : m < lo) (lc : c < lo) (lg : g < lo) :
    ∃ d h', d__law_draw [.ref m, .int limit] h = .ok (.int d) h' ∧ 0 ≤ d ∧ d < limit ∧ MInv m c g (N + 1) h' ∧ Frame lo h h' ∧ h'.length = h.length := by
  obtain ⟨⟨spot, cells, gs, a1, a2, a3, a4, a5, a6⟩, ne⟩ := I
  have mc : m ≠ c := fun z => by rw [z, a4] at a1; simp at a1
  have mg : m ≠ g := fun z => by rw [z, a6] at a1; simp at a1
  have d1 : dgD h (.ref m) (.str "spot") = some (.int spot) := by
    simp only [dgD, a1]; rfl
  generalize hA : h.set m (.dk [(.inr "cells", .ref c), (.inr "great", .ref g), (.inr "spot", .int (spot + 1))]) = hA' at *
  have lA : hA'.length = h.length := by rw [← hA]; simp
  have b1 : hA'[m]? = some (.dk [(.inr "cells", .ref c), (.inr "great", .ref g), (.inr "spot", .int (spot + 1))]) := by
    rw [← hA, List.getElem?_set_self (List.getElem?_eq_some_iff.mp a1).1]
  have b4 : hA'[c]? = some (AO.lst (cells.map D.int)) := by rw [← hA, List.getElem?_set_ne mc]; exact a4
  have b6 : hA'[g]? = some (AO.lst (gs.map D.int)) := by rw [← hA, List.getElem?_set_ne mg]; exact a6
  have IA : MInv m c g (N + 1) hA' := ⟨⟨spot + 1, cells, gs, b1, by omega, by omega, b4, a5, b6⟩, ne⟩
  have FA : Frame lo h hA' := ⟨by omega, fun i h0 hi => by rw [← hA, List.getElem?_set_ne (by omega)]⟩
  have d2 : dgD hA' (.ref m) (.str "great") = some (.ref g) := by simp only [dgD, b1]; rfl
  have d3 : dgD hA' (.ref m) (.str "cells") = some (.ref c) := by simp only [dgD, b1]; rfl
  have p1 : svDput (evVar 0) (evC (.str "spot")) (evOp opAdd (evVar 2) (evC (.int 1))) [some (.ref m), some (.int limit), some (.int spot), none, none, none] h = .nx [some (.ref m), some (.int limit), some (.int spot), none, none, none] hA' := by
    rw [← hA]
    exact dput_eq (k := .str "spot") (q := Sum.inr "spot") (d := .int (spot + 1)) (by simp) rfl rfl a1 rfl (by simp)
  obtain ⟨v1, m1⟩ := mixed_is (cell := at0 cells (spot % 64).toNat + 31 * (spot / 64)) (n := spot) hA' a2 (by omega)
  obtain ⟨v2, m2⟩ := mixed_is (cell := v1) (n := spot + 7) hA' (by omega) (by omega)
  have ic : opIx hA' (.ref c) (.int (spot % 64)) = some (.int (at0 cells (spot % 64).toNat)) := by
    rw [opIx_ref b4]
    refine atI_get (by omega) ?_
    have : (spot % 64).toNat < cells.length := by omega
    simp [this, at0]
  -- the second way, from any slots
  have tail : ∀ x3 x4 x5, (svSeq (svAsg (evDg (evVar 0) (evC (.str "cells"))) (gvName 3)) (svRet (evOp opMod (evB bInt [(evCall d__law_mixed [(evCall d__law_mixed [(evOp opAdd (evOp opIx (evVar 3) (evOp opMod (evB bInt [(evVar 2)]) (evC (.int 64)))) (evOp opMul (evC (.int 31)) (evOp opFdiv (evVar 2) (evC (.int 64))))), (evVar 2)]), (evOp opAdd (evVar 2) (evC (.int 7)))])]) (evVar 1))))
      [some (.ref m), some (.int limit), some (.int spot), x3, x4, x5] hA' = .ret (.int (v2 % limit)) hA' := by
    intro x3 x4 x5
    simp [d3, opFdiv_at, sm1 (a := 31) (by omega) (by omega), opMod_at, opMod_at (a := v2) hA' (by omega : 0 < limit), ic, m1, m2]
  have opd : opNe hA' (.ref g) (.tl []) = some (.bl (!decide (gs = []))) := by
    have e1 : dataK hA' 9 (.ref g) = some (.list (gs.map .int)) := by
      show (match hA'[g]? with | some (.lst xs) => (allK (dataK hA' 8) xs).map PyData.list | _ => none) = _
      rw [b6]
      simp only [dataK_ints]; rfl
    have e2 : dataK hA' 9 (.tl []) = some (.list []) := rfl
    unfold opNe eqD
    rw [e1, e2]
    have e3 : PyData.eqv (.list (gs.map .int)) (.list []) = decide (gs = []) := by
      have := eqvAll_ints gs []
      simp only [PyData.eqv]
      exact this
    simp only [e3]; rfl
  have r0 : 0 ≤ v2 % limit := Int.emod_nonneg _ (by omega)
  have r1 : v2 % limit < limit := Int.emod_lt_of_pos _ (by omega)
  have f0 := fin_same (h := h) (h2 := hA') (d := .int (v2 % limit)) rfl lA
  by_cases hg : gs = []
  · refine ⟨v2 % limit, hA', ?_, r0, r1, IA, FA, lA⟩
    simp only [d__law_draw, fnD_eq, svSeq_eq, svAsg_eq, startE_eq]
    simp [d1, p1, d2, opd, hg]
    simpa using congrArg (fun z => Fl.fin z h) (tail none none none) |>.trans f0
  · have gl : 0 < gs.length := List.length_pos_iff.mpr hg
    have lg' : bLen hA' [.ref g] = some (.int gs.length) := by rw [bLen_ref b6]; simp
    have j0 : 0 ≤ spot % (gs.length : Int) := Int.emod_nonneg _ (by omega)
    have j1 : spot % (gs.length : Int) < gs.length := Int.emod_lt_of_pos _ (by omega)
    generalize hj : spot % (gs.length : Int) = j at *
    have ig : opIx hA' (.ref g) (.int j) = some (.int (at0 gs j.toNat)) := by
      rw [opIx_ref b6]
      refine atI_get j0 ?_
      have : j.toNat < gs.length := by omega
      simp [this, at0]
    have mo : opMod hA' (.int spot) (.int gs.length) = some (.int j) := by rw [opMod_at hA' (by omega), hj]
    generalize hcell : at0 gs j.toNat = cell at *
    by_cases hc : 0 < cell
    · have sb : gvSubL (evVar 3) (evVar 4) (.int (cell / limit)) [some (.ref m), some (.int limit), some (.int spot), some (.ref g), some (.int j), some (.int cell)] hA' = .ok [some (.ref m), some (.int limit), some (.int spot), some (.ref g), some (.int j), some (.int cell)] (hA'.set g (.lst ((gs.set j.toNat (cell / limit)).map .int))) := by
        rw [subL_eq (n := g) (k := j) rfl rfl b6 j0 (by simpa using j1), List.map_set]
      have lB : (hA'.set g (.lst ((gs.set j.toNat (cell / limit)).map .int))).length = h.length := by rw [List.length_set]; exact lA
      have f1 := fin_same (h := h) (h2 := hA'.set g (.lst ((gs.set j.toNat (cell / limit)).map .int))) (d := .int (cell % limit)) rfl lB
      refine ⟨cell % limit, hA'.set g (.lst ((gs.set j.toNat (cell / limit)).map .int)), ?_, Int.emod_nonneg _ (by omega), Int.emod_lt_of_pos _ (by omega), ?_, ?_, lB⟩
      · simp only [d__law_draw, fnD_eq, svSeq_eq, svAsg_eq, startE_eq]
        simp [d1, p1, d2, opd, hg, lg', mo, ig, hc, opFdiv_at (a := cell) hA' (by omega : 0 < limit) (by omega), sb, opMod_at (a := cell) _ (by omega : 0 < limit), f1, -List.map_set]
      · refine ⟨⟨spot + 1, cells, gs.set j.toNat (cell / limit), ?_, by omega, by omega, ?_, a5, ?_⟩, ne⟩
        · rw [List.getElem?_set_ne (Ne.symm mg)]; exact b1
        · rw [List.getElem?_set_ne (Ne.symm ne)]; exact b4
        · rw [List.getElem?_set_self (by rw [lA]; exact (List.getElem?_eq_some_iff.mp a6).1)]
      · exact FA.trans ⟨by rw [List.length_set]; exact Nat.le_refl _, fun i h0 hi => by rw [List.getElem?_set_ne (by omega)]⟩
    · refine ⟨v2 % limit, hA', ?_, r0, r1, IA, FA, lA⟩
      simp only [d__law_draw, fnD_eq, svSeq_eq, svAsg_eq, startE_eq]
      simp [d1, p1, d2, opd, hg, lg', mo, ig, hc]
      simpa using congrArg (fun z => Fl.fin z h) (tail (some (.ref g)) (some (.int j)) (some (.int cell))) |>.trans f0
end BW

set_option Elab.async false
set_option linter.all false
set_option maxRecDepth 100000
set_option maxHeartbeats 4000000
namespace BW
open PySem
theorem enumD_get {xs : List D} {i : Nat} {d : D} (h : (enumD xs)[i]? = some d) : ∃ x, xs[i]? = some x ∧ d = .tup [.int i, x] := by
  simp only [enumD, List.getElem?_mapIdx, Option.map_eq_some_iff] at h
  obtain ⟨x, h1, rfl⟩ := h
  exact ⟨x, h1, rfl⟩
@[simp] theorem enumD_length (xs : List D) : (enumD xs).length = xs.length := by simp [enumD]
theorem ix_cells {h : AH} {f : Nat} {cells : List Int} (e : h[f]? = some (.lst (cells.map .int))) {j : Int} (h0 : 0 ≤ j) (h1 : j < cells.length) : opIx h (.ref f) (.int j) = some (.int (at0 cells j.toNat)) := by
  rw [opIx_ref e]
  exact atI_word h0 h1
theorem folded_is (ns : List Int) (h : AH) : ∃ cells : List Int, cells.length = 64 ∧ d__law_folded [.rl (ns.map .int)] h = .ok (.ref h.length) (h ++ [.lst (cells.map .int)]) := by
  have e1 : evLc (ivBy [(evC (.int 64))] kR1) (Tgt.own (.one 2)) (Tgt.gv (.one 2)) tvYes (evOp opAdd (evC (.int 17)) (evVar 2)) [some (.rl (ns.map .int)), none, none, none] h = .ok (.tl (((List.range 64).map fun (i : Nat) => (17 + (i : Int))).map .int)) h := by
    have e : lcGo none (Tgt.gv (.one 2)) tvYes (evOp opAdd (evC (.int 17)) (evVar 2)) [some (.rl (ns.map .int)), none, none, none] (rangeD 0 64) h = .ok (((List.range 64).map fun (i : Nat) => (17 + (i : Int))).map .int) h := by
      rw [List.map_map]
      refine lcGo_rangeM _ _ _ rfl fun i hi => ⟨_, rfl, ?_⟩
      simp [Tgt.gv]
    have lt : (rangeD 0 64).length < 16777216 := by rw [rangeD_length]; decide
    rw [evLc_eq, ivBy_eq, evs_cons, evC_eq, bind_ok, evs_nil, bind_ok, bind_ok, kR1_at h (by omega) (by omega), bind_ok]
    dsimp only [Tgt.own, wipeE, List.set_cons_succ, List.set_cons_zero]
    rw [show (64 : Int).toNat = 64 from rfl, if_pos lt, e, bind_ok]
  obtain ⟨e2, h2, a1, cells, x2, x3, he2, hh2, hl2⟩ := forGo_inv (g := none) (gv := gvTup [(gvName 2), (gvName 3)]) (h := h ++ [.lst (((List.range 64).map fun (i : Nat) => (17 + (i : Int))).map .int)])
    (body := svAsg (evOp opMod (evB bInt [(evOp opAdd (evOp opMul (evOp opIx (evVar 1) (evOp opMod (evB bInt [(evVar 2)]) (evC (.int 64)))) (evC (.int 48271))) (evVar 3))]) (evC (.int 2147483647))) (gvSubL (evVar 1) (evOp opMod (evB bInt [(evVar 2)]) (evC (.int 64)))))
    (fun i e h' => ∃ (cells : List Int) (x2 x3 : Option D), e = [some (.rl (ns.map .int)), some (.ref h.length), x2, x3] ∧ h' = h ++ [.lst (cells.map .int)] ∧ cells.length = 64) (enumD (ns.map .int))
    (fun _ _ _ _ _ => rfl) (fun i d e h' hd ⟨cells, x2, x3, he, hh, hl⟩ => by
      subst he hh
      obtain ⟨x, hx, rfl⟩ := enumD_get hd
      rw [List.getElem?_map] at hx
      obtain ⟨cell, _, rfl⟩ := Option.map_eq_some_iff.mp hx
      have g1 : (h ++ [AO.lst (cells.map .int)])[h.length]? = some (.lst (cells.map .int)) := by simp
      have j0 : 0 ≤ (i : Int) % 64 := by omega
      have j1 : (i : Int) % 64 < 64 := by omega
      generalize hj : (i : Int) % 64 = j at *
      have i1 := ix_cells g1 j0 (by omega)
      have sb := fun v : Int => subL_eq (fo := evVar 1) (fi := evOp opMod (evB bInt [(evVar 2)]) (evC (.int 64))) (d := .int v) (e := [some (.rl (ns.map .int)), some (.ref h.length), some (.int i), some (.int cell)]) (h := h ++ [AO.lst (cells.map .int)]) (n := h.length) (k := j) rfl (by simp [opMod_at, hj]) g1 j0 (by simp; omega)
      refine ⟨_, _, _, _, rfl, ?_, cells.set j.toNat ((at0 cells j.toNat * 48271 + cell) % 2147483647), some (.int i), some (.int cell), rfl, rfl, by simp [hl]⟩
      simp [opMod_at, hj, i1, sm2 (b := 48271) (by omega) (by omega), sb, List.map_set]) (e := [some (.rl (ns.map .int)), some (.ref h.length), none, none]) ⟨_, _, _, rfl, rfl, by simp⟩
  subst he2 hh2
  obtain ⟨e3, h3, a3, cells3, x2, x3, he3, hh3, hl3⟩ := forGo_inv (g := none) (gv := gvName 2) (h := h ++ [.lst (cells.map .int)])
    (body := svAsg (evOp opMod (evB bInt [(evOp opAdd (evOp opIx (evVar 1) (evVar 2)) (evOp opMul (evOp opIx (evVar 1) (evOp opSub (evVar 2) (evC (.int 1)))) (evC (.int 16807))))]) (evC (.int 2147483647))) (gvSubL (evVar 1) (evVar 2)))
    (fun i e h' => ∃ (cells : List Int) (x2 x3 : Option D), e = [some (.rl (ns.map .int)), some (.ref h.length), x2, x3] ∧ h' = h ++ [.lst (cells.map .int)] ∧ cells.length = 64) (rangeD 1 63)
    (fun _ _ _ _ _ => rfl) (fun i d e h' hd ⟨cells, x2, x3, he, hh, hl⟩ => by
      subst he hh
      obtain ⟨hi, rfl⟩ := rangeD_get hd
      have g1 : (h ++ [AO.lst (cells.map .int)])[h.length]? = some (.lst (cells.map .int)) := by simp
      have i1 := ix_cells g1 (j := 1 + (i : Int)) (by omega) (by omega)
      have i2 := ix_cells g1 (j := 1 + (i : Int) - 1) (by omega) (by omega)
      have sb := fun v : Int => subL_eq (fo := evVar 1) (fi := evVar 2) (d := .int v) (e := [some (.rl (ns.map .int)), some (.ref h.length), some (.int (1 + (i : Int))), x3]) (h := h ++ [AO.lst (cells.map .int)]) (n := h.length) (k := 1 + (i : Int)) rfl rfl g1 (by omega) (by simp; omega)
      refine ⟨_, _, _, _, rfl, ?_, cells.set (1 + (i : Int)).toNat ((at0 cells (1 + (i : Int)).toNat + at0 cells (1 + (i : Int) - 1).toNat * 16807) % 2147483647), some (.int (1 + (i : Int))), x3, rfl, rfl, by simp [hl]⟩
      simp [opMod_at, i1, i2, sm2 (b := 16807) (by omega) (by omega), sb, List.map_set]) (e := [some (.rl (ns.map .int)), some (.ref h.length), x2, x3]) ⟨_, _, _, rfl, rfl, hl2⟩
  subst he3 hh3
  refine ⟨cells3, hl3, ?_⟩
  have k1 : kEnum [.rl (ns.map .int)] (h ++ [AO.lst (((List.range 64).map fun (i : Nat) => (17 + (i : Int))).map .int)]) = .ok { xs := enumD (ns.map .int) } (h ++ [AO.lst (((List.range 64).map fun (i : Nat) => (17 + (i : Int))).map .int)]) := rfl
  have k2 := kR2_at (a := 1) (b := 64) (h ++ [AO.lst (cells.map .int)]) (by omega) (by omega) (by omega) (by omega)
  rw [show ((64 : Int) - 1).toNat = 63 from rfl] at k2
  have f9 : BW.fin h (.ref h.length) (h ++ [AO.lst (cells3.map .int)]) = .ok (.ref h.length) (h ++ [AO.lst (cells3.map .int)]) := by
    unfold BW.fin
    simp [D.lt]
  simp only [d__law_folded, fnD_eq, svSeq_eq, startE_eq]
  simp only [List.map_cons, List.map_nil, List.length_cons, List.length_nil, List.cons_append, List.nil_append, List.replicate, svSeq_eq, svAsg_eq, pv_eq, e1, bind_ok, promote_tl, toFl_ok, gvName_eq, nxE_ok, seq_nx, List.set_cons_succ, List.set_cons_zero, svFor_eq, ivBy_eq, evs_cons, evs_nil, evVar_eq, List.getElem?_cons_zero, List.getElem?_cons_succ, ofV_some, k1, a1, k2, evC_eq, a3, svRet_eq, fin_ret, f9]
theorem pow18 (h : AH) : opPow h (.int 10) (.int 18) = some (.int 1000000000000000000) := by
  show (if (0 : Int) ≤ 18 ∧ (18 : Int) ≤ 1000 ∧ (10 : Int).natAbs < 2 ^ 1000 then some (D.int (10 ^ (18 : Int).toNat)) else none) = _
  rw [if_pos (by decide)]
  rfl
theorem begun_is (ns : List Int) (hn : ns.length ≤ 63) : ∃ h, d__law_begun [.rl (ns.map .int)] [] = .ok (.ref 2) h ∧ MInv 2 0 3 0 h ∧ h.length = 4 := by
  obtain ⟨cells, hl, f1⟩ := folded_is ns []
  have f1' : d__law_folded [.rl (ns.map .int)] [] = .ok (.ref 0) [.lst (cells.map .int)] := f1
  have dp : evDisp [((evC (.str "cells")), (evCall d__law_folded [(evVar 0)])), ((evC (.str "great")), (evLst [])), ((evC (.str "spot")), (evC (.int 0)))] [some (.rl (ns.map .int)), none, none] [] =
      .ok (.ref 2) [.lst (cells.map .int), .lst [], .dk [(.inr "cells", .ref 0), (.inr "great", .ref 1), (.inr "spot", .int 0)]] := by
    have pr : evPairs [((evC (.str "cells")), (evCall d__law_folded [(evVar 0)])), ((evC (.str "great")), (evLst [])), ((evC (.str "spot")), (evC (.int 0)))] [some (.rl (ns.map .int)), none, none] [] =
        .ok [(.inr "cells", .ref 0), (.inr "great", .ref 1), (.inr "spot", .int 0)] [.lst (cells.map .int), .lst []] := by
      simp [evPairs, keyD, f1', promote]
    unfold evDisp
    rw [pr, bind_ok]
    rw [if_pos (by decide)]
    rfl
  have lc : evLc (ivSeq (evVar 0)) (Tgt.own (.one 2)) (Tgt.gv (.one 2)) tvYes (evIf (tvOf (evOp opGe (evVar 2) (evOp opPow (evC (.int 10)) (evC (.int 18))))) (evVar 2) (evC (.int 0))) [some (.rl (ns.map .int)), some (.ref 2), none] [.lst (cells.map .int), .lst [], .dk [(.inr "cells", .ref 0), (.inr "great", .ref 1), (.inr "spot", .int 0)]]
      = .ok (.tl ((ns.map fun c => if 1000000000000000000 ≤ c then c else 0).map .int)) [.lst (cells.map .int), .lst [], .dk [(.inr "cells", .ref 0), (.inr "great", .ref 1), (.inr "spot", .int 0)]] := by
    generalize [AO.lst (cells.map .int), .lst [], .dk [(.inr "cells", .ref 0), (.inr "great", .ref 1), (.inr "spot", .int 0)]] = hh
    have e : lcGo none (Tgt.gv (.one 2)) tvYes (evIf (tvOf (evOp opGe (evVar 2) (evOp opPow (evC (.int 10)) (evC (.int 18))))) (evVar 2) (evC (.int 0))) [some (.rl (ns.map .int)), some (.ref 2), none] (ns.map .int) hh = .ok ((ns.map fun c => if 1000000000000000000 ≤ c then c else 0).map .int) hh := by
      rw [List.map_map]
      refine lcGo_onM D.int _ _ rfl fun c hc => ⟨_, rfl, ?_⟩
      by_cases z : 1000000000000000000 ≤ c <;> simp [Tgt.gv, pow18, z]
    have lt : (ns.map D.int).length < 16777216 := by rw [List.length_map]; omega
    rw [evLc_eq, ivSeq_eq, evVar_eq, List.getElem?_cons_zero, ofV_some, bind_ok, itsOf_rl, its_some, bind_ok]
    dsimp only [Tgt.own, wipeE, List.set_cons_succ, List.set_cons_zero]
    rw [if_pos lt, e, bind_ok]
  have dpt : svDput (evVar 1) (evC (.str "great")) (evLc (ivSeq (evVar 0)) (Tgt.own (.one 2)) (Tgt.gv (.one 2)) tvYes (evIf (tvOf (evOp opGe (evVar 2) (evOp opPow (evC (.int 10)) (evC (.int 18))))) (evVar 2) (evC (.int 0)))) [some (.rl (ns.map .int)), some (.ref 2), none] [.lst (cells.map .int), .lst [], .dk [(.inr "cells", .ref 0), (.inr "great", .ref 1), (.inr "spot", .int 0)]]
      = .nx [some (.rl (ns.map .int)), some (.ref 2), none] [.lst (cells.map .int), .lst [], .dk [(.inr "cells", .ref 0), (.inr "great", .ref 3), (.inr "spot", .int 0)], .lst ((ns.map fun c => if 1000000000000000000 ≤ c then c else 0).map .int)] := by
    have pvE : pv (evLc (ivSeq (evVar 0)) (Tgt.own (.one 2)) (Tgt.gv (.one 2)) tvYes (evIf (tvOf (evOp opGe (evVar 2) (evOp opPow (evC (.int 10)) (evC (.int 18))))) (evVar 2) (evC (.int 0)))) [some (.rl (ns.map .int)), some (.ref 2), none] [.lst (cells.map .int), .lst [], .dk [(.inr "cells", .ref 0), (.inr "great", .ref 1), (.inr "spot", .int 0)]] = .ok (.ref 3) [.lst (cells.map .int), .lst [], .dk [(.inr "cells", .ref 0), (.inr "great", .ref 1), (.inr "spot", .int 0)], .lst ((ns.map fun c => if 1000000000000000000 ≤ c then c else 0).map .int)] := by rw [pv_eq, lc, bind_ok]; rfl
    have z := dput_eq (fo := evVar 1) (fi := evC (.str "great")) (n := 2) (k := .str "great") (q := Sum.inr "great") (d := .ref 3) (kvs := [(.inr "cells", .ref 0), (.inr "great", .ref 1), (.inr "spot", .int 0)]) (h1 := [.lst (cells.map .int), .lst [], .dk [(.inr "cells", .ref 0), (.inr "great", .ref 1), (.inr "spot", .int 0)], .lst ((ns.map fun c => if 1000000000000000000 ≤ c then c else 0).map .int)]) pvE rfl rfl rfl rfl (by simp)
    rw [z]
    rfl
  refine ⟨[.lst (cells.map .int), .lst [], .dk [(.inr "cells", .ref 0), (.inr "great", .ref 3), (.inr "spot", .int 0)], .lst ((ns.map fun c => if 1000000000000000000 ≤ c then c else 0).map .int)], ?_, ⟨⟨0, cells, ns.map fun c => if 1000000000000000000 ≤ c then c else 0, rfl, by omega, by omega, rfl, hl, rfl⟩, by decide⟩, rfl⟩
  have st : svAsg (evDisp [((evC (.str "cells")), (evCall d__law_folded [(evVar 0)])), ((evC (.str "great")), (evLst [])), ((evC (.str "spot")), (evC (.int 0)))]) (gvName 1) (startE 3 [.rl (ns.map .int)]) [] = .nx [some (.rl (ns.map .int)), some (.ref 2), none] [.lst (cells.map .int), .lst [], .dk [(.inr "cells", .ref 0), (.inr "great", .ref 1), (.inr "spot", .int 0)]] := by
    have : startE 3 [.rl (ns.map .int)] = [some (.rl (ns.map .int)), none, none] := rfl
    rw [this, svAsg_eq, pv_eq, dp, bind_ok]
    rfl
  rw [d__law_begun, fnD_eq, svSeq_eq, st, seq_nx, svSeq_eq, dpt, seq_nx]
  rfl
end BW

set_option Elab.async false
set_option linter.all false
set_option maxRecDepth 100000
set_option maxHeartbeats 4000000
namespace BW
open PySem
def RowsF (L : Nat) (h : AH) (r n : Nat) (M : Nat → Nat → Int) : Prop := ∃ ks : List Nat, ks.length = n ∧ ks.Nodup ∧ r ∉ ks ∧ L ≤ r ∧ (∀ k ∈ ks, L ≤ k) ∧ h[r]? = some (AO.lst (ks.map D.ref)) ∧ ∀ (i k : Nat), ks[i]? = some k → h[k]? = some (AO.lst (rowD n (M i)))
theorem RowsF.at_ {L : Nat} {h : AH} {r n : Nat} {M : Nat → Nat → Int} (R : RowsF L h r n M) : RowsAt h r n M := by
  obtain ⟨ks, a1, a2, a3, _, _, a4, a5⟩ := R
  exact ⟨ks, a1, a2, a3, a4, a5⟩
theorem RowsF.low {L L' : Nat} {h : AH} {r n : Nat} {M : Nat → Nat → Int} (R : RowsF L h r n M) (hL : L' ≤ L) : RowsF L' h r n M := by
  obtain ⟨ks, a1, a2, a3, b1, b2, a4, a5⟩ := R
  exact ⟨ks, a1, a2, a3, by omega, fun k hk => Nat.le_trans hL (b2 k hk), a4, a5⟩
theorem RowsF.frame {L lo : Nat} {h h' : AH} {r n : Nat} {M : Nat → Nat → Int} (R : RowsF L h r n M) (F : Frame lo h h') (hL : lo ≤ L) : RowsF L h' r n M := by
  obtain ⟨ks, a1, a2, a3, b1, b2, a4, a5⟩ := R
  exact ⟨ks, a1, a2, a3, b1, b2, F.at_ (by omega) a4, fun i k e => F.at_ (Nat.le_trans hL (b2 k (List.mem_of_getElem? e))) (a5 i k e)⟩
def upd2 (M : Nat → Nat → Int) (i j : Nat) (v : Int) : Nat → Nat → Int := fun a b => if a = i ∧ b = j then v else M a b
theorem rowD_set (n : Nat) (f : Nat → Int) (j : Nat) (v : Int) : (rowD n f).set j (.int v) = rowD n (fun b => if b = j then v else f b) := by
  refine List.ext_getElem? fun i => ?_
  rw [List.getElem?_set]
  by_cases hi : i < n
  · rw [rowD_get _ hi, rowD_length]
    by_cases h : j = i
    · subst h; rw [if_pos rfl, if_pos hi, rowD_get _ hi, if_pos rfl]
    · rw [if_neg h, rowD_get _ hi, if_neg (Ne.symm h)]
  · have e : ∀ g, (rowD n g)[i]? = none := fun g => List.getElem?_eq_none (by rw [rowD_length]; omega)
    rw [e, e, rowD_length]
    split
    · rename_i z; subst z; simp [hi]
    · rfl
theorem RowsF.put {L : Nat} {h : AH} {r n : Nat} {M : Nat → Nat → Int} (R : RowsF L h r n M) {i j : Nat} (hi : i < n) (v : Int) : ∃ k, L ≤ k ∧ opIx h (.ref r) (.int i) = some (.ref k) ∧ h[k]? = some (.lst (rowD n (M i))) ∧ RowsF L (h.set k (.lst ((rowD n (M i)).set j (.int v)))) r n (upd2 M i j v) := by
  obtain ⟨ks, a1, a2, a3, b1, b2, a4, a5⟩ := R
  have hk : i < ks.length := by omega
  have gk : ks[i]? = some ks[i] := List.getElem?_eq_getElem hk
  have mk := List.getElem_mem hk
  have e := a5 i _ gk
  refine ⟨ks[i], b2 _ mk, ?_, e, ks, a1, a2, a3, b1, b2, ?_, fun i' k' e' => ?_⟩
  · rw [opIx_ref a4]
    exact atI_get (by omega) (by simp [hk])
  · rw [List.getElem?_set_ne (fun z => a3 (by rw [← z]; exact mk))]; exact a4
  · by_cases hii : i' = i
    · subst hii
      have : k' = ks[i'] := by rw [gk] at e'; exact (Option.some.inj e').symm
      subst this
      rw [List.getElem?_set_self (List.getElem?_eq_some_iff.mp e).1, rowD_set]
      congr 3
      funext b
      simp [upd2]
    · have nk : ks[i] ≠ k' := fun z => by
        obtain ⟨h1, h2⟩ := List.getElem?_eq_some_iff.mp e'
        have := (List.getElem_inj a2).mp (h2.trans z.symm)
        exact hii this
      rw [List.getElem?_set_ne nk, a5 i' k' e']
      congr 3
      funext b
      simp [upd2, hii]
theorem MInv.set {m c g : Nat} {N : Int} {h : AH} (I : MInv m c g N h) {k : Nat} (o : AO) (hm : k ≠ m) (hc : k ≠ c) (hg : k ≠ g) : MInv m c g N (h.set k o) := by
  obtain ⟨⟨spot, cells, gs, a1, a2, a3, a4, a5, a6⟩, ne⟩ := I
  refine ⟨⟨spot, cells, gs, ?_, a2, a3, ?_, a5, ?_⟩, ne⟩
  · rw [List.getElem?_set_ne hm]; exact a1
  · rw [List.getElem?_set_ne hc]; exact a4
  · rw [List.getElem?_set_ne hg]; exact a6
theorem Frame.set {lo : Nat} {h h' : AH} (F : Frame lo h h') {k : Nat} (o : AO) (hk : h.length ≤ k) : Frame lo h (h'.set k o) :=
  ⟨by rw [List.length_set]; exact F.len, fun i h0 hi => by rw [List.getElem?_set_ne (by omega)]; exact F.keep i h0 hi⟩
def Kd (v : Int) : Prop := v = 2 ∨ v = 3 ∨ v = 4 ∨ v = 6 ∨ v = 0
end BW

set_option Elab.async false
set_option linter.all false
set_option maxRecDepth 100000
set_option maxHeartbeats 4000000
namespace BW
open PySem
def wD : AO := .dk [(.inl 2, .tup [.int 0, .int 0]), (.inl 3, .tup [.int 1, .int 1]), (.inl 4, .tup [.int 1, .int 2]), (.inl 6, .tup [.int 1, .int 3]), (.inl 0, .tup [.int 2, .int 2])]
theorem disp_is (e : Env) (h : AH) : evDisp [((evC (.int 2)), (evTup [(evC (.int 0)), (evC (.int 0))])), ((evC (.int 3)), (evTup [(evC (.int 1)), (evC (.int 1))])), ((evC (.int 4)), (evTup [(evC (.int 1)), (evC (.int 2))])), ((evC (.int 6)), (evTup [(evC (.int 1)), (evC (.int 3))])), ((evC (.int 0)), (evTup [(evC (.int 2)), (evC (.int 2))]))] e h = .ok (.ref h.length) (h ++ [wD]) := by
  have p : evPairs [((evC (.int 2)), (evTup [(evC (.int 0)), (evC (.int 0))])), ((evC (.int 3)), (evTup [(evC (.int 1)), (evC (.int 1))])), ((evC (.int 4)), (evTup [(evC (.int 1)), (evC (.int 2))])), ((evC (.int 6)), (evTup [(evC (.int 1)), (evC (.int 3))])), ((evC (.int 0)), (evTup [(evC (.int 2)), (evC (.int 2))]))] e h = .ok [(.inl 2, .tup [.int 0, .int 0]), (.inl 3, .tup [.int 1, .int 1]), (.inl 4, .tup [.int 1, .int 2]), (.inl 6, .tup [.int 1, .int 3]), (.inl 0, .tup [.int 2, .int 2])] h := by
    simp [evPairs, keyD]
  unfold evDisp
  rw [p, bind_ok, if_pos (by decide)]
  rfl
end BW

set_option Elab.async false
set_option linter.all false
set_option maxRecDepth 100000
set_option maxHeartbeats 4000000
namespace BW
open PySem
theorem append_eq {f g : Ev} {e : Env} {h h1 h2 : AH} {n : Nat} {xs0 xs : List D} {d : D} (hf : f e h = .ok (.ref n) h1) (h0 : h1[n]? = some (.lst xs0)) (hg : pv g e h1 = .ok d h2) (hx : h2[n]? = some (.lst xs)) (hl : xs.length ≤ 1000) :
    evAppend f g e h = .ok .non (h2.set n (.lst (xs ++ [d]))) := by
  unfold evAppend
  rw [hf]
  simp only [bind_ok, h0, hg, hx]
  rw [if_pos (Nat.lt_of_le_of_lt hl (by decide))]
theorem rep_one {h : AH} {n : Nat} (h1 : 1 ≤ n) (h6 : n ≤ 6) : opMul h (.tup [.int 1]) (.int n) = some (.tup ((List.replicate n (1 : Int)).map .int)) := by
  by_cases hn : n = 1
  · subst hn; rfl
  · have z : opMul h (.tup [.int 1]) (.int n) = (if (n : Int) = 1 then some (.tup [.int 1]) else if [D.int 1] ≠ [] ∧ 2 ≤ (n : Int) ∧ (n : Int) ≤ 1000 ∧ [D.int 1].length ≤ 1000 then some (.tup (List.replicate (n : Int).toNat [D.int 1]).flatten) else none) := rfl
    rw [z, if_neg (by omega), if_pos ⟨by simp, by omega, by omega, by simp⟩, Int.toNat_natCast]
    simp
end BW

set_option Elab.async false
set_option linter.all false
set_option maxRecDepth 100000
set_option maxHeartbeats 4000000
namespace BW
open PySem
theorem inKinds {v : Int} (kv : Kd v) (h : AH) (f : Ev) (e : Env) (h0 : AH) (hf : f e h0 = .ok (.int v) h) : evInG false [.int 2, .int 3, .int 4, .int 6, .int 0] f e h0 = .ok (.bl true) h := by
  unfold evInG
  rw [hf, bind_ok]
  rcases kv with rfl | rfl | rfl | rfl | rfl <;> rfl
theorem isBond_is {h : AH} {r n : Nat} {M : Nat → Nat → Int} (R : RowsAt h r n M) (T : Tab n M) {i j : Nat} (hi : i < n) (hj : j < n) : d_is_bond [.ref r, .int i, .int j] h = .ok (.bl true) h := by
  obtain ⟨k, i1, i2⟩ := R.ix (i := (i : Int)) (by omega) (by omega)
  have i3 := i2 (j : Int) (by omega) (by omega)
  rw [Int.toNat_natCast, Int.toNat_natCast] at i3
  obtain ⟨k', j1, j2⟩ := R.ix (i := (j : Int)) (by omega) (by omega)
  have j3 := j2 (i : Int) (by omega) (by omega)
  rw [Int.toNat_natCast, Int.toNat_natCast] at j3
  by_cases hij : i = j
  · subst hij
    rw [T.dia i hi] at i3
    simp [d_is_bond, fnD_eq, i1, i3]
  · have kv : Kd (M i j) := T.kind i j hi hj hij
    have sy := T.sym i j hi hj
    have hij' : ¬ (i : Int) = (j : Int) := by omega
    rw [sy] at kv i3
    have ik := inKinds kv h (evVar 3) [some (.ref r), some (.int i), some (.int j), some (.int (M j i))] h rfl
    simp [d_is_bond, fnD_eq, i1, i3, hij', hij, ik, j1, j3]
theorem needRows_is {h : AH} {r n : Nat} {M : Nat → Nat → Int} (R : RowsAt h r n M) (T : Tab n M) : d_need_rows [.ref r] h = .ok .non h := by
  have n1 := T.n1
  have n6 := T.n6
  obtain ⟨ks, ln, nd, nr, er, rr⟩ := id R
  have il : d_is_list [.ref r] h = .ok (.bl true) h := isList_ref er
  obtain ⟨e1, a1, x1, rfl⟩ := forGo_pure (g := some (r, .lst (ks.map .ref))) (gv := gvName 1) (h := h) (body := svIf (tvOr (tvNot (tvOf (evCall d_is_list [(evVar 1)]))) (tvOf (evOp opNe (evB bLen [(evVar 1)]) (evB bLen [(evVar 0)])))) (svRaise1 "BadBonds" (evC .non)) svNil)
    (fun e => ∃ x1, e = [some (.ref r), x1, none, none]) (ks.map .ref) (guardOk_some er) (fun d e hd ⟨x1, he⟩ => by
      subst he
      obtain ⟨k, hk, rfl⟩ := List.mem_map.mp hd
      obtain ⟨i, hi, hik⟩ := List.getElem_of_mem hk
      have g := rr i k (by rw [List.getElem?_eq_getElem hi, hik])
      refine ⟨_, [some (.ref r), some (.ref k), none, none], rfl, ?_, _, rfl⟩
      have l := bLen_ref g
      rw [rowD_length] at l
      simp [isList_ref g, l, R.len]) (e := [some (.ref r), none, none, none]) ⟨_, rfl⟩
  have k1 := kR1_at (n := n) h (by omega) (by omega)
  rw [Int.toNat_natCast] at k1
  obtain ⟨e2, a2, x2, x3, rfl⟩ := forGo_pure (g := none) (gv := gvName 2) (h := h) (body := svFor (ivBy [(evB bLen [(evVar 0)])] kR1) (gvName 3) (svIf (tvNot (tvOf (evCall d_is_bond [(evVar 0), (evVar 2), (evVar 3)]))) (svRaise1 "BadBonds" (evTup [(evOp opAdd (evVar 2) (evC (.int 1))), (evOp opAdd (evVar 3) (evC (.int 1)))])) svNil))
    (fun e => ∃ x2 x3, e = [some (.ref r), x1, x2, x3]) (rangeD 0 n) rfl (fun d e hd ⟨x2, x3, he⟩ => by
      subst he
      obtain ⟨i, hi, rfl⟩ := mem_rangeD.mp hd
      rw [Int.zero_add]
      obtain ⟨e3, a3, x3', rfl⟩ := forGo_pure (g := none) (gv := gvName 3) (h := h) (body := svIf (tvNot (tvOf (evCall d_is_bond [(evVar 0), (evVar 2), (evVar 3)]))) (svRaise1 "BadBonds" (evTup [(evOp opAdd (evVar 2) (evC (.int 1))), (evOp opAdd (evVar 3) (evC (.int 1)))])) svNil)
        (fun e => ∃ x3, e = [some (.ref r), x1, some (.int i), x3]) (rangeD 0 n) rfl (fun d e hd ⟨x3, he⟩ => by
          subst he
          obtain ⟨j, hj, rfl⟩ := mem_rangeD.mp hd
          rw [Int.zero_add]
          refine ⟨_, [some (.ref r), x1, some (.int i), some (.int j)], rfl, ?_, _, rfl⟩
          simp [isBond_is R T hi hj]) (e := [some (.ref r), x1, some (.int i), x3]) ⟨_, rfl⟩
      refine ⟨_, [some (.ref r), x1, some (.int i), x3'], rfl, ?_, _, _, rfl⟩
      have q : evs [evB bLen [evVar 0]] [some (.ref r), x1, some (.int i), x3] h = .ok [.int n] h := by simp [R.len]
      simp only [List.set_cons_succ, List.set_cons_zero, svFor_eq, ivBy_eq, q, bind_ok, k1, toFl_ok, a3]) (e := [some (.ref r), x1, none, none]) ⟨_, _, rfl⟩
  have c0 : ¬ n = 0 := by omega
  have c6 : ¬ (6 : Int) < (n : Int) := by omega
  have q : evs [evB bLen [evVar 0]] [some (.ref r), x1, none, none] h = .ok [.int n] h := by simp [R.len]
  have t1 : svIf (tvOr (tvNot (tvOf (evCall d_is_list [(evVar 0)]))) (tvOf (evOp opEq (evB bLen [(evVar 0)]) (evC (.int 0))))) (svRaise1 "BadBonds" (evC .non)) svNil [some (.ref r), none, none, none] h = .nx [some (.ref r), none, none, none] h := by
    simp [il, R.len, c0]
  have t2 : svIf (tvOf (evOp opGt (evB bLen [(evVar 0)]) (evC (.int 6)))) (svRaise1 "TooGreat" (evC (.int 6))) svNil [some (.ref r), none, none, none] h = .nx [some (.ref r), none, none, none] h := by
    simp [R.len, c6]
  have t3 : svFor (ivSeq (evVar 0)) (gvName 1) (svIf (tvOr (tvNot (tvOf (evCall d_is_list [(evVar 1)]))) (tvOf (evOp opNe (evB bLen [(evVar 1)]) (evB bLen [(evVar 0)])))) (svRaise1 "BadBonds" (evC .non)) svNil) [some (.ref r), none, none, none] h = .nx [some (.ref r), x1, none, none] h := by
    simp only [svFor_eq, ivSeq_eq, evVar_eq, List.getElem?_cons_zero, ofV_some, bind_ok, itsOf_ref er, its_some, toFl_ok, a1]
  have t4 : svFor (ivBy [(evB bLen [(evVar 0)])] kR1) (gvName 2) (svFor (ivBy [(evB bLen [(evVar 0)])] kR1) (gvName 3) (svIf (tvNot (tvOf (evCall d_is_bond [(evVar 0), (evVar 2), (evVar 3)]))) (svRaise1 "BadBonds" (evTup [(evOp opAdd (evVar 2) (evC (.int 1))), (evOp opAdd (evVar 3) (evC (.int 1)))])) svNil)) [some (.ref r), x1, none, none] h = .nx [some (.ref r), x1, x2, x3] h := by
    rw [svFor_eq, ivBy_eq, q, bind_ok, k1, toFl_ok]
    exact a2
  have st0 : startE 4 [.ref r] = [some (.ref r), none, none, none] := rfl
  rw [d_need_rows, fnD_eq, st0, svSeq_eq, t1, seq_nx, svSeq_eq, t2, seq_nx, svSeq_eq, t3, seq_nx, t4, fin_nx, fin_non]
theorem make_isP {h : AH} {r n : Nat} {M : Nat → Nat → Int} (R : RowsAt h r n M) (T : Tab n M) {f : Ev} {e : Env} {h0 : AH} (hf : pv f e h0 = .ok (.ref r) h) : evMake "Bonds" d_Bonds___init__ [f] e h0 = .ok (.ref h.length) (h ++ [.sins "Bonds" [some (.tup (tabL n M))]]) := by
  have n6 := T.n6
  have R' := R.app [.ins "Bonds" []]
  obtain ⟨ks, ln, nd, nr, er, rr⟩ := id R'
  have lcE : evLc (ivSeq (evVar 1)) (Tgt.own (.one 2)) (Tgt.gv (.one 2)) tvYes (evB bTuple [(evVar 2)]) [some (.ref h.length), some (.ref r), none] (h ++ [.ins "Bonds" []]) = .ok (.tl (tabL n M)) (h ++ [.ins "Bonds" []]) := by
    have e1 : lcGo (some (r, .lst (ks.map .ref))) (Tgt.gv (.one 2)) tvYes (evB bTuple [(evVar 2)]) [some (.ref h.length), some (.ref r), none] (ks.map .ref) (h ++ [.ins "Bonds" []]) = .ok (tabL n M) (h ++ [.ins "Bonds" []]) := by
      obtain ⟨ys, h', a, rfl, hy⟩ := lcGo_inv (g := some (r, .lst (ks.map .ref))) (gv := Tgt.gv (.one 2)) (tt := tvYes) (elt := evB bTuple [(evVar 2)]) (e := [some (.ref h.length), some (.ref r), none]) (h := h ++ [.ins "Bonds" []])
        (fun i l h' => h' = h ++ [.ins "Bonds" []] ∧ l = (List.range i).map fun i => .tup (rowD n (M i))) (ks.map .ref) (fun _ _ _ _ z => by rw [z.1]; exact guardOk_some er)
        (fun i d l h' hd ⟨hh, hl⟩ => by
          rw [List.getElem?_map] at hd
          obtain ⟨k, hk, rfl⟩ := Option.map_eq_some_iff.mp hd
          have g := rr i k hk
          subst hh hl
          refine ⟨_, _, rfl, .inr ⟨_, .tup (rowD n (M i)), _, rfl, ?_, rfl, by simp [List.range_succ]⟩⟩
          simp [Tgt.gv, bTuple_ref g]) ⟨rfl, rfl⟩
      rw [a, hy, List.length_map, ln]
      rfl
    have lt : (ks.map D.ref).length < 16777216 := by rw [List.length_map]; omega
    rw [evLc_eq, ivSeq_eq]
    simp only [evVar_eq, List.getElem?_cons_zero, List.getElem?_cons_succ, ofV_some, bind_ok, itsOf_ref er, its_some]
    rw [if_pos lt]
    have e' : lcGo _ _ _ _ (wipeE [some (.ref h.length), some (.ref r), none] (Tgt.own (.one 2))) _ _ = _ := e1
    rw [e', bind_ok]
  have gi : (h ++ [AO.ins "Bonds" []])[h.length]? = some (.ins "Bonds" []) := by simp
  have sl : svSlot "Bonds" (evVar 0) (evB bTuple [(evLc (ivSeq (evVar 1)) (Tgt.own (.one 2)) (Tgt.gv (.one 2)) tvYes (evB bTuple [(evVar 2)]))]) [some (.ref h.length), some (.ref r), none] (h ++ [.ins "Bonds" []]) = .nx [some (.ref h.length), some (.ref r), none] (h ++ [.sins "Bonds" [some (.tup (tabL n M))]]) := by
    unfold svSlot
    have z : pv (evB bTuple [(evLc (ivSeq (evVar 1)) (Tgt.own (.one 2)) (Tgt.gv (.one 2)) tvYes (evB bTuple [(evVar 2)]))]) [some (.ref h.length), some (.ref r), none] (h ++ [.ins "Bonds" []]) = .ok (.tup (tabL n M)) (h ++ [.ins "Bonds" []]) := by
      rw [pv_eq, evB_eq, evs_cons, lcE]
      simp
    rw [z, toFl_ok, evVar_eq]
    simp only [List.getElem?_cons_zero, ofV_some, toFl_ok]
    rw [if_pos gi]
    simp
  have ini : d_Bonds___init__ [.ref h.length, .ref r] (h ++ [.ins "Bonds" []]) = .ok .non (h ++ [.sins "Bonds" [some (.tup (tabL n M))]]) := by
    have st0 : startE 3 [.ref h.length, .ref r] = [some (.ref h.length), some (.ref r), none] := rfl
    have f9 := fin_same (h := h ++ [AO.ins "Bonds" []]) (h2 := h ++ [AO.sins "Bonds" [some (.tup (tabL n M))]]) (d := .non) rfl (by simp)
    have t1 : svExpr (evCall d_need_rows [(evVar 1)]) [some (.ref h.length), some (.ref r), none] (h ++ [.ins "Bonds" []]) = .nx [some (.ref h.length), some (.ref r), none] (h ++ [.ins "Bonds" []]) := by
      simp [needRows_is R' T]
    rw [d_Bonds___init__, fnD_eq, st0, svSeq_eq, t1, seq_nx, sl, fin_nx, f9]
  unfold evMake
  simp only [evsV_cons, evsV_nil, hf, bind_ok, ini]
theorem make_is {h : AH} {r n : Nat} {M : Nat → Nat → Int} (R : RowsAt h r n M) (T : Tab n M) {f : Ev} {e : Env} {h0 : AH} (hf : f e h0 = .ok (.ref r) h) : evMake "Bonds" d_Bonds___init__ [f] e h0 = .ok (.ref h.length) (h ++ [.sins "Bonds" [some (.tup (tabL n M))]]) :=
  make_isP R T (by rw [pv_eq, hf]; rfl)
end BW

set_option Elab.async false
set_option linter.all false
set_option maxRecDepth 100000
set_option maxHeartbeats 4000000
namespace BW
open PySem
end BW

set_option Elab.async false
set_option linter.all false
set_option maxRecDepth 100000
set_option maxHeartbeats 4000000
namespace BW
open PySem
end BW

set_option Elab.async false
set_option linter.all false
set_option maxRecDepth 100000
set_option maxHeartbeats 4000000
namespace BW
open PySem
theorem seq_step {a b : Sv} {e e' : Env} {h h' : AH} (ha : a e h = .nx e' h') : svSeq a b e h = b e' h' := by
  rw [svSeq_eq, ha, seq_nx]
def kd (p : Str × Bool) : D := .tup [.str p.1, .bl p.2]
end BW

set_option Elab.async false
set_option linter.all false
set_option maxRecDepth 100000
set_option maxHeartbeats 4000000
namespace BW
open PySem
end BW

set_option Elab.async false
set_option linter.all false
set_option maxRecDepth 100000
set_option maxHeartbeats 4000000
namespace BW
open PySem
end BW

set_option Elab.async false
set_option linter.all false
set_option maxRecDepth 100000
set_option maxHeartbeats 4000000
namespace BW
open PySem
end BW

set_option Elab.async false
set_option linter.all false
set_option maxRecDepth 100000
set_option maxHeartbeats 4000000
namespace BW
open PySem
theorem dataK_word (h : AH) (n : Nat) (w : List Int) : dataK h (n + 1) (.tup (w.map .int)) = some (.tuple (w.map .int)) := by
  show (allK (dataK h n) (w.map D.int)).map PyData.tuple = _
  rw [dataK_ints]; rfl
theorem dataK_ref {h : AH} {k : Nat} {xs : List D} {ps : List PyData} (n : Nat) (e : h[k]? = some (.lst xs)) (hx : allK (dataK h n) xs = some ps) : dataK h (n + 1) (.ref k) = some (.list ps) := by
  simp only [dataK, e, hx]; rfl
@[simp] theorem bList_tup (h : AH) (xs : List D) : bList h [.tup xs] = some (.tl xs) := nrfl rfl
end BW

set_option Elab.async false
set_option linter.all false
namespace Cox
inductive Pr : Nat → Int → Int → Prop
  | b2 : Pr 2 0 0
  | b3 : Pr 3 1 1
  | b4 : Pr 4 1 2
  | b4' : Pr 4 2 1
  | b6 : Pr 6 1 3
  | b6' : Pr 6 3 1
  | b0 : Pr 0 2 2
structure Sys where
  m : Nat → Nat → Nat
  w : Nat → Nat → Int
  own : ∀ a, w a a = -2
  sym : ∀ a b, m a b = m b a
  pr : ∀ a b, a ≠ b → Pr (m a b) (w a b) (w b a)
abbrev Rw := Nat → Int
abbrev Wd := List Nat
namespace Sys
variable (S : Sys)
def press (a : Nat) (r : Rw) : Rw := fun b => r b + S.w a b * r a
def pw : Wd → Rw → Rw
  | [], r => r
  | a :: u, r => pw u (S.press a r)
end Sys
def alt (a b : Nat) : Nat → Wd
  | 0 => []
  | k + 1 => a :: alt b a k
@[simp] theorem alt_len : ∀ (k a b : Nat), (alt a b k).length = k
  | 0, _, _ => rfl
  | k + 1, a, b => by simp [alt, alt_len k b a]
inductive Alike (S : Sys) : Wd → Wd → Prop
  | refl (u : Wd) : Alike S u u
  | symm {u v : Wd} : Alike S u v → Alike S v u
  | trans {u v x : Wd} : Alike S u v → Alike S v x → Alike S u x
  | out (x y : Wd) (a : Nat) : Alike S (x ++ a :: a :: y) (x ++ y)
  | turn (x y : Wd) (a b : Nat) : a ≠ b → Alike S (x ++ alt a b (S.m a b) ++ y) (x ++ alt b a (S.m a b) ++ y)
section
open Sys
variable {S : Sys}
theorem pw_append (u v : Wd) (r : Rw) : S.pw (u ++ v) r = S.pw v (S.pw u r) := by
  induction u generalizing r with
  | nil => rfl
  | cons a u ih => exact ih _
theorem press_twice (a : Nat) (r : Rw) : S.press a (S.press a r) = r := by
  funext b
  simp only [Sys.press, S.own]
  grind
theorem braid (a b : Nat) (h : a ≠ b) (r : Rw) : S.pw (alt a b (S.m a b)) r = S.pw (alt b a (S.m a b)) r := by
  have p := S.pr a b h
  generalize hm : S.m a b = m at *
  generalize hx : S.w a b = x at *
  generalize hy : S.w b a = y at *
  funext c
  cases p <;> simp only [alt, Sys.pw, Sys.press, S.own, hx, hy] <;> grind
theorem Alike.pw {u v : Wd} (h : Alike S u v) (r : Rw) : S.pw u r = S.pw v r := by
  induction h generalizing r with
  | refl => rfl
  | symm _ ih => exact (ih r).symm
  | trans _ _ i j => exact (i r).trans (j r)
  | out x y a => rw [pw_append, pw_append]; show S.pw y (S.press a (S.press a _)) = _; rw [press_twice]
  | turn x y a b h => rw [pw_append, pw_append, pw_append, pw_append, braid a b h]
theorem Alike.par {u v : Wd} (h : Alike S u v) : u.length % 2 = v.length % 2 := by
  induction h with
  | refl => rfl
  | symm _ ih => exact ih.symm
  | trans _ _ i j => exact i.trans j
  | out x y a => simp; omega
  | turn x y a b h => simp
theorem Alike.left (x : Wd) {u v : Wd} (h : Alike S u v) : Alike S (x ++ u) (x ++ v) := by
  induction h with
  | refl => exact .refl _
  | symm _ ih => exact ih.symm
  | trans _ _ i j => exact i.trans j
  | out y z a => have := Alike.out (S := S) (x ++ y) z a; simpa using this
  | turn y z a b h => have := Alike.turn (S := S) (x ++ y) z a b h; simpa using this
theorem Alike.right (x : Wd) {u v : Wd} (h : Alike S u v) : Alike S (u ++ x) (v ++ x) := by
  induction h with
  | refl => exact .refl _
  | symm _ ih => exact ih.symm
  | trans _ _ i j => exact i.trans j
  | out y z a => have := Alike.out (S := S) y (z ++ x) a; simpa using this
  | turn y z a b h => have := Alike.turn (S := S) y (z ++ x) a b h; simpa using this
theorem Alike.app {u v x y : Wd} (h : Alike S u v) (g : Alike S x y) : Alike S (u ++ x) (v ++ y) := (h.right x).trans (g.left v)
theorem alt_snoc : ∀ (k a b : Nat), alt a b (k + 1) = alt a b k ++ [if k % 2 = 0 then a else b]
  | 0, a, b => rfl
  | k + 1, a, b => by
    rw [alt, alt_snoc k b a, alt]
    simp only [List.cons_append]
    congr 2
    by_cases h : k % 2 = 0 <;> simp [h] <;> omega
theorem alt_rev : ∀ (k a b : Nat), (alt a b k).reverse = if k % 2 = 0 then alt b a k else alt a b k
  | 0, a, b => by simp [alt]
  | k + 1, a, b => by
    rw [alt, List.reverse_cons, alt_rev k b a]
    by_cases h : k % 2 = 0
    · rw [if_pos h, if_neg (by omega)]
      show _ = alt a b (k + 1)
      rw [alt_snoc, if_pos h]
    · rw [if_neg h, if_pos (by omega)]
      rw [alt_snoc, if_neg h]
theorem Alike.rev {u v : Wd} (h : Alike S u v) : Alike S u.reverse v.reverse := by
  induction h with
  | refl => exact .refl _
  | symm _ ih => exact ih.symm
  | trans _ _ i j => exact i.trans j
  | out y z a => have := Alike.out (S := S) z.reverse y.reverse a; simpa using this
  | turn y z a b h =>
    simp only [List.reverse_append, alt_rev]
    by_cases e : S.m a b % 2 = 0
    · simp only [if_pos e]
      have := Alike.turn (S := S) z.reverse y.reverse b a (Ne.symm h)
      rw [S.sym b a] at this
      simpa using this
    · simp only [if_neg e]
      have := Alike.turn (S := S) z.reverse y.reverse a b h
      simpa using this
theorem undo_right : ∀ (u : Wd), Alike S (u ++ u.reverse) []
  | [] => .refl _
  | a :: u => by
    have h := (undo_right u).left [a]
    have g := h.right [a]
    have o := Alike.out (S := S) [] [] a
    simp only [List.reverse_cons, List.cons_append, List.nil_append, List.append_assoc] at *
    exact g.trans o
theorem undo_left (u : Wd) : Alike S (u.reverse ++ u) [] := by
  have := undo_right (S := S) u.reverse
  rwa [List.reverse_reverse] at this
def Short (S : Sys) (u : Wd) : Prop := ∀ v, Alike S u v → u.length ≤ v.length
theorem ex_short (S : Sys) (u : Wd) : ∃ v, Alike S u v ∧ Short S v := by
  suffices z : ∀ n (u : Wd), u.length ≤ n → ∃ v, Alike S u v ∧ Short S v from z u.length u (Nat.le_refl _)
  intro n
  induction n with
  | zero => exact fun u h => ⟨u, .refl _, fun v _ => by omega⟩
  | succ n ih =>
    intro u h
    by_cases s : Short S u
    · exact ⟨u, .refl _, s⟩
    · have ⟨v, s⟩ := Classical.not_forall.mp s
      have ⟨s1, s2⟩ := Classical.not_imp.mp s
      obtain ⟨x, a, b⟩ := ih v (by omega)
      exact ⟨x, s1.trans a, b⟩
noncomputable def ell (S : Sys) (u : Wd) : Nat := (Classical.choose (ex_short S u)).length
theorem ell_of {u v : Wd} (h : Alike S u v) (s : Short S v) : ell S u = v.length := by
  have ⟨a, b⟩ := Classical.choose_spec (ex_short S u)
  exact Nat.le_antisymm (b _ (a.symm.trans h)) (s _ (h.symm.trans a))
theorem ell_ex (S : Sys) (u : Wd) : ∃ v, Alike S u v ∧ Short S v ∧ v.length = ell S u :=
  have ⟨a, b⟩ := Classical.choose_spec (ex_short S u)
  ⟨_, a, b, rfl⟩
theorem ell_le (u : Wd) : ell S u ≤ u.length := by
  obtain ⟨v, a, b, c⟩ := ell_ex S u
  rw [← c]; exact b _ a.symm
theorem ell_short {u : Wd} (h : Short S u) : ell S u = u.length := ell_of (.refl _) h
theorem ell_congr {u v : Wd} (h : Alike S u v) : ell S u = ell S v := by
  obtain ⟨x, a, b, c⟩ := ell_ex S v
  rw [ell_of (h.trans a) b, c]
theorem short_of_ell {u : Wd} (h : ell S u = u.length) : Short S u := fun v a => by
  rw [← h, ell_congr a]; exact ell_le v
theorem ell_par (u : Wd) : ell S u % 2 = u.length % 2 := by
  obtain ⟨v, a, b, c⟩ := ell_ex S u
  rw [← c]; exact a.par.symm
theorem ell_app (u v : Wd) : ell S (u ++ v) ≤ ell S u + ell S v := by
  obtain ⟨x, a1, a2, a3⟩ := ell_ex S u
  obtain ⟨y, b1, b2, b3⟩ := ell_ex S v
  rw [ell_congr (a1.app b1), ← a3, ← b3, ← List.length_append]; exact ell_le _
theorem ell_rev (u : Wd) : ell S u.reverse = ell S u := by
  have le : ∀ u, ell S u.reverse ≤ ell S u := fun u => by
    obtain ⟨v, a, b, c⟩ := ell_ex S u
    rw [ell_congr a.rev, ← c, ← List.length_reverse (as := v)]; exact ell_le _
  have := le u.reverse
  rw [List.reverse_reverse] at this
  exact Nat.le_antisymm (le u) this
@[simp] theorem ell_nil : ell S [] = 0 := Nat.le_zero.mp (ell_le (S := S) [])
theorem ell_one_le (a : Nat) : ell S [a] ≤ 1 := ell_le (S := S) [a]
theorem out_end (u : Wd) (s : Nat) : Alike S (u ++ [s] ++ [s]) u := by
  have := Alike.out (S := S) u [] s
  simpa using this
theorem ell_step (u : Wd) (s : Nat) : ell S (u ++ [s]) = ell S u + 1 ∨ ell S u = ell S (u ++ [s]) + 1 := by
  have h1 := ell_app (S := S) u [s]
  have h2 := ell_app (S := S) (u ++ [s]) [s]
  have h3 := ell_one_le (S := S) s
  rw [ell_congr (out_end u s)] at h2
  have p1 := ell_par (S := S) u
  have p2 := ell_par (S := S) (u ++ [s])
  simp at p2
  omega
theorem Short.pre {u v : Wd} (h : Short S (u ++ v)) : Short S u := fun x a => by
  have := h _ (a.right v)
  simp at this; omega
theorem ell_zero {u : Wd} (h : ell S u = 0) : Alike S u [] := by
  obtain ⟨v, a, b, c⟩ := ell_ex S u
  rw [h] at c
  rw [List.length_eq_zero_iff.mp c] at a
  exact a
end
end Cox

set_option Elab.async false
set_option linter.all false
namespace Cox
section
open Sys
variable {S : Sys}
def nxt (c d j : Nat) : Nat := if j % 2 = 0 then c else d
theorem nxt_succ (c d j : Nat) : nxt c d (j + 1) = nxt d c j := by
  unfold nxt
  by_cases h : j % 2 = 0 <;> simp [h] <;> omega
theorem alt_succ' (c d j : Nat) : alt c d (j + 1) = alt c d j ++ [nxt c d j] := alt_snoc j c d
theorem rank0 {c d : Nat} (h1 : S.w c d = 2) (h2 : S.w d c = 2) : ∀ (j : Nat) (r : Rw), S.pw (alt c d j) r (nxt c d j) = ((j : Int) + 1) * r c + j * r d
  | 0, r => by simp [alt, Sys.pw, nxt]
  | j + 1, r => by
    rw [alt, Sys.pw, nxt_succ, rank0 h2 h1 j]
    simp only [Sys.press, h1, S.own]
    grind
theorem rank2 {c d : Nat} (h : c ≠ d) (j : Nat) (hj : S.m c d = 0 ∨ j < S.m c d) (r : Rw) (hc : 0 < r c) (hd : 0 < r d) : 0 < S.pw (alt c d j) r (nxt c d j) := by
  have p := S.pr c d h
  generalize hm : S.m c d = m at *
  generalize hx : S.w c d = x at *
  generalize hy : S.w d c = y at *
  cases p with
  | b0 =>
    rw [rank0 hx hy]
    have : 0 ≤ (j : Int) * r d := Int.mul_nonneg (by omega) (by omega)
    have : 0 < ((j : Int) + 1) * r c := Int.mul_pos (by omega) hc
    omega
  | b2 =>
    have : j = 0 ∨ j = 1 := by omega
    rcases this with rfl | rfl <;> simp [alt, Sys.pw, Sys.press, nxt, S.own, hx, hy] <;> omega
  | b3 =>
    have : j = 0 ∨ j = 1 ∨ j = 2 := by omega
    rcases this with rfl | rfl | rfl <;> simp [alt, Sys.pw, Sys.press, nxt, S.own, hx, hy] <;> omega
  | b4 =>
    have : j = 0 ∨ j = 1 ∨ j = 2 ∨ j = 3 := by omega
    rcases this with rfl | rfl | rfl | rfl <;> simp [alt, Sys.pw, Sys.press, nxt, S.own, hx, hy] <;> omega
  | b4' =>
    have : j = 0 ∨ j = 1 ∨ j = 2 ∨ j = 3 := by omega
    rcases this with rfl | rfl | rfl | rfl <;> simp [alt, Sys.pw, Sys.press, nxt, S.own, hx, hy] <;> omega
  | b6 =>
    have : j = 0 ∨ j = 1 ∨ j = 2 ∨ j = 3 ∨ j = 4 ∨ j = 5 := by omega
    rcases this with rfl | rfl | rfl | rfl | rfl | rfl <;> simp [alt, Sys.pw, Sys.press, nxt, S.own, hx, hy] <;> omega
  | b6' =>
    have : j = 0 ∨ j = 1 ∨ j = 2 ∨ j = 3 ∨ j = 4 ∨ j = 5 := by omega
    rcases this with rfl | rfl | rfl | rfl | rfl | rfl <;> simp [alt, Sys.pw, Sys.press, nxt, S.own, hx, hy] <;> omega
theorem alt_add : ∀ (i j c d : Nat), alt c d (i + j) = alt c d i ++ (if i % 2 = 0 then alt c d j else alt d c j)
  | 0, j, c, d => by simp [alt]
  | i + 1, j, c, d => by
    rw [show i + 1 + j = (i + j) + 1 by omega, alt, alt, alt_add i j d c]
    by_cases h : i % 2 = 0
    · rw [if_pos h, if_neg (by omega)]; rfl
    · rw [if_neg h, if_pos (by omega)]; rfl
theorem undo_end (v : Wd) (s : Nat) : Alike S (v ++ [s] ++ [s]) v := out_end v s
theorem ex_max (Q : Nat → Prop) (k : Nat) (hb : ∀ j, Q j → j ≤ k) {i : Nat} (h : Q i) : ∃ j, i ≤ j ∧ Q j ∧ ¬ Q (j + 1) := by
  suffices z : ∀ n i, k - i = n → Q i → ∃ j, i ≤ j ∧ Q j ∧ ¬ Q (j + 1) from z _ i rfl h
  intro n
  induction n with
  | zero => exact fun i e q => ⟨i, Nat.le_refl _, q, fun z => by have := hb _ z; omega⟩
  | succ n ih =>
    intro i e q
    by_cases z : Q (i + 1)
    · obtain ⟨j, a, b, c⟩ := ih (i + 1) (by omega) z
      exact ⟨j, by omega, b, c⟩
    · exact ⟨i, Nat.le_refl _, q, z⟩
theorem pos : ∀ (k : Nat) (u : Wd) (s : Nat), u.length = k → Short S u → ell S (u ++ [s]) = k + 1 → ∀ r : Rw, (∀ a, 0 < r a) → 0 < S.pw u r s := by
  intro k
  induction k using Nat.strongRecOn with
  | ind k ih =>
  intro u s hk hu hs r hr
  by_cases hz : k = 0
  · subst hz
    rw [List.length_eq_zero_iff.mp hk]
    exact hr s
  have hne : u ≠ [] := fun z => by rw [z] at hk; simp at hk; omega
  obtain ⟨u0, t, rfl⟩ : ∃ u0 t, u = u0 ++ [t] := ⟨u.dropLast, u.getLast hne, (List.dropLast_concat_getLast hne).symm⟩
  have hts : t ≠ s := fun z => by
    subst z
    have := ell_congr (S := S) (undo_end u0 t)
    have := ell_le (S := S) u0
    simp at hk
    omega
  simp at hk
  -- the longest stretch of s and t at the end
  obtain ⟨j, hj1, ⟨v, c, d, hcd, hal, hvj⟩, hmax⟩ := ex_max (fun j => ∃ v c d, ((c = s ∧ d = t) ∨ (c = t ∧ d = s)) ∧ Alike S (u0 ++ [t]) (v ++ alt c d j) ∧ v.length + j = k) k (fun j ⟨v, c, d, _, _, h⟩ => by omega) (i := 1) ⟨u0, t, s, .inr ⟨rfl, rfl⟩, .refl _, by omega⟩
  obtain ⟨i, rfl⟩ : ∃ i, j = i + 1 := ⟨j - 1, by omega⟩
  have ne : c ≠ d := by rcases hcd with ⟨rfl, rfl⟩ | ⟨rfl, rfl⟩ <;> first | exact hts | exact Ne.symm hts
  have sh : Short S (v ++ alt c d (i + 1)) := fun x a => by
    have := hu x (hal.trans a)
    simp at this ⊢
    omega
  have sv : Short S v := sh.pre
  have up : ∀ e, e = c ∨ e = d → ell S (v ++ [e]) = v.length + 1 := by
    intro e he
    rcases ell_step (S := S) v e with z | z
    · rw [z, ell_short sv]
    · exfalso
      rw [ell_short sv] at z
      obtain ⟨v', a1, a2, a3⟩ := ell_ex S (v ++ [e])
      have av : Alike S v (v' ++ [e]) := (undo_end v e).symm.trans (a1.right [e])
      have au : Alike S (u0 ++ [t]) (v' ++ [e] ++ alt c d (i + 1)) := hal.trans (av.right _)
      rcases he with rfl | rfl
      · have o := Alike.out (S := S) v' (alt d e i) e
        have := hu _ (au.trans (by simpa [alt] using o))
        simp at this
        omega
      · refine hmax ⟨v', e, c, ?_, ?_, ?_⟩
        · rcases hcd with ⟨rfl, rfl⟩ | ⟨rfl, rfl⟩ <;> simp
        · rw [List.append_assoc] at au
          exact au
        · omega
  have pc := ih v.length (by omega) v c rfl sv (up c (.inl rfl)) r hr
  have pd := ih v.length (by omega) v d rfl sv (up d (.inr rfl)) r hr
  have last : ∀ x y : Wd, Alike S (v ++ alt c d (i + 1)) (x ++ [s]) → x.length < k → False := fun x y a hl => by
    have h1 := (hal.trans a).right [s]
    have h2 := ell_congr (h1.trans (undo_end x s))
    have h3 := ell_le (S := S) x
    omega
  have hn : nxt c d (i + 1) = s := by
    apply Classical.byContradiction
    intro z
    have e : nxt c d i = s := by
      unfold nxt at *
      by_cases h : i % 2 = 0
      · rw [if_neg (by omega)] at z
        rw [if_pos h]
        rcases hcd with ⟨e1, e2⟩ | ⟨e1, e2⟩
        · exact e1
        · exact absurd e2 z
      · rw [if_pos (by omega)] at z
        rw [if_neg h]
        rcases hcd with ⟨e1, e2⟩ | ⟨e1, e2⟩
        · exact absurd e1 z
        · exact e2
    refine last (v ++ alt c d i) [] ?_ (by simp; omega)
    rw [alt_succ', e, ← List.append_assoc]
    exact .refl _
  have hm : S.m c d = 0 ∨ i + 1 < S.m c d := by
    by_cases h0 : S.m c d = 0
    · exact .inl h0
    refine .inr (Nat.lt_of_not_le fun hle => ?_)
    obtain ⟨q, hq⟩ : ∃ q, S.m c d = q + 1 := ⟨S.m c d - 1, by omega⟩
    have e := alt_add (i + 1 - S.m c d) (S.m c d) c d
    rw [show i + 1 - S.m c d + S.m c d = i + 1 by omega] at e
    by_cases hp : (i + 1 - S.m c d) % 2 = 0
    · rw [if_pos hp] at e
      have tn := Alike.turn (S := S) (v ++ alt c d (i + 1 - S.m c d)) [] c d ne
      simp only [List.append_nil] at tn
      have el : nxt d c q = s := by
        rw [← hn]; unfold nxt
        by_cases h : q % 2 = 0
        · rw [if_pos h, if_neg (by omega)]
        · rw [if_neg h, if_pos (by omega)]
      have e2 : alt d c (S.m c d) = alt d c q ++ [s] := by rw [hq, alt_succ', el]
      refine last (v ++ alt c d (i + 1 - S.m c d) ++ alt d c q) [] ?_ (by simp; omega)
      rw [e2] at tn
      rw [e, ← List.append_assoc]
      simpa using tn
    · rw [if_neg hp] at e
      have tn := Alike.turn (S := S) (v ++ alt c d (i + 1 - S.m c d)) [] d c (Ne.symm ne)
      simp only [List.append_nil] at tn
      rw [S.sym d c] at tn
      have el : nxt c d q = s := by
        rw [← hn]; unfold nxt
        by_cases h : q % 2 = 0
        · rw [if_pos h, if_pos (by omega)]
        · rw [if_neg h, if_neg (by omega)]
      have e2 : alt c d (S.m c d) = alt c d q ++ [s] := by rw [hq, alt_succ', el]
      refine last (v ++ alt c d (i + 1 - S.m c d) ++ alt c d q) [] ?_ (by simp; omega)
      rw [e2] at tn
      rw [e, ← List.append_assoc]
      simpa using tn
  have fin := rank2 (S := S) ne (i + 1) hm (S.pw v r) pc pd
  rw [hn, ← pw_append] at fin
  rw [hal.pw r]
  exact fin
def ones : Rw := fun _ => 1
def row (S : Sys) (u : Wd) : Rw := S.pw u ones
theorem row_snoc (u : Wd) (s : Nat) : row S (u ++ [s]) = S.press s (row S u) := by
  unfold row; rw [pw_append]; rfl
theorem Alike.row {u v : Wd} (h : Alike S u v) : row S u = row S v := h.pw ones
theorem row_pos {u : Wd} {s : Nat} (h : ell S (u ++ [s]) = ell S u + 1) : 0 < row S u s := by
  obtain ⟨v, a, b, c⟩ := ell_ex S u
  rw [a.row]
  refine pos v.length v s rfl b ?_ ones fun _ => by unfold ones; omega
  rw [← ell_congr (a.right [s]), h, c]
theorem row_neg {u : Wd} {s : Nat} (h : ell S u = ell S (u ++ [s]) + 1) : row S u s < 0 := by
  have e : row S u s = - row S (u ++ [s]) s := by
    rw [row_snoc]; simp only [Sys.press, S.own]; omega
  have := row_pos (S := S) (u := u ++ [s]) (s := s) (by rw [ell_congr (undo_end u s), h])
  omega
theorem row_pos_iff (u : Wd) (s : Nat) : 0 < row S u s ↔ ell S (u ++ [s]) = ell S u + 1 := by
  refine ⟨fun h => ?_, row_pos⟩
  rcases ell_step (S := S) u s with z | z
  · exact z
  · have := row_neg z; omega
theorem row_neg_iff (u : Wd) (s : Nat) : row S u s < 0 ↔ ell S u = ell S (u ++ [s]) + 1 := by
  refine ⟨fun h => ?_, row_neg⟩
  rcases ell_step (S := S) u s with z | z
  · have := row_pos z; omega
  · exact z
theorem row_ne (u : Wd) (s : Nat) : row S u s ≠ 0 := by
  rcases ell_step (S := S) u s with z | z
  · have := row_pos z; omega
  · have := row_neg z; omega
theorem ex_neg {u : Wd} (h : ell S u ≠ 0) : ∃ s, row S u s < 0 := by
  obtain ⟨v, a, b, c⟩ := ell_ex S u
  have hne : v ≠ [] := fun z => by rw [z] at c; simp at c; omega
  obtain ⟨v0, t, rfl⟩ : ∃ v0 t, v = v0 ++ [t] := ⟨v.dropLast, v.getLast hne, (List.dropLast_concat_getLast hne).symm⟩
  refine ⟨t, row_neg ?_⟩
  rcases ell_step (S := S) u t with z | z
  · have h1 := ell_congr ((a.right [t]).trans (undo_end v0 t))
    have h2 := ell_le (S := S) v0
    simp at c
    omega
  · exact z
theorem row_ones_alike {u : Wd} (h : ∀ s, 0 < row S u s) : Alike S u [] := by
  apply ell_zero
  apply Classical.byContradiction
  intro z
  obtain ⟨s, hs⟩ := ex_neg z
  have := h s
  omega
theorem alike_of_row {u v : Wd} (h : row S u = row S v) : Alike S u v := by
  have e : row S (u ++ v.reverse) = row S (v ++ v.reverse) := by
    unfold row at *; rw [pw_append, pw_append, h]
  have e2 : row S (u ++ v.reverse) = ones := by rw [e, (undo_right v).row]; rfl
  have a := row_ones_alike (S := S) (u := u ++ v.reverse) fun s => by rw [e2]; unfold ones; omega
  have b := a.right v
  have c := (undo_left (S := S) v).left u
  simp only [List.append_assoc, List.append_nil, List.nil_append] at b c
  exact c.symm.trans b
theorem alike_iff (u v : Wd) : Alike S u v ↔ row S u = row S v := ⟨Alike.row, alike_of_row⟩
end
end Cox

set_option Elab.async false
set_option linter.all false
namespace Cox
section
open Sys
variable {S : Sys}
def lst (n : Nat) (r : Rw) : List Int := (List.range n).map r
@[simp] theorem lst_length (n : Nat) (r : Rw) : (lst n r).length = n := by simp [lst]
theorem lst_get {n b : Nat} (r : Rw) (h : b < n) : (lst n r)[b]? = some (r b) := by simp [lst, h]
theorem lst_getD {n b : Nat} (r : Rw) (h : b < n) (d : Int) : (lst n r).getD b d = r b := by simp [lst, h]
theorem lst_inj {n : Nat} {r r' : Rw} : lst n r = lst n r' ↔ ∀ b, b < n → r b = r' b := by
  constructor
  · intro h b hb
    have := congrArg (fun l => l[b]?) h
    simpa [lst, hb] using this
  · intro h
    exact List.map_congr_left fun b hb => h b (List.mem_range.mp hb)
def Out1 (n : Nat) (r : Rw) : Prop := ∀ b, n ≤ b → r b = 1
theorem lst_inj1 {n : Nat} {r r' : Rw} (h : Out1 n r) (h' : Out1 n r') : lst n r = lst n r' ↔ r = r' := by
  rw [lst_inj]
  constructor
  · intro e
    funext b
    by_cases hb : b < n
    · exact e b hb
    · rw [h b (by omega), h' b (by omega)]
  · intro e b _; rw [e]
theorem ones_out (n : Nat) : Out1 n ones := fun _ _ => rfl
def Sys.Fin (S : Sys) (n : Nat) : Prop := ∀ a b, a < n → n ≤ b → S.w a b = 0
def Lts (n : Nat) (u : Wd) : Prop := ∀ a ∈ u, a < n
theorem Lts.app {n : Nat} {u v : Wd} (h : Lts n u) (g : Lts n v) : Lts n (u ++ v) := fun a ha => (List.mem_append.mp ha).elim (h a) (g a)
theorem Lts.rev {n : Nat} {u : Wd} (h : Lts n u) : Lts n u.reverse := fun a ha => h a (List.mem_reverse.mp ha)
theorem Lts.left {n : Nat} {u v : Wd} (h : Lts n (u ++ v)) : Lts n u := fun a ha => h a (List.mem_append.mpr (.inl ha))
theorem lts_nil (n : Nat) : Lts n [] := fun _ h => nomatch h
theorem lts_cons {n a : Nat} {u : Wd} : Lts n (a :: u) ↔ a < n ∧ Lts n u := by simp [Lts]
theorem Out1.press {n a : Nat} {r : Rw} (F : S.Fin n) (h : Out1 n r) (ha : a < n) : Out1 n (S.press a r) := fun b hb => by
  simp only [Sys.press, F a b ha hb, h b hb]; omega
theorem Out1.pw {n : Nat} {r : Rw} (F : S.Fin n) (h : Out1 n r) {u : Wd} (hu : Lts n u) : Out1 n (S.pw u r) := by
  induction u generalizing r with
  | nil => exact h
  | cons a u ih =>
    rw [lts_cons] at hu
    exact ih (h.press F hu.1) hu.2
theorem Out1.row {n : Nat} (F : S.Fin n) {u : Wd} (hu : Lts n u) : Out1 n (row S u) := (ones_out n).pw F hu
def belowN (n : Nat) (r : Rw) : Wd := (List.range n).filter fun b => decide (r b < 0)
theorem mem_belowN {n : Nat} {r : Rw} {b : Nat} : b ∈ belowN n r ↔ b < n ∧ r b < 0 := by simp [belowN]
def und (S : Sys) (n : Nat) (pk : Wd → Nat) : Nat → Rw → Wd × Rw
  | 0, r => ([], r)
  | k + 1, r => if belowN n r = [] then ([], r) else
    let a := pk (belowN n r)
    let q := und S n pk k (S.press a r)
    (a :: q.1, q.2)
def Pick (pk : Wd → Nat) : Prop := ∀ l, l ≠ [] → pk l ∈ l
def hd (l : Wd) : Nat := l.headD 0
def lt (l : Wd) : Nat := l.getLastD 0
theorem pick_hd : Pick hd := fun l h => by
  cases l with
  | nil => exact absurd rfl h
  | cons a l => simp [hd]
theorem und_facts {n : Nat} {pk : Wd → Nat} (hp : Pick pk) : ∀ (k : Nat) (r : Rw), (und S n pk k r).2 = S.pw (und S n pk k r).1 r ∧ (und S n pk k r).1.length ≤ k ∧ Lts n (und S n pk k r).1
  | 0, r => ⟨rfl, Nat.le_refl _, lts_nil n⟩
  | k + 1, r => by
    unfold und
    by_cases h : belowN n r = []
    · rw [if_pos h]; exact ⟨rfl, Nat.zero_le _, lts_nil n⟩
    · rw [if_neg h]
      have ih := und_facts (n := n) hp k (S.press (pk (belowN n r)) r)
      refine ⟨ih.1, ?_, ?_⟩
      · simp; exact ih.2.1
      · rw [lts_cons]; exact ⟨(mem_belowN.mp (hp _ h)).1, ih.2.2⟩
theorem belowN_nil_ones {n : Nat} (F : S.Fin n) {u : Wd} (hu : Lts n u) (h : belowN n (row S u) = []) : Alike S u [] := by
  apply row_ones_alike
  intro s
  by_cases hs : s < n
  · have := row_ne (S := S) u s
    have : ¬ row S u s < 0 := fun z => by
      have : s ∈ belowN n (row S u) := mem_belowN.mpr ⟨hs, z⟩
      rw [h] at this
      exact nomatch this
    omega
  · rw [Out1.row F hu s (by omega)]; omega
theorem und_row {n : Nat} (F : S.Fin n) {pk : Wd → Nat} (hp : Pick pk) : ∀ (k : Nat) (u : Wd), Lts n u → ell S u ≤ k → (und S n pk k (row S u)).1.length = ell S u ∧ (und S n pk k (row S u)).2 = ones ∧ Alike S (u ++ (und S n pk k (row S u)).1) []
  | 0, u, hu, h => by
    have z := ell_zero (S := S) (u := u) (by omega)
    refine ⟨?_, ?_, ?_⟩
    · show 0 = _; omega
    · show row S u = ones; rw [z.row]; rfl
    · show Alike S (u ++ []) []; rw [List.append_nil]; exact z
  | k + 1, u, hu, h => by
    unfold und
    by_cases hb : belowN n (row S u) = []
    · rw [if_pos hb]
      have z := belowN_nil_ones F hu hb
      refine ⟨?_, ?_, ?_⟩
      · show 0 = _; rw [ell_congr z, ell_nil]
      · show row S u = ones; rw [z.row]; rfl
      · show Alike S (u ++ []) []; rw [List.append_nil]; exact z
    · rw [if_neg hb]
      have m := mem_belowN.mp (hp _ hb)
      generalize pk (belowN n (row S u)) = a at *
      have e := (row_neg_iff u a).mp m.2
      have ih := und_row F hp k (u ++ [a]) (hu.app (by simpa [Lts] using m.1)) (by omega)
      rw [row_snoc] at ih
      refine ⟨?_, ih.2.1, ?_⟩
      · simp [ih.1, e]
      · simpa using ih.2.2
def least (S : Sys) (n : Nat) (u : Wd) : Wd := (und S n hd 60 (row S u.reverse)).1
theorem least_facts {n : Nat} (F : S.Fin n) {u : Wd} (hu : Lts n u) (h : ell S u ≤ 60) : Alike S (least S n u) u ∧ Short S (least S n u) ∧ (least S n u).length = ell S u ∧ Lts n (least S n u) := by
  have z := und_row F pick_hd 60 u.reverse hu.rev (by rw [ell_rev]; exact h)
  have f := und_facts (S := S) (n := n) pick_hd 60 (row S u.reverse)
  have a : Alike S (least S n u) u := by
    have z1 := z.2.2.left u
    have z2 := (undo_right (S := S) u).right (least S n u)
    simp only [List.append_nil, List.nil_append, List.append_assoc] at z1 z2
    exact z2.symm.trans z1
  have l : (least S n u).length = ell S u := by rw [← ell_rev]; exact z.1
  exact ⟨a, short_of_ell (by rw [ell_congr a, l]), l, f.2.2⟩
theorem least_congr {n : Nat} {u v : Wd} (h : Alike S u v) : least S n u = least S n v := by
  unfold least; rw [h.rev.row]
end
end Cox

set_option Elab.async false
set_option linter.all false
set_option maxRecDepth 100000
set_option maxHeartbeats 4000000
namespace BW
open PySem
def Runs (s : Sv) (e : Env) (h : AH) (Q : Fl → Prop) : Prop := Q (s e h)
def Fl.go (o : Fl) (k : Env → AH → Prop) (Q : Fl → Prop) : Prop := match o with
  | .nx e h => k e h
  | o => Q o
@[simp] theorem go_nx (e : Env) (h : AH) (k : Env → AH → Prop) (Q : Fl → Prop) : (Fl.nx e h).go k Q = k e h := nrfl rfl
theorem go_seq (o : Fl) (b : Sv) (Q : Fl → Prop) : Q (o.seq b) = o.go (fun e h => Runs b e h Q) Q := by cases o <;> rfl
theorem Runs.step {a b : Sv} {e : Env} {h : AH} {Q : Fl → Prop} (k : ∀ (K : Sv) (Q' : Fl → Prop), K = b → Q' = Q → (a e h).go (fun e h => Runs K e h Q') Q') : Runs (svSeq a b) e h Q := by
  have := k b Q rfl rfl
  rw [← go_seq] at this
  unfold Runs
  rw [svSeq_eq]
  exact this
theorem Runs.last {a : Sv} {e : Env} {h : AH} {Q : Fl → Prop} (k : ∀ (Q' : Fl → Prop), Q' = Q → Q' (a e h)) : Runs a e h Q := k Q rfl
theorem Runs.seq {a b : Sv} {e e' : Env} {h h' : AH} {Q : Fl → Prop} (ha : a e h = .nx e' h') (k : Runs b e' h' Q) : Runs (svSeq a b) e h Q := by
  unfold Runs; rw [seq_step ha]; exact k
theorem Runs.mono {a : Sv} {e : Env} {h : AH} {Q Q' : Fl → Prop} (ha : Runs a e h Q) (k : ∀ o, Q o → Q' o) : Runs a e h Q' := k _ ha
theorem Runs.asg {f : Ev} {i : Nat} {b : Sv} {e : Env} {h h1 : AH} {d : D} {Q : Fl → Prop} (hf : pv f e h = .ok d h1) (k : Runs b (e.set i (some d)) h1 Q) : Runs (svSeq (svAsg f (gvName i)) b) e h Q :=
  Runs.seq (by rw [svAsg_eq, hf, toFl_ok, gvName_eq, nxE_ok]) k
theorem Runs.loop {iv : Iv} {g : Gv} {body b : Sv} {e : Env} {h h1 : AH} {it : Its} {Q : Fl → Prop} (P : Nat → Env → AH → Prop) (hi : iv e h = .ok it h1) (h0 : P 0 e h1)
    (hg : ∀ i e h, i ≤ it.xs.length → P i e h → guardOk it.g h = true)
    (hs : ∀ i d e h, it.xs[i]? = some d → P i e h → ∃ e1 h1, g d e h = .ok e1 h1 ∧ Runs body e1 h1 fun o => ∃ e2 h2, o = .nx e2 h2 ∧ P (i + 1) e2 h2)
    (k : ∀ e h, P it.xs.length e h → Runs b e h Q) : Runs (svSeq (svFor iv g body) b) e h Q := by
  obtain ⟨e', h', a, p⟩ := forGo_inv (g := it.g) (gv := g) (body := body) P it.xs hg (fun i d e h hd hp => by
    obtain ⟨e1, h1, a1, e2, h2, a2, a3⟩ := hs i d e h hd hp
    exact ⟨e1, h1, e2, h2, a1, a2, a3⟩) h0
  exact Runs.seq (by rw [svFor_eq, hi, toFl_ok]; exact a) (k e' h' p)
theorem Runs.loop1 {iv : Iv} {g : Gv} {body : Sv} {e : Env} {h h1 : AH} {it : Its} {Q : Fl → Prop} (P : Nat → Env → AH → Prop) (hi : iv e h = .ok it h1) (h0 : P 0 e h1)
    (hg : ∀ i e h, i ≤ it.xs.length → P i e h → guardOk it.g h = true)
    (hs : ∀ i d e h, it.xs[i]? = some d → P i e h → ∃ e1 h1, g d e h = .ok e1 h1 ∧ Runs body e1 h1 fun o => ∃ e2 h2, o = .nx e2 h2 ∧ P (i + 1) e2 h2)
    (k : ∀ e h, P it.xs.length e h → Q (.nx e h)) : Runs (svFor iv g body) e h Q := by
  obtain ⟨e', h', a, p⟩ := forGo_inv (g := it.g) (gv := g) (body := body) P it.xs hg (fun i d e h hd hp => by
    obtain ⟨e1, h1, a1, e2, h2, a2, a3⟩ := hs i d e h hd hp
    exact ⟨e1, h1, e2, h2, a1, a2, a3⟩) h0
  unfold Runs
  rw [svFor_eq, hi, toFl_ok, a]
  exact k e' h' p
theorem Runs.while {t : Tv} {body b : Sv} {Q : Fl → Prop} (P : Nat → Env → AH → Prop) (hs : ∀ i e h, P i e h → (∃ h1, t e h = .ok false h1 ∧ Runs b e h1 Q) ∨ (∃ h1 j, j < i ∧ t e h = .ok true h1 ∧ Runs body e h1 fun o => ∃ e2 h2, o = .nx e2 h2 ∧ P j e2 h2)) :
    ∀ (n i : Nat) (e : Env) (h : AH), i < n → P i e h → Runs (svSeq (svWhile t body n) b) e h Q
  | 0, _, _, _, z, _ => absurd z (Nat.not_lt_zero _)
  | n + 1, i, e, h, hn, p => by
    rcases hs i e h p with ⟨h1, e1, k⟩ | ⟨h1, j, hj, e1, e2, h2, e3, p2⟩
    · exact Runs.seq (by unfold svWhile; rw [e1, toFl_ok]; rfl) k
    · have ih := Runs.while P hs n j e2 h2 (by omega) p2
      unfold Runs at *
      rw [svSeq_eq] at *
      have e4 : svWhile t body (n + 1) e h = svWhile t body n e2 h2 := by
        conv => lhs; unfold svWhile
        rw [e1, toFl_ok, if_pos rfl, e3]
      rw [e4]; exact ih
theorem Runs.call {n : Nat} {body : Sv} {ds : List D} {h : AH} {o : Out D} (k : Runs body (startE n ds) h fun f => f.fin h = o) : fnD n body ds h = o := by
  rw [fnD_eq]; exact k
theorem Runs.callE {n : Nat} {body : Sv} {ds : List D} {h : AH} {P : Out D → Prop} (k : Runs body (startE n ds) h fun f => P (f.fin h)) : P (fnD n body ds h) := by
  rw [fnD_eq]; exact k
theorem evLc_ix {iv : Iv} {own : List Nat} {gv : Gv} {elt : Ev} {e : Env} {h : AH} (it : Its) (ys : List D) (hi : iv e h = .ok it h) (hl : ys.length = it.xs.length) (hn : it.xs.length < 16777216) (hg : guardOk it.g h = true)
    (hs : ∀ (i : Nat) (d y : D), it.xs[i]? = some d → ys[i]? = some y → ∃ e1, gv d (wipeE e own) h = .ok e1 h ∧ pv elt e1 h = .ok y h) : evLc iv own gv tvYes elt e h = .ok (.tl ys) h := by
  obtain ⟨us, h', a, b, c⟩ := lcGo_inv (g := it.g) (gv := gv) (tt := tvYes) (elt := elt) (e := wipeE e own) (fun i l h' => l = ys.take i ∧ h' = h) it.xs (fun _ _ _ _ z => by rw [z.2]; exact hg) (fun i d l h' hd ⟨z1, z2⟩ => by
    subst z2
    have il : i < it.xs.length := (List.getElem?_eq_some_iff.mp hd).1
    have iy : i < ys.length := by omega
    obtain ⟨e1, a1, a2⟩ := hs i d ys[i] hd (List.getElem?_eq_getElem iy)
    refine ⟨e1, _, a1, .inr ⟨_, ys[i], _, rfl, a2, ?_, rfl⟩⟩
    rw [z1, List.take_add_one, List.getElem?_eq_getElem iy]; rfl) (h := h) ⟨by simp, rfl⟩
  subst c
  rw [evLc_eq, hi, bind_ok, if_pos hn, a, bind_ok, b, ← hl, List.take_length]
theorem evLc_range {iv : Iv} {own : List Nat} {gv : Gv} {tt : Tv} {elt : Ev} {e : Env} {h : AH} (a : Int) (n : Nat) (p : Nat → Bool) (f : Nat → D) (hi : iv e h = .ok { xs := rangeD a n } h) (hn : n < 16777216)
    (hs : ∀ i, i < n → ∃ e1, gv (.int (a + (i : Nat))) (wipeE e own) h = .ok e1 h ∧ tt e1 h = .ok (p i) h ∧ (p i = true → pv elt e1 h = .ok (f i) h)) : evLc iv own gv tt elt e h = .ok (.tl (((List.range n).filter p).map f)) h := by
  rw [evLc_eq, hi, bind_ok, if_pos (by rw [rangeD_length]; exact hn), lcGo_range p f a n rfl hs, bind_ok]
theorem evLc_on {α : Type} {iv : Iv} {own : List Nat} {gv : Gv} {tt : Tv} {elt : Ev} {e : Env} {h : AH} (g : Option (Nat × GO)) (q : α → D) (p : α → Bool) (f : α → D) (l : List α) (hi : iv e h = .ok { xs := l.map q, g := g } h) (hn : l.length < 16777216) (hg : guardOk g h = true)
    (hs : ∀ a ∈ l, ∃ e1, gv (q a) (wipeE e own) h = .ok e1 h ∧ tt e1 h = .ok (p a) h ∧ (p a = true → pv elt e1 h = .ok (f a) h)) : evLc iv own gv tt elt e h = .ok (.tl ((l.filter p).map f)) h := by
  rw [evLc_eq, hi, bind_ok, if_pos (by rw [List.length_map]; exact hn), lcGo_on q p f l hg hs, bind_ok]
theorem evLc_onM {α : Type} {iv : Iv} {own : List Nat} {gv : Gv} {elt : Ev} {e : Env} {h : AH} (g : Option (Nat × GO)) (q : α → D) (f : α → D) (l : List α) (hi : iv e h = .ok { xs := l.map q, g := g } h) (hn : l.length < 16777216) (hg : guardOk g h = true)
    (hs : ∀ a ∈ l, ∃ e1, gv (q a) (wipeE e own) h = .ok e1 h ∧ pv elt e1 h = .ok (f a) h) : evLc iv own gv tvYes elt e h = .ok (.tl (l.map f)) h := by
  rw [evLc_eq, hi, bind_ok, if_pos (by rw [List.length_map]; exact hn), lcGo_onM q f l hg hs, bind_ok]
theorem kEnum_tup (xs : List D) (h : AH) : kEnum [.tup xs] h = .ok { xs := enumD xs } h := rfl
theorem st0 (n : Nat) (ds : List D) : startE n ds = ds.map some ++ List.replicate (n - ds.length) none := rfl
theorem ivR1_of {f : Ev} {e : Env} {h h1 : AH} {n : Nat} (hf : f e h = .ok (.int n) h1) (hn : n ≤ 1000000) : ivBy [f] kR1 e h = .ok { xs := rangeD 0 n } h1 := by
  rw [ivBy_eq, evs_cons, hf, bind_ok, evs_nil, bind_ok, bind_ok, kR1_at h1 (by omega) (by omega), Int.toNat_natCast]
theorem ivR1_ofI {f : Ev} {e : Env} {h h1 : AH} {n : Int} (hf : f e h = .ok (.int n) h1) (h0 : 0 ≤ n) (hn : n ≤ 1000000) : ivBy [f] kR1 e h = .ok { xs := rangeD 0 n.toNat } h1 := by
  rw [ivBy_eq, evs_cons, hf, bind_ok, evs_nil, bind_ok, bind_ok, kR1_at h1 (by omega) (by omega)]
theorem ivR2_of {f g : Ev} {e : Env} {h h1 h2 : AH} {a c : Int} {n : Nat} (hf : f e h = .ok (.int a) h1) (hg : g e h1 = .ok (.int c) h2) (ha : -1000000 ≤ a ∧ a ≤ 1000000) (hc : -1000000 ≤ c ∧ c ≤ 1000000) (hn : (c - a).toNat = n) : ivBy [f, g] kR2 e h = .ok { xs := rangeD a n } h2 := by
  rw [ivBy_eq, evs_cons, hf, bind_ok, evs_cons, hg, bind_ok, evs_nil, bind_ok, bind_ok, bind_ok, kR2_at h2 (by omega) (by omega) (by omega) (by omega), hn]
theorem ivSeq_of {f : Ev} {e : Env} {h h1 : AH} {d : D} {it : Its} (hf : f e h = .ok d h1) (hi : itsOf h1 d = some it) : ivSeq f e h = .ok it h1 := by
  rw [ivSeq_eq, hf, bind_ok, hi, its_some]
end BW

set_option Elab.async false
set_option linter.all false
set_option maxRecDepth 100000
set_option maxHeartbeats 4000000
namespace BW
open PySem Cox
def pairK (v : Int) : Int × Int := if v = 2 then (0, 0) else if v = 3 then (1, 1) else if v = 4 then (1, 2) else if v = 6 then (1, 3) else (2, 2)
def wtK (v : Int) (lt : Bool) : Int := if lt then (pairK v).1 else (pairK v).2
def sysOf {n : Nat} {M : Nat → Nat → Int} (T : Tab n M) : Sys where
  m := fun a b => if a < n ∧ b < n ∧ a ≠ b then (M a b).toNat else 2
  w := fun a b => if a = b then -2 else if a < n ∧ b < n then wtK (M a b) (decide (a < b)) else 0
  own := fun a => by simp
  sym := fun a b => by
    by_cases h : a < n ∧ b < n ∧ a ≠ b
    · rw [if_pos h, if_pos ⟨h.2.1, h.1, Ne.symm h.2.2⟩, T.sym a b h.1 h.2.1]
    · rw [if_neg h, if_neg fun z => h ⟨z.2.1, z.1, Ne.symm z.2.2⟩]
  pr := fun a b hab => by
    by_cases h : a < n ∧ b < n
    · have k := T.kind a b h.1 h.2 hab
      have sy := T.sym a b h.1 h.2
      rw [if_pos ⟨h.1, h.2, hab⟩, if_neg hab, if_pos h, if_neg (Ne.symm hab), if_pos ⟨h.2, h.1⟩, ← sy]
      generalize M a b = v at *
      by_cases lt : a < b
      · have lt' : ¬ b < a := by omega
        rcases k with rfl | rfl | rfl | rfl | rfl <;> simp [wtK, pairK, lt, lt'] <;> constructor
      · have lt' : b < a := by omega
        rcases k with rfl | rfl | rfl | rfl | rfl <;> simp [wtK, pairK, lt, lt'] <;> constructor
    · rw [if_neg fun z => h ⟨z.1, z.2.1⟩, if_neg hab, if_neg h, if_neg (Ne.symm hab), if_neg fun z => h ⟨z.2, z.1⟩]
      constructor
theorem sysOf_fin {n : Nat} {M : Nat → Nat → Int} (T : Tab n M) : (sysOf T).Fin n := fun a b ha hb => by
  show (if a = b then -2 else if a < n ∧ b < n then wtK (M a b) (decide (a < b)) else 0) = 0
  rw [if_neg (by omega), if_neg (by omega)]
theorem sysOf_w {n : Nat} {M : Nat → Nat → Int} (T : Tab n M) {a b : Nat} (ha : a < n) (hb : b < n) (h : a ≠ b) : (sysOf T).w a b = wtK (M a b) (decide (a < b)) := by
  show (if a = b then -2 else if a < n ∧ b < n then wtK (M a b) (decide (a < b)) else 0) = _
  rw [if_neg h, if_pos ⟨ha, hb⟩]
theorem wtK_bd (v : Int) (b : Bool) : 0 ≤ wtK v b ∧ wtK v b ≤ 3 := by
  unfold wtK pairK
  split <;> (repeat' split) <;> omega
theorem w_bd (S : Sys) (a b : Nat) : -3 ≤ S.w a b ∧ S.w a b ≤ 3 := by
  by_cases h : a = b
  · subst h; rw [S.own]; omega
  · have p := S.pr a b h
    generalize S.w a b = x at *
    generalize S.w b a = y at *
    generalize S.m a b = m at *
    cases p <;> omega
def wd (w : List Int) : Wd := w.map fun a => a.toNat - 1
def up (u : Wd) : List Int := u.map fun (a : Nat) => (a : Int) + 1
@[simp] theorem up_length (u : Wd) : (up u).length = u.length := by simp [up]
@[simp] theorem wd_length (w : List Int) : (wd w).length = w.length := by simp [wd]
theorem up_wd {n : Nat} {w : List Int} (h : Letters n w) : up (wd w) = w := by
  unfold up wd
  rw [List.map_map]
  conv => rhs; rw [← List.map_id w]
  apply List.map_congr_left
  intro a ha
  have := h a ha
  show ((a.toNat - 1 : Nat) : Int) + 1 = a
  omega
theorem wd_up (u : Wd) : wd (up u) = u := by
  unfold up wd
  rw [List.map_map]
  conv => rhs; rw [← List.map_id u]
  apply List.map_congr_left
  intro a _
  show ((a : Int) + 1).toNat - 1 = a
  omega
theorem wd_lts {n : Nat} {w : List Int} (h : Letters n w) : Lts n (wd w) := fun a ha => by
  obtain ⟨x, hx, rfl⟩ := List.mem_map.mp ha
  have := h x hx
  omega
theorem up_letters {n : Nat} {u : Wd} (h : Lts n u) : Letters n (up u) := fun a ha => by
  obtain ⟨x, hx, rfl⟩ := List.mem_map.mp ha
  have := h x hx
  omega
theorem wd_append (u v : List Int) : wd (u ++ v) = wd u ++ wd v := by simp [wd]
theorem wd_reverse (u : List Int) : wd u.reverse = (wd u).reverse := by simp [wd]
theorem up_append (u v : Wd) : up (u ++ v) = up u ++ up v := by simp [up]
theorem up_reverse (u : Wd) : up u.reverse = (up u).reverse := by simp [up]
theorem Letters.rev {n : Nat} {w : List Int} (h : Letters n w) : Letters n w.reverse := fun a ha => h a (List.mem_reverse.mp ha)
theorem Letters.app {n : Nat} {w v : List Int} (h : Letters n w) (g : Letters n v) : Letters n (w ++ v) := fun a ha => (List.mem_append.mp ha).elim (h a) (g a)
def rowT (n : Nat) (r : Rw) : D := .tup ((lst n r).map .int)
@[simp] theorem promote_rowT (n : Nat) (r : Rw) (h : AH) : promote (rowT n r) h = .ok (rowT n r) h := nrfl rfl
theorem at0_lst {n b : Nat} (r : Rw) (h : b < n) : at0 (lst n r) b = r b := lst_getD r h 0
theorem ix_row {n : Nat} {r : Rw} {h : AH} {k : Int} (h0 : 0 ≤ k) (h1 : k < n) : opIx h (rowT n r) (.int k) = some (.int (r k.toNat)) := by
  unfold rowT
  rw [opIx_tup, atI_word h0 (by rw [lst_length]; exact h1), at0_lst r (by omega)]
@[simp] theorem fin_rowT (h : AH) (n : Nat) (r : Rw) : BW.fin h (rowT n r) h = .ok (rowT n r) h := fin_ints h _
theorem bw_is {h : AH} {b n : Nat} {M : Nat → Nat → Int} (T : Tab n M) (B : BondsAt h b n M) {a c : Int} (h1 : 1 ≤ a) (h2 : a ≤ n) (h3 : 1 ≤ c) (h4 : c ≤ n) : d_Bonds_weight [.ref b, .int a, .int c] h = .ok (.int ((sysOf T).w (a.toNat - 1) (c.toNat - 1))) h := by
  have n6 := T.n6
  by_cases hac : a = c
  · subst hac
    have e : (sysOf T).w (a.toNat - 1) (a.toNat - 1) = -2 := (sysOf T).own _
    simp [d_Bonds_weight, fnD_eq, meth_eq B, needLetter B h1 h2, e, evNeg]
  · have i1 : L2.atI (tabL n M) (a - 1) = some (.tup (rowD n (M (a.toNat - 1)))) := by
      refine atI_get (by omega) ?_
      rw [show (a - 1).toNat = a.toNat - 1 by omega]
      exact tabL_get M (by omega)
    have i2 : L2.atI (rowD n (M (a.toNat - 1))) (c - 1) = some (.int (M (a.toNat - 1) (c.toNat - 1))) := by
      refine atI_get (by omega) ?_
      rw [show (c - 1).toNat = c.toNat - 1 by omega]
      exact rowD_get _ (by omega)
    have kd := T.kind (a.toNat - 1) (c.toNat - 1) (by omega) (by omega) (by omega)
    have e := sysOf_w T (a := a.toNat - 1) (b := c.toNat - 1) (by omega) (by omega) (by omega)
    rw [e, show decide (a.toNat - 1 < c.toNat - 1) = decide (a < c) by simp; omega]
    generalize M (a.toNat - 1) (c.toNat - 1) = v at *
    have wg : ∀ (f : Ev) (e : Env), f e h = .ok (.int v) h → evWg [(2, [0, 0]), (3, [1, 1]), (4, [1, 2]), (6, [1, 3]), (0, [2, 2])] f e h = .ok (.kt [(pairK v).1, (pairK v).2]) h := by
      intro f e hf
      unfold evWg
      rw [hf, bind_ok]
      rcases kd with rfl | rfl | rfl | rfl | rfl <;> rfl
    have k0 : ∀ x y : Int, opIxK h (.kt [x, y]) (.int 0) = some (.int x) := fun _ _ => rfl
    have k1 : ∀ x y : Int, opIxK h (.kt [x, y]) (.int 1) = some (.int y) := fun _ _ => rfl
    have sl : ∀ (e : Env), evVar 0 e h = .ok (.ref b) h → evSlot "Bonds" (evVar 0) e h = .ok (.tup (tabL n M)) h := fun e he => slot_eq B he
    unfold d_Bonds_weight
    refine Runs.call ?_
    simp only [startE_eq, List.map_cons, List.map_nil, List.length_cons, List.length_nil, List.replicate, List.cons_append, List.nil_append]
    (refine Runs.step fun K Q' hK hQ => ?_; simp [meth_eq B, needLetter B h1 h2]; subst hK hQ)
    (refine Runs.step fun K Q' hK hQ => ?_; simp [meth_eq B, needLetter B h3 h4]; subst hK hQ)
    (refine Runs.step fun K Q' hK hQ => ?_; simp [hac]; subst hK hQ)
    have ww := wg (evOp opIx (evOp opIx (evSlot "Bonds" (evVar 0)) (evOp opSub (evVar 1) (evC (.int 1)))) (evOp opSub (evVar 2) (evC (.int 1)))) [some (.ref b), some (.int a), some (.int c), none] (by simp [sl, i1, i2])
    refine Runs.asg (by rw [pv_eq, ww, bind_ok]; rfl) ?_
    by_cases lt : a < c <;> (refine Runs.last fun Q' hQ => ?_; simp [k0, k1, lt, wtK]; subst hQ; try dsimp only) <;> simp [lt, wtK]
theorem pressed_is {h : AH} {b n : Nat} {M : Nat → Nat → Int} (T : Tab n M) (B : BondsAt h b n M) (r : Rw) {a : Int} (h1 : 1 ≤ a) (h2 : a ≤ n) : d_pressed [.ref b, rowT n r, .int a] h = .ok (rowT n ((sysOf T).press (a.toNat - 1) r)) h := by
  have n6 := T.n6
  unfold d_pressed
  refine Runs.call ?_
  have ix := ix_row (r := r) (h := h) (k := a - 1) (by omega) (by omega : a - 1 < n)
  rw [show (a - 1).toNat = a.toNat - 1 by omega] at ix
  (simp only [startE_eq, List.map_cons, List.map_nil, List.length_cons, List.length_nil, List.replicate, List.cons_append, List.nil_append])
  (refine Runs.step fun K Q' hK hQ => ?_; simp [ix]; subst hK hQ)
  refine Runs.last fun Q' hQ => ?_
  rw [svRet_eq, evB_eq, evs_cons, evLc_ix { xs := enumD ((lst n r).map .int) } ((lst n ((sysOf T).press (a.toNat - 1) r)).map .int) (by simp [rowT, kEnum_tup]) (by simp) (by simp; omega) rfl]
  · subst hQ; simp [rowT]
  · intro i d y hd hy
    obtain ⟨x, hx, rfl⟩ := enumD_get hd
    have hi : i < n := by simpa using (List.getElem?_eq_some_iff.mp hx).1
    rw [List.getElem?_map, lst_get _ hi] at hx hy
    cases hx; cases hy
    have bw := bw_is T B (a := a) (c := (i : Int) + 1) h1 h2 (by omega) (by omega)
    rw [show ((i : Int) + 1).toNat - 1 = i by omega] at bw
    have bd := w_bd (sysOf T) (a.toNat - 1) i
    refine ⟨_, rfl, ?_⟩
    have m := sm1 (h := h) (a := (sysOf T).w (a.toNat - 1) i) (b := r (a.toNat - 1)) (by omega) (by omega)
    simp [wipeE, Tgt.own, meth_eq B, bw, m, Sys.press]
end BW

set_option Elab.async false
set_option linter.all false
set_option maxRecDepth 100000
set_option maxHeartbeats 4000000
namespace BW
open PySem Cox
section
variable {h : AH} {b n : Nat} {M : Nat → Nat → Int}
theorem lst_ones (n : Nat) : lst n ones = List.replicate n 1 := by
  unfold lst ones
  apply List.ext_getElem <;> simp
theorem start_is (T : Tab n M) (B : BondsAt h b n M) : d_start [.ref b] h = .ok (rowT n ones) h := by
  have n6 := T.n6
  unfold d_start
  refine Runs.call ?_
  (simp only [startE_eq, List.map_cons, List.map_nil, List.length_cons, List.length_nil, List.replicate, List.cons_append, List.nil_append])
  have ln := fun e (he : evVar 0 e h = .ok (.ref b) h) => lenO_eq B (by omega) (f := evVar 0) (e := e) (h0 := h) he
  have o := rep_one (h := h) T.n1 T.n6
  rw [← lst_ones] at o
  (refine Runs.last fun Q' hQ => ?_; simp [ln, o]; subst hQ; try dsimp only)
  simp only [fin_ret]; exact fin_ints h _
theorem WordAt.its {d : D} {w : List Int} (W : WordAt h d w) : ∃ g, itsOf h d = some { xs := w.map .int, g := g } ∧ guardOk g h = true := by
  rcases W with rfl | ⟨k, rfl, e⟩
  · exact ⟨none, rfl, rfl⟩
  · exact ⟨_, itsOf_ref e, guardOk_some e⟩
theorem wd_take_succ {w : List Int} {i : Nat} {a : Int} (h : w[i]? = some a) : wd (w.take (i + 1)) = wd (w.take i) ++ [a.toNat - 1] := by
  rw [List.take_add_one, h, wd_append]; rfl
theorem rowby_is (T : Tab n M) (B : BondsAt h b n M) {d : D} {w : List Int} (W : WordAt h d w) (hw : Letters n w) : d_row_by [.ref b, d] h = .ok (rowT n (row (sysOf T) (wd w))) h := by
  unfold d_row_by
  refine Runs.call ?_
  (simp only [startE_eq, List.map_cons, List.map_nil, List.length_cons, List.length_nil, List.replicate, List.cons_append, List.nil_append])
  have pd := W.prom
  obtain ⟨g, ig, gg⟩ := W.its
  (refine Runs.step fun K Q' hK hQ => ?_; simp [start_is T B]; subst hK hQ)
  refine Runs.loop (h1 := h) (it := { xs := w.map .int, g := g }) (fun i e h' => h' = h ∧ ∃ x3, e = [some (.ref b), some d, some (rowT n (row (sysOf T) (wd (w.take i)))), x3]) (by simp [ig]) ⟨rfl, none, by simp [wd, row, Sys.pw]⟩ (fun i e h' _ z => by rw [z.1]; exact gg) ?_ ?_
  · rintro i x e h' hx ⟨rfl, x3, rfl⟩
    simp only [List.getElem?_map, Option.map_eq_some_iff] at hx
    obtain ⟨a, ha, rfl⟩ := hx
    have la := hw a (List.mem_of_getElem? ha)
    have p := pressed_is T B (row (sysOf T) (wd (w.take i))) la.1 la.2
    refine ⟨_, _, rfl, ?_⟩
    (refine Runs.last fun Q' hQ => ?_; simp [p]; subst hQ; try dsimp only)
    exact ⟨_, _, rfl, rfl, some (.int a), by rw [wd_take_succ ha, row_snoc]⟩
  · rintro e h' ⟨rfl, x3, rfl⟩
    (refine Runs.last fun Q' hQ => ?_; simp; subst hQ; try dsimp only)
    simp
def upT (u : Wd) : D := .tup ((up u).map .int)
@[simp] theorem promote_upT (u : Wd) (h : AH) : promote (upT u) h = .ok (upT u) h := nrfl rfl
@[simp] theorem fin_upT (h : AH) (u : Wd) : BW.fin h (upT u) h = .ok (upT u) h := fin_ints h _
theorem below_is (n : Nat) (hn : n ≤ 1000) (r : Rw) (h : AH) : d_below [rowT n r] h = .ok (upT (belowN n r)) h := by
  unfold d_below
  refine Runs.call ?_
  (simp only [startE_eq, List.map_cons, List.map_nil, List.length_cons, List.length_nil, List.replicate, List.cons_append, List.nil_append])
  refine Runs.last fun Q' hQ => ?_
  have e : enumD ((lst n r).map .int) = (List.range n).map fun i => .tup [.int (i : Nat), .int (r i)] := by
    apply List.ext_getElem?
    intro i
    simp only [enumD, lst, List.getElem?_mapIdx, List.getElem?_map]
    by_cases hi : i < n
    · simp [hi]
    · simp [hi]
  rw [svRet_eq, evB_eq, evs_cons, evLc_on none (fun (i : Nat) => .tup [.int (i : Nat), .int (r i)]) (fun i => decide (r i < 0)) (fun (i : Nat) => .int ((i : Int) + 1)) (List.range n) (by simp [rowT, kEnum_tup, e]) (by simp; omega) rfl]
  · subst hQ
    have : ((List.range n).filter fun i => decide (r i < 0)).map (fun (i : Nat) => D.int ((i : Int) + 1)) = (up (belowN n r)).map .int := by unfold up belowN; rw [List.map_map]; rfl
    rw [this]
    simp [upT]
  · intro i hi
    exact ⟨_, rfl, by simp [wipeE, Tgt.own], fun _ => by simp [wipeE, Tgt.own]⟩
theorem ne_nil_tup (u : List Int) (h : AH) : opNe h (.tup (u.map .int)) (.tup []) = some (.bl (!decide (u = []))) := by
  have := eqD_ints h u []
  unfold opNe
  rw [List.map_nil] at this
  rw [this]; rfl
theorem atI_last (xs : List D) (d : D) : L2.atI (xs ++ [d]) (-1) = some d := by
  unfold L2.atI L2.ixN
  have e : (-1 + (((xs.length + 1 : Nat)) : Int)).toNat = xs.length := by omega
  rw [if_neg (by omega), List.length_append, List.length_singleton, if_pos (by omega), e]
  simp
theorem ne_upT (u : Wd) (h : AH) : opNe h (upT u) (.tup []) = some (.bl (!decide (u = []))) := by
  have := ne_nil_tup (up u) h
  unfold upT
  rw [this]
  congr 3
  cases u <;> simp [up]
theorem und_split (S : Sys) (n : Nat) (pk : Wd → Nat) : ∀ (k : Nat) (r : Rw), belowN n r ≠ [] → und S n pk (k + 1) r = (pk (belowN n r) :: (und S n pk k (S.press (pk (belowN n r)) r)).1, (und S n pk k (S.press (pk (belowN n r)) r)).2) := fun k r h => by
  conv => lhs; unfold und
  rw [if_neg h]
theorem und_stop (S : Sys) (n : Nat) (pk : Wd → Nat) : ∀ (k : Nat) (r : Rw), belowN n r = [] → und S n pk k r = ([], r) := fun k r h => by
  cases k with
  | zero => rfl
  | succ k => unfold und; rw [if_pos h]
theorem lst_eq_ones (T : Tab n M) {r : Rw} : opEq h (rowT n r) (rowT n ones) = some (.bl (decide (lst n r = lst n ones))) := by
  unfold opEq rowT
  rw [eqD_ints]; rfl
theorem undone_is (T : Tab n M) (B : BondsAt h b n M) (r : Rw) : d_undone [.ref b, rowT n r] h = .ok (if lst n (und (sysOf T) n hd 60 r).2 = lst n ones then upT (und (sysOf T) n hd 60 r).1 else .non) h := by
  have n6 := T.n6
  unfold d_undone
  refine Runs.call ?_
  (simp only [startE_eq, List.map_cons, List.map_nil, List.length_cons, List.length_nil, List.replicate, List.cons_append, List.nil_append])
  have h0 : (h ++ [AO.lst []])[h.length]? = some (.lst []) := by simp
  (refine Runs.step fun K Q' hK hQ => ?_; simp [setAll]; subst hK hQ)
  -- found so far, and the row here
  refine Runs.while (fun i e h' => ∃ (x : Wd) (r' : Rw), x.length + i = 60 ∧ (und (sysOf T) n hd 60 r) = (x ++ (und (sysOf T) n hd i r').1, (und (sysOf T) n hd i r').2) ∧ h' = h ++ [AO.lst ((up x).map .int)] ∧ e = [some (.ref b), some (rowT n r), some (.ref h.length), some (rowT n r')]) ?_ 100000 60 _ _ (by omega) ⟨[], r, rfl, by simp, by simp [up], rfl⟩
  rintro i e h' ⟨x, r', hx, hu, rfl, rfl⟩
  have B' : BondsAt (h ++ [AO.lst ((up x).map .int)]) b n M := B.app _
  have gx : (h ++ [AO.lst ((up x).map .int)])[h.length]? = some (.lst ((up x).map .int)) := by simp
  have bl := below_is n (by omega) r' (h ++ [AO.lst ((up x).map .int)])
  have nn := ne_upT (belowN n r') (h ++ [AO.lst ((up x).map .int)])
  have ln : bLen (h ++ [AO.lst ((up x).map .int)]) [.ref h.length] = some (.int x.length) := by rw [bLen_ref gx]; simp
  have stop : (belowN n r' = [] ∨ i = 0) → Runs (svRet (evIf (tvOf (evOp opEq (evVar 3) (evCall d_start [(evVar 0)]))) (evB bTuple [(evVar 2)]) (evC .non))) [some (.ref b), some (rowT n r), some (.ref h.length), some (rowT n r')] (h ++ [AO.lst ((up x).map .int)]) fun f => f.fin h = .ok (if lst n (und (sysOf T) n hd 60 r).2 = lst n ones then upT (und (sysOf T) n hd 60 r).1 else .non) h := by
    intro hz
    have e2 : und (sysOf T) n hd 60 r = (x, r') := by
      rw [hu]
      rcases hz with z | z
      · rw [und_stop _ _ _ _ _ z]; simp
      · subst z; simp [und]
    rw [e2]
    have bt : bTuple (h ++ [AO.lst ((up x).map .int)]) [.ref h.length] = some (.tup ((up x).map .int)) := bTuple_ref gx
    by_cases c : lst n r' = lst n ones
    · (refine Runs.last fun Q' hQ => ?_; simp [start_is T B', lst_eq_ones T, c, bt]; subst hQ; try dsimp only)
      rw [if_pos c, fin_ret]
      exact fin_pure _ rfl (lts_ints _ _)
    · (refine Runs.last fun Q' hQ => ?_; simp [start_is T B', lst_eq_ones T, c]; subst hQ; try dsimp only)
      rw [if_neg c, fin_ret]
      exact fin_pure _ rfl rfl
  by_cases c : belowN n r' = []
  · left
    refine ⟨_, ?_, stop (.inl c)⟩
    rw [decide_eq_true c] at nn
    simp [bl, nn]
  · by_cases ci : i = 0
    · left
      refine ⟨_, ?_, stop (.inr ci)⟩
      have : ¬ ((x.length : Int) < 60) := by omega
      simp [bl, nn, c, ln, this]
    · right
      have lt : (x.length : Int) < 60 := by omega
      refine ⟨h ++ [AO.lst ((up x).map .int)], i - 1, by omega, by simp [bl, nn, c, ln, lt], ?_⟩
      obtain ⟨a, u, hau⟩ : ∃ a u, belowN n r' = a :: u := by
        cases hb : belowN n r' with
        | nil => exact absurd hb c
        | cons a u => exact ⟨a, u, rfl⟩
      have an : a < n := (mem_belowN.mp (show a ∈ belowN n r' by rw [hau]; exact List.mem_cons_self)).1
      have ix0 : opIx (h ++ [AO.lst ((up x).map .int)]) (upT (belowN n r')) (.int 0) = some (.int ((a : Int) + 1)) := by
        rw [hau, upT, opIx_tup]; exact atI_get (by omega) (by simp [up])
      have ap := append_eq (f := evVar 2) (g := evOp opIx (evCall d_below [(evVar 3)]) (evC (.int 0))) (e := [some (.ref b), some (rowT n r), some (.ref h.length), some (rowT n r')]) (h := h ++ [AO.lst ((up x).map .int)]) (h1 := h ++ [AO.lst ((up x).map .int)]) (h2 := h ++ [AO.lst ((up x).map .int)]) (n := h.length) (d := .int ((a : Int) + 1)) (by simp) gx (by simp [bl, ix0]) gx (by simp; omega)
      have es : (up x).map D.int ++ [.int ((a : Int) + 1)] = (up (x ++ [a])).map .int := by simp [up]
      have hs : (h ++ [AO.lst ((up x).map .int)]).set h.length (.lst ((up (x ++ [a])).map .int)) = h ++ [.lst ((up (x ++ [a])).map .int)] := by simp
      rw [es, hs] at ap
      refine Runs.seq (by rw [svExpr_eq, ap, toFl_ok]) ?_
      have B2 : BondsAt (h ++ [AO.lst ((up (x ++ [a])).map .int)]) b n M := B.app _
      have g2 : (h ++ [AO.lst ((up (x ++ [a])).map .int)])[h.length]? = some (.lst ((up (x ++ [a])).map .int)) := by simp
      have ixl : opIx (h ++ [AO.lst ((up (x ++ [a])).map .int)]) (.ref h.length) (.int (-1)) = some (.int ((a : Int) + 1)) := by
        rw [opIx_ref g2]
        rw [← es]; exact atI_last _ _
      have pr := pressed_is T B2 r' (a := (a : Int) + 1) (by omega) (by omega)
      rw [show ((a : Int) + 1).toNat - 1 = a by omega] at pr
      (refine Runs.last fun Q' hQ => ?_; simp [evNeg, ixl, pr]; subst hQ; try dsimp only)
      refine ⟨_, _, rfl, x ++ [a], (sysOf T).press a r', by simp; omega, ?_, rfl, rfl⟩
      rw [hu]
      obtain ⟨j, rfl⟩ : ∃ j, i = j + 1 := ⟨i - 1, by omega⟩
      rw [und_split _ _ _ _ _ c, hau]
      simp [hd]
end
end BW

set_option Elab.async false
set_option linter.all false
set_option maxRecDepth 100000
set_option maxHeartbeats 4000000
namespace BW
open PySem Cox
@[simp] theorem evRev_eq (f : Ev) (e : Env) (h : AH) : evRev f e h = (f e h).bind fun x h1 => ofO (revD h1 x) h1 := nrfl rfl
@[simp] theorem revD_tup (h : AH) (xs : List D) : revD h (.tup xs) = some (.tup xs.reverse) := nrfl rfl
theorem revD_ref {h : AH} {k : Nat} {xs : List D} (e : h[k]? = some (.lst xs)) : revD h (.ref k) = some (.tl xs.reverse) := by simp [revD, lstOfR_ref e]
@[simp] theorem revD_tl (h : AH) (xs : List D) : revD h (.tl xs) = some (.tl xs.reverse) := nrfl rfl
@[simp] theorem revD_upT (h : AH) (u : Wd) : revD h (upT u) = some (upT u.reverse) := by
  unfold upT; rw [revD_tup, up_reverse, List.map_reverse]
theorem upT_wd {n : Nat} {w : List Int} (hw : Letters n w) : upT (wd w) = .tup (w.map .int) := by unfold upT; rw [up_wd hw]
section
variable {h : AH} {b n : Nat} {M : Nat → Nat → Int}
theorem wordT (h : AH) (w : List Int) : WordAt h (.tup (w.map .int)) w := .inl rfl
theorem wordU (h : AH) (u : Wd) : WordAt h (upT u) (up u) := .inl rfl
theorem undoneRow_is (T : Tab n M) (B : BondsAt h b n M) {u : Wd} (hu : Lts n u) (hl : ell (sysOf T) u ≤ 60) : d_undone [.ref b, rowT n (row (sysOf T) u)] h = .ok (upT (und (sysOf T) n hd 60 (row (sysOf T) u)).1) h := by
  rw [undone_is T B, (und_row (sysOf_fin T) pick_hd 60 u hu hl).2.1, if_pos rfl]
theorem ell60 (T : Tab n M) {w : List Int} (hl : w.length ≤ 60) : ell (sysOf T) (wd w) ≤ 60 := Nat.le_trans (ell_le _) (by simpa using hl)
theorem shortestBy_is (T : Tab n M) (B : BondsAt h b n M) {d : D} {w : List Int} (W : WordAt h d w) (hw : Letters n w) (hl : ell (sysOf T) (wd w) ≤ 60) : d_shortest_by [.ref b, d] h = .ok (upT (least (sysOf T) n (wd w))) h := by
  unfold d_shortest_by
  refine Runs.call ?_
  (simp only [startE_eq, List.map_cons, List.map_nil, List.length_cons, List.length_nil, List.replicate, List.cons_append, List.nil_append])
  have rb := rowby_is T B (wordT h w.reverse) hw.rev
  rw [wd_reverse] at rb
  have ud := undoneRow_is T B (wd_lts hw).rev (by rw [ell_rev]; exact hl)
  (refine Runs.last fun Q' hQ => ?_; simp [W.tup, ← List.map_reverse, rb, ud, W.prom]; subst hQ; try dsimp only)
  simp [least]
theorem ne_rowT (h : AH) (n : Nat) (r r' : Rw) : opNe h (rowT n r) (rowT n r') = some (.bl (!decide (lst n r = lst n r'))) := by
  unfold opNe rowT
  rw [eqD_ints]; rfl
open Classical in
end
end BW

set_option Elab.async false
set_option linter.all false
set_option maxRecDepth 100000
set_option maxHeartbeats 4000000
namespace BW
open PySem Cox
section
variable {h : AH} {r n : Nat} {M : Nat → Nat → Int}
theorem wD_pair {v : Int} (kv : Kd v) (h : AH) : dgD (h ++ [wD]) (.ref h.length) (.int v) = some (.tup [.int (pairK v).1, .int (pairK v).2]) := by
  have g : (h ++ [wD])[h.length]? = some wD := by simp
  have z : ∀ v, dgD (h ++ [wD]) (.ref h.length) (.int v) = valD [(.inl 2, D.tup [.int 0, .int 0]), (.inl 3, .tup [.int 1, .int 1]), (.inl 4, .tup [.int 1, .int 2]), (.inl 6, .tup [.int 1, .int 3]), (.inl 0, .tup [.int 2, .int 2])] (Sum.inl v : L2.Key) := fun v => by
    simp only [dgD, g]; rfl
  rw [z]
  rcases kv with rfl | rfl | rfl | rfl | rfl <;> rfl
theorem rep_oneT (T : Tab n M) (h : AH) : opMul h (.tup [.int 1]) (.int n) = some (rowT n ones) := by
  have o := rep_one (h := h) T.n1 T.n6
  rw [← lst_ones] at o
  exact o
theorem bLen_rowT (h : AH) (n : Nat) (x : Rw) : bLen h [rowT n x] = some (.int n) := by unfold rowT; simp
end
end BW

set_option Elab.async false
set_option linter.all false
set_option maxRecDepth 100000
set_option maxHeartbeats 4000000
namespace BW
open PySem Cox
section
variable {h : AH} {r n : Nat} {M : Nat → Nat → Int}
theorem ne_lst {h : AH} {k : Nat} {u : List Int} (e : h[k]? = some (.lst (u.map .int))) : opNe h (.ref k) (.tl []) = some (.bl (!decide (u = []))) := by
  have e1 : dataK h 9 (.ref k) = some (.list (u.map .int)) := by
    show (match h[k]? with | some (.lst xs) => (allK (dataK h 8) xs).map PyData.list | _ => none) = _
    rw [e]
    simp only [dataK_ints]; rfl
  have e2 : dataK h 9 (.tl []) = some (.list []) := rfl
  unfold opNe eqD
  rw [e1, e2]
  have e3 : PyData.eqv (.list (u.map .int)) (.list []) = decide (u = []) := by
    have := eqvAll_ints u []
    simp only [PyData.eqv]
    exact this
  simp only [e3]; rfl
end
end BW

set_option Elab.async false
set_option linter.all false
set_option maxRecDepth 100000
set_option maxHeartbeats 4000000
namespace BW
open PySem Cox
section
variable {h : AH} {r n : Nat} {M : Nat → Nat → Int}
end
end BW

set_option Elab.async false
set_option linter.all false
set_option maxRecDepth 100000
set_option maxHeartbeats 4000000
namespace BW
open PySem Cox
theorem allK_self {f : D → Option PyData} (hf : ∀ d p, f d = some p → PyData.eqv p p = true) : ∀ {xs : List D} {ps : List PyData}, allK f xs = some ps → PyData.eqvAll ps ps = true
  | [], _, e => by cases e; rfl
  | x :: xs, _, e => by
    unfold allK at e
    split at e
    · rename_i a as h1 h2
      cases e
      simp only [PyData.eqvAll, hf x a h1, allK_self hf h2, Bool.and_self]
    · cases e
theorem eqv_data {h : AH} : ∀ (n : Nat) (d : D) (p : PyData), dataK h n d = some p → PyData.eqv p p = true := by
  intro n
  induction n with
  | zero =>
    intro d p e
    cases d <;> simp only [dataK] at e <;> first | (cases e; simp [PyData.eqv]) | (split at e <;> cases e; simp [PyData.eqv]) | cases e
  | succ n ih =>
    intro d p e
    cases d <;> simp only [dataK] at e
    case non => cases e; simp [PyData.eqv]
    case bl => cases e; simp [PyData.eqv]
    case int => cases e; simp [PyData.eqv]
    case str => split at e <;> cases e; simp [PyData.eqv]
    case tup xs =>
      obtain ⟨ps, h1, rfl⟩ := Option.map_eq_some_iff.mp e
      simp only [PyData.eqv]; exact allK_self ih h1
    case tl xs =>
      obtain ⟨ps, h1, rfl⟩ := Option.map_eq_some_iff.mp e
      simp only [PyData.eqv]; exact allK_self ih h1
    case rl xs =>
      obtain ⟨ps, h1, rfl⟩ := Option.map_eq_some_iff.mp e
      simp only [PyData.eqv]; exact allK_self ih h1
    case ref k =>
      split at e
      · obtain ⟨ps, h1, rfl⟩ := Option.map_eq_some_iff.mp e
        simp only [PyData.eqv]; exact allK_self ih h1
      · cases e
    all_goals cases e
theorem eq_same {h : AH} {a b : D} {p : PyData} (ha : dataK h 9 a = some p) (hb : dataK h 9 b = some p) : opEq h a b = some (.bl true) := by
  unfold opEq eqD
  rw [ha, hb]
  simp [eqv_data _ _ _ ha]
theorem Runs.par2 {f g : Ev} {i j : Nat} {b : Sv} {e : Env} {h h1 h2 : AH} {d d' : D} {Q : Fl → Prop} (hf : pv f e h = .ok d h1) (hg : pv g e h1 = .ok d' h2) (k : Runs b ((e.set i (some d)).set j (some d')) h2 Q) : Runs (svSeq (svPar [f, g] [i, j]) b) e h Q :=
  Runs.seq (by rw [svPar_eq, evsV_cons, hf, bind_ok, evsV_cons, hg, bind_ok, evsV_nil, bind_ok, bind_ok, toFl_ok]; rfl) k
theorem pv_call {d : Fd} {fs : List Ev} {e : Env} {h h1 h2 : AH} {ds : List D} {v : D} (ev : evsV fs e h = .ok ds h1) (hd : d ds h1 = .ok v h2) (hp : promote v h2 = .ok v h2) : pv (evCall d fs) e h = .ok v h2 := by
  rw [pv_eq, evCall_eq, ev, bind_ok, hd, bind_ok, hp]
def litM (L : List (List Int)) : Nat → Nat → Int := fun i j => (L.getD i []).getD j 0
theorem litRows (L : List (List Int)) {n : Nat} (h : AH) (hL : L.length = n) (hr : ∀ row ∈ L, row.length = n) : RowsAt (h ++ (L.map (fun row => AO.lst (row.map .int)) ++ [.lst ((List.range n).map fun i => .ref (h.length + i))])) (h.length + n) n (litM L) := by
  refine ⟨(List.range n).map fun i => h.length + i, by simp, ?_, ?_, ?_, ?_⟩
  · rw [List.nodup_iff_pairwise_ne, List.pairwise_map]
    exact List.Pairwise.imp (fun {a b} (z : a ≠ b) e => z (Nat.add_left_cancel e)) (List.nodup_iff_pairwise_ne.mp List.nodup_range)
  · intro z
    obtain ⟨i, hi, e⟩ := List.mem_map.mp z
    have := List.mem_range.mp hi
    omega
  · rw [List.getElem?_append_right (by omega), List.getElem?_append_right (by simp; omega)]
    have : h.length + n - h.length - (L.map (fun row => AO.lst (row.map .int))).length = 0 := by simp; omega
    rw [this, List.map_map]; rfl
  · intro i k e
    rw [List.getElem?_map, Option.map_eq_some_iff] at e
    obtain ⟨j, hj, rfl⟩ := e
    obtain ⟨h1, h2⟩ := List.getElem?_eq_some_iff.mp hj
    simp at h1 h2
    subst h2
    have il : i < L.length := by omega
    rw [List.getElem?_append_right (by omega), List.getElem?_append_left (by simp; omega), show h.length + i - h.length = i by omega]
    rw [List.getElem?_map, List.getElem?_eq_getElem il]
    simp only [Option.map_some, Option.some.injEq, AO.lst.injEq]
    have rl := hr L[i] (List.getElem_mem il)
    unfold rowD litM
    apply List.ext_getElem
    · simp [rl]
    · intro j h3 h4
      simp at h3
      simp [il, h3]
theorem Tab.lit {n : Nat} {M : Nat → Nat → Int} (n1 : 1 ≤ n) (n6 : n ≤ 6) (k : ∀ i, i < n → ∀ j, j < n → (if i = j then M i j = 1 else M i j = 2 ∨ M i j = 3 ∨ M i j = 4 ∨ M i j = 6 ∨ M i j = 0) ∧ M i j = M j i) : Tab n M :=
  ⟨n1, n6, fun i hi => by have := (k i hi i hi).1; rwa [if_pos rfl] at this, fun i j hi hj h => by have := (k i hi j hj).1; rwa [if_neg h] at this, fun i j hi hj => (k i hi j hj).2⟩
end BW

set_option Elab.async false
set_option linter.all false
set_option maxRecDepth 100000
set_option maxHeartbeats 4000000
namespace BW
open PySem Cox
theorem draw4 {N : Int} {h : AH} {limit : Int} (I : MInv 2 0 3 N h) (hN : N ≤ 1000000) (h1 : 1 ≤ limit) (h2 : limit ≤ 10000000000000000000000000000000000000000) :
    ∃ d h', d__law_draw [.ref 2, .int limit] h = .ok (.int d) h' ∧ 0 ≤ d ∧ d < limit ∧ MInv 2 0 3 (N + 1) h' ∧ Frame 4 h h' ∧ h'.length = h.length := draw_is I hN h1 h2 (by omega) (by omega) (by omega)
end BW

set_option Elab.async false
set_option linter.all false
namespace Cox
section
open Sys
variable {S : Sys}
theorem coset {c d : Nat} : ∀ (k : Nat) (u : Wd), ell S u = k → ∃ v x : Wd, Alike S u (v ++ x) ∧ ell S u = ell S v + x.length ∧ (∀ a ∈ x, a = c ∨ a = d) ∧ ell S (v ++ [c]) = ell S v + 1 ∧ ell S (v ++ [d]) = ell S v + 1 := by
  intro k
  induction k with
  | zero =>
    intro u hu
    refine ⟨u, [], by simp; exact .refl _, by simp, by simp, ?_, ?_⟩
    · rcases ell_step (S := S) u c with z | z <;> omega
    · rcases ell_step (S := S) u d with z | z <;> omega
  | succ k ih =>
    intro u hu
    have go : ∀ e, (e = c ∨ e = d) → ell S u = ell S (u ++ [e]) + 1 → ∃ v x : Wd, Alike S u (v ++ x) ∧ ell S u = ell S v + x.length ∧ (∀ a ∈ x, a = c ∨ a = d) ∧ ell S (v ++ [c]) = ell S v + 1 ∧ ell S (v ++ [d]) = ell S v + 1 := by
      intro e he z
      obtain ⟨v, x, a1, a2, a3, a4, a5⟩ := ih (u ++ [e]) (by omega)
      refine ⟨v, x ++ [e], ?_, by simp; omega, ?_, a4, a5⟩
      · have := (out_end (S := S) u e).symm.trans (a1.right [e])
        simpa using this
      · intro a ha
        simp at ha
        rcases ha with h | rfl
        · exact a3 a h
        · exact he
    rcases ell_step (S := S) u c with z | z
    · rcases ell_step (S := S) u d with z2 | z2
      · exact ⟨u, [], by simp; exact .refl _, by simp, by simp, z, z2⟩
      · exact go d (.inr rfl) z2
    · exact go c (.inl rfl) z
theorem by_turns {c d : Nat} (hcd : c ≠ d) : ∀ (x : Wd), (∀ a ∈ x, a = c ∨ a = d) → (∀ y z a, x ≠ y ++ a :: a :: z) → x = alt c d x.length ∨ x = alt d c x.length
  | [], _, _ => .inl rfl
  | a :: x, h, g => by
    have ih := by_turns hcd x (fun b hb => h b (List.mem_cons_of_mem _ hb)) (fun y z b e => g (a :: y) z b (by rw [e]; rfl))
    rw [List.length_cons]
    have h1 : ∀ b t, x = b :: t → a ≠ b := fun b t e z => by
      subst z; subst e; exact g [] t a rfl
    cases x with
    | nil =>
      rcases h a (by simp) with rfl | rfl
      · left; rfl
      · right; rfl
    | cons b t =>
      have ne := h1 b t rfl
      have hb := h b (by simp)
      rcases h a (by simp) with rfl | rfl
      · left
        rcases ih with e | e
        · exfalso; rw [List.length_cons] at e; simp only [alt] at e; injection e with e1 e2; exact ne e1.symm
        · show a :: (b :: t) = a :: alt d a _; rw [← e]
      · right
        rcases ih with e | e
        · show a :: (b :: t) = a :: alt c a _; rw [← e]
        · exfalso; rw [List.length_cons] at e; simp only [alt] at e; injection e with e1 e2; exact ne e1.symm
theorem alt_over {e f : Nat} (hne : e ≠ f) (hm : S.m e f ≠ 0) : Alike S (alt e f (S.m e f + 1)) (alt f e (S.m e f - 1)) := by
  obtain ⟨j, hj⟩ : ∃ j, S.m e f = j + 1 := ⟨S.m e f - 1, by omega⟩
  have t := (Alike.turn (S := S) [] [nxt e f (S.m e f)] e f hne)
  simp only [List.nil_append] at t
  rw [← alt_succ'] at t
  refine t.trans ?_
  rw [hj, Nat.add_sub_cancel, alt_succ', nxt_succ]
  exact out_end _ _
theorem joint {u : Wd} {c d : Nat} (hcd : c ≠ d) (hc : ell S u = ell S (u ++ [c]) + 1) (hd : ell S u = ell S (u ++ [d]) + 1) : S.m c d ≠ 0 ∧ ∃ v, Alike S u (v ++ alt c d (S.m c d)) ∧ ell S u = ell S v + S.m c d := by
  obtain ⟨v, x, a1, a2, a3, a4, a5⟩ := coset (S := S) (c := c) (d := d) _ u rfl
  have turns := by_turns hcd x a3 (fun y z a e => by
    have o := Alike.out (S := S) (v ++ y) z a
    have := ell_congr (a1.trans (by rw [e, ← List.append_assoc]; exact o))
    have h1 := ell_app (S := S) (v ++ y) z
    have h2 := ell_app (S := S) v y
    have h3 := ell_le (S := S) y
    have h4 := ell_le (S := S) z
    rw [e] at a2
    simp at a2
    omega)
  have main : ∀ e f, e ≠ f → ((e = c ∧ f = d) ∨ (e = d ∧ f = c)) → x = alt e f x.length → S.m e f ≠ 0 ∧ x.length = S.m e f := by
    intro e f hne hef hx
    have pe : 0 < row S v e := (row_pos_iff v e).mpr (by rcases hef with ⟨rfl, rfl⟩ | ⟨rfl, rfl⟩ <;> assumption)
    have pf : 0 < row S v f := (row_pos_iff v f).mpr (by rcases hef with ⟨rfl, rfl⟩ | ⟨rfl, rfl⟩ <;> assumption)
    have rw1 : row S u = S.pw x (row S v) := by rw [a1.row]; unfold row; rw [pw_append]
    have ng : row S u (nxt e f x.length) < 0 := by
      have : nxt e f x.length = c ∨ nxt e f x.length = d := by
        unfold nxt; split <;> rcases hef with ⟨rfl, rfl⟩ | ⟨rfl, rfl⟩ <;> simp
      rcases this with z | z
      · rw [z]; exact (row_neg_iff u c).mpr hc
      · rw [z]; exact (row_neg_iff u d).mpr hd
    have big : ¬ (S.m e f = 0 ∨ x.length < S.m e f) := fun z => by
      have := rank2 hne x.length z (row S v) pe pf
      rw [← hx, ← rw1] at this
      omega
    refine ⟨fun z => big (.inl z), ?_⟩
    apply Classical.byContradiction
    intro z
    have lt : S.m e f < x.length := by omega
    obtain ⟨j, hj⟩ : ∃ j, x.length = (S.m e f + 1) + j := ⟨x.length - (S.m e f + 1), by omega⟩
    have m0 : S.m e f ≠ 0 := fun z => big (.inl z)
    have ex : ∃ y : Wd, x = alt e f (S.m e f + 1) ++ y ∧ y.length = j := by
      refine ⟨_, by rw [hx, hj, alt_add], ?_⟩
      split <;> simp
    obtain ⟨y, hy, ly⟩ := ex
    have ao := ((alt_over (S := S) hne m0).right y).left v
    have e1 := ell_congr (a1.trans (by rw [hy]; exact ao))
    have h1 := ell_app (S := S) v (alt f e (S.m e f - 1) ++ y)
    have h2 := ell_le (S := S) (alt f e (S.m e f - 1) ++ y)
    simp at h2
    omega
  rcases turns with e | e
  · obtain ⟨m1, m2⟩ := main c d hcd (.inl ⟨rfl, rfl⟩) e
    exact ⟨m1, v, by rw [m2] at e; rw [← e]; exact a1, by rw [← m2]; exact a2⟩
  · obtain ⟨m1, m2⟩ := main d c hcd.symm (.inr ⟨rfl, rfl⟩) e
    rw [S.sym d c] at m1 m2
    refine ⟨m1, v, ?_, by rw [← m2]; exact a2⟩
    have t := Alike.turn (S := S) v [] d c hcd.symm
    simp only [List.append_nil] at t
    rw [S.sym d c] at t
    rw [m2] at e
    exact a1.trans (by rw [e]; exact t)
def FL (S : Sys) (a : Nat) (u : Wd) : Prop := ell S u = ell S (a :: u) + 1
theorem twoL (a : Nat) (u : Wd) : Alike S (a :: a :: u) u := Alike.out (S := S) [] u a
end
end Cox

set_option Elab.async false
set_option linter.all false
set_option maxRecDepth 100000
set_option maxHeartbeats 4000000
namespace BW
open PySem Cox
theorem append_big {f g : Ev} {e : Env} {h h1 h2 : AH} {n : Nat} {xs0 xs : List D} {d : D} (hf : f e h = .ok (.ref n) h1) (h0 : h1[n]? = some (.lst xs0)) (hg : pv g e h1 = .ok d h2) (hx : h2[n]? = some (.lst xs)) (hl : xs.length ≤ 10000000) :
    evAppend f g e h = .ok .non (h2.set n (.lst (xs ++ [d]))) := by
  unfold evAppend
  rw [hf]
  simp only [bind_ok, h0, hg, hx]
  rw [if_pos (Nat.lt_of_le_of_lt hl (by decide))]
section
variable {h : AH} {l b g n : Nat} {M : Nat → Nat → Int} {u : Wd} {ds : List Deed}
end
end BW

set_option Elab.async false
set_option linter.all false
set_option maxRecDepth 100000
set_option maxHeartbeats 4000000
namespace BW
open PySem Cox
section
variable {l b g n : Nat} {M : Nat → Nat → Int}
end
end BW

set_option Elab.async false
set_option linter.all false
set_option maxRecDepth 100000
set_option maxHeartbeats 4000000
namespace BW
open PySem Cox
section
variable {l b g n : Nat} {M : Nat → Nat → Int}
end
end BW

set_option Elab.async false
set_option linter.all false
set_option maxRecDepth 100000
set_option maxHeartbeats 4000000
namespace BW
open PySem Cox
theorem evLc_ints {iv : Iv} {own : List Nat} {gv : Gv} {elt : Ev} {e : Env} {h h0 : AH} {N : Int} (c : Nat) (P : Int → Prop) (it : Its) (hi : iv e h0 = .ok it h) (hn : it.xs.length ≤ 1000) (hc : c ≤ 100) (hg : ∀ h', Frame 4 h h' → guardOk it.g h' = true) (I : MInv 2 0 3 N h) (hN : N ≤ 700000)
    (hs : ∀ d ∈ it.xs, ∀ h' N', MInv 2 0 3 N' h' → N' ≤ 900000 → Frame 4 h h' → ∃ e1 v h2, gv d (wipeE e own) h' = .ok e1 h' ∧ pv elt e1 h' = .ok (.int v) h2 ∧ MInv 2 0 3 (N' + c) h2 ∧ Frame 4 h' h2 ∧ P v) :
    ∃ (vs : List Int) (h' : AH), evLc iv own gv tvYes elt e h0 = .ok (.tl (vs.map .int)) h' ∧ vs.length = it.xs.length ∧ MInv 2 0 3 (N + c * it.xs.length) h' ∧ Frame 4 h h' ∧ ∀ v ∈ vs, P v := by
  have cl : ∀ j, j ≤ it.xs.length → c * j ≤ 100000 := fun j hj => Nat.le_trans (Nat.mul_le_mul hc (Nat.le_trans hj hn)) (by decide)
  obtain ⟨ys, h', r, vs, rfl, y1, I', F', pv'⟩ := lcGo_inv (g := it.g) (gv := gv) (tt := tvYes) (elt := elt) (e := wipeE e own) (h := h)
    (fun j l h' => ∃ vs : List Int, l = vs.map .int ∧ vs.length = j ∧ MInv 2 0 3 (N + ((c * j : Nat) : Int)) h' ∧ Frame 4 h h' ∧ ∀ v ∈ vs, P v) it.xs (fun j l h' _ ⟨_, _, _, _, F, _⟩ => hg h' F) (fun j d l h' hd ⟨vs, z1, z2, z3, z4, z5⟩ => by
      have hj : j < it.xs.length := (List.getElem?_eq_some_iff.mp hd).1
      have := cl j (by omega)
      obtain ⟨e1, v, h2, a1, a2, a3, a4, a5⟩ := hs d (List.mem_of_getElem? hd) h' _ z3 (by omega) z4
      refine ⟨e1, h', a1, .inr ⟨h', .int v, h2, rfl, a2, vs ++ [v], by simp [z1], by simp [z2], ?_, z4.trans a4, ?_⟩⟩
      · have e : ((c * (j + 1) : Nat) : Int) = ((c * j : Nat) : Int) + c := by rw [Nat.mul_succ]; omega
        rw [e, ← Int.add_assoc]; exact a3
      · intro x hx
        rcases List.mem_append.mp hx with q | q
        · exact z5 x q
        · rw [List.mem_singleton.mp q]; exact a5) ⟨[], rfl, rfl, by simpa using I, Frame.refl _ _, by intro v hv; simp at hv⟩
  refine ⟨vs, h', ?_, y1, by simpa using I', F', pv'⟩
  rw [evLc_eq, hi, bind_ok, if_pos (by omega), r, bind_ok]
end BW

set_option Elab.async false
set_option linter.all false
set_option maxRecDepth 100000
set_option maxHeartbeats 4000000
namespace BW
open PySem
def SeqAt (h : AH) (d : D) (vs : List D) : Prop := d = .tup vs ∨ ∃ k, d = .ref k ∧ h[k]? = some (.lst vs)
end BW

set_option Elab.async false
set_option linter.all false
set_option maxRecDepth 100000
set_option maxHeartbeats 4000000
namespace BW
open PySem Cox
section
variable {h : AH} {b n : Nat} {M : Nat → Nat → Int}
end
end BW

set_option Elab.async false
set_option linter.all false
set_option maxRecDepth 100000
set_option maxHeartbeats 4000000
namespace BW
open PySem Cox
section
variable {h : AH} {b n r : Nat} {M : Nat → Nat → Int}
end
def pressL (S : Sys) (n : Nat) (l : List Int) (a : Nat) : List Int := (List.range n).map fun b => l.getD b 0 + S.w a b * l.getD a 0
theorem pressL_is {S : Sys} {n a : Nat} (ha : a < n) (x : Rw) : pressL S n (lst n x) a = lst n (S.press a x) := by
  unfold pressL
  conv => rhs; unfold lst
  apply List.map_congr_left
  intro b hb
  rw [lst_getD x (List.mem_range.mp hb), lst_getD x ha]
  rfl
end BW

set_option Elab.async false
set_option linter.all false
set_option maxRecDepth 100000
set_option maxHeartbeats 4000000
namespace BW
open PySem Cox
section
variable {h : AH} {b n : Nat} {M : Nat → Nat → Int} {d d' d2 : D} {c : Str} {x : D}
end
end BW

set_option Elab.async false
set_option linter.all false
set_option maxRecDepth 100000
set_option maxHeartbeats 4000000
namespace BW
open PySem Cox
theorem mul_list {h : AH} {v : D} {k : Int} (k0 : 0 ≤ k) (k1 : k ≤ 1000) : opMul h (.tl [v]) (.int k) = some (.tl (List.replicate k.toNat v)) := by
  have l : lstOf h (.tl [v]) = some [v] := rfl
  simp only [opMul, l]
  rw [if_pos ⟨by omega, by omega, by simp only [List.length_singleton, Nat.one_mul]; exact small_of (by omega)⟩]
  simp
end BW

set_option Elab.async false
set_option linter.all false
set_option maxRecDepth 100000
set_option maxHeartbeats 4000000
namespace BW
open PySem Cox
theorem Runs.ifT {t : Tv} {a c : Sv} {e : Env} {h h1 : AH} {Q : Fl → Prop} (ht : t e h = .ok true h1) (k : Runs a e h1 Q) : Runs (svIf t a c) e h Q := by
  unfold Runs; rw [svIf_eq, ht, toFl_ok, if_pos rfl]; exact k
theorem Runs.ifF {t : Tv} {a c : Sv} {e : Env} {h h1 : AH} {Q : Fl → Prop} (ht : t e h = .ok false h1) (k : Runs c e h1 Q) : Runs (svIf t a c) e h Q := by
  unfold Runs; rw [svIf_eq, ht, toFl_ok, if_neg (by decide)]; exact k
section
variable {h : AH} {b n : Nat} {M : Nat → Nat → Int}
theorem add_upT (h : AH) (u : Wd) (a : Nat) (hl : u.length ≤ 900) : opAdd h (upT u) (.tup [.int ((a : Int) + 1)]) = some (upT (u ++ [a])) := by
  unfold upT
  simp
  exact ⟨small_of (by omega), by simp [up_append, up]⟩
end
end BW

set_option Elab.async false
set_option linter.all false
set_option maxRecDepth 100000
set_option maxHeartbeats 4000000
namespace BW
open PySem Cox
section
variable {h : AH} {b r n : Nat} {M : Nat → Nat → Int}
end
end BW

set_option Elab.async false
set_option linter.all false
set_option maxRecDepth 100000
set_option maxHeartbeats 4000000
namespace BW
open PySem Cox
structure TabP (n : Nat) (M : Nat → Nat → Int) (one other : Nat) : Prop where
  dia : ∀ i, i < n → M i i = 1
  sym : ∀ i j, i < n → j < n → M i j = M j i
  kind : ∀ i j, i < n → j < i → (i < one ∨ (i = one ∧ j < other)) → Kd (M i j)
theorem TabP.put {n : Nat} {M : Nat → Nat → Int} {i j : Nat} (T : TabP n M i j) (hi : i < n) (hj : j < i) {v : Int} (hv : Kd v) : TabP n (upd2 (upd2 M i j v) j i v) i (j + 1) := by
  have hij : i ≠ j := by omega
  refine ⟨fun a ha => ?_, fun a b ha hb => ?_, fun a b ha hb hab => ?_⟩
  · unfold upd2
    rw [if_neg (fun z => hij (z.2.symm.trans z.1)), if_neg (fun z => hij (z.1.symm.trans z.2))]
    exact T.dia a ha
  · unfold upd2
    by_cases z1 : a = j ∧ b = i
    · obtain ⟨rfl, rfl⟩ := z1
      simp [hij]
    · by_cases z2 : a = i ∧ b = j
      · obtain ⟨rfl, rfl⟩ := z2
        simp [hij]
      · rw [if_neg z1, if_neg z2, if_neg (fun z => z2 ⟨z.2, z.1⟩), if_neg (fun z => z1 ⟨z.2, z.1⟩)]
        exact T.sym a b ha hb
  · unfold upd2
    split
    · exact hv
    · split
      · exact hv
      · rename_i z1 z2
        refine T.kind a b ha hb ?_
        rcases hab with q | ⟨q1, q2⟩
        · exact .inl q
        · right
          refine ⟨q1, ?_⟩
          have : b ≠ j := fun z => z2 ⟨q1, z⟩
          omega
theorem TabP.tab {n : Nat} {M : Nat → Nat → Int} {j : Nat} (T : TabP n M n j) (n1 : 1 ≤ n) (n6 : n ≤ 6) : Tab n M :=
  ⟨n1, n6, T.dia, fun i j hi hj hij => by
    rcases Nat.lt_or_gt_of_ne hij with z | z
    · rw [T.sym i j hi hj]; exact T.kind j i hj z (.inl hj)
    · exact T.kind i j hi z (.inl hi), T.sym⟩
theorem rows1_is {h : AH} {n : Nat} (hn : n ≤ 6) (x0 x2 : Option D) :
    svAsg (evLc (ivBy [(evVar 1)] kR1) (Tgt.own (.one 7)) (Tgt.gv (.one 7)) tvYes (evOp opMul (evLst [(evC (.int 1))]) (evVar 1))) (gvName 3) [x0, some (.int n), x2, none, none, none, none, none] h =
      .nx [x0, some (.int n), x2, some (.ref (h.length + n)), none, none, none, none] (h ++ (List.range n).map (fun _ => AO.lst (rowD n fun _ => 1)) ++ [.lst ((List.range n).map fun i => .ref (h.length + i))]) := by
  obtain ⟨ys, h', a1, a2, a3⟩ := lcGo_inv (g := none) (gv := Tgt.gv (.one 7)) (tt := tvYes) (elt := evOp opMul (evLst [(evC (.int 1))]) (evVar 1)) (e := [x0, some (.int n), x2, none, none, none, none, none]) (h := h)
    (fun i l h' => l = (List.range i).map (fun i => D.ref (h.length + i)) ∧ h' = h ++ (List.range i).map (fun _ => AO.lst (rowD n fun _ => 1))) (rangeD 0 n) (fun _ _ _ _ _ => rfl)
    (fun i d l h' hd ⟨hl, hh⟩ => by
      obtain ⟨hi, rfl⟩ := rangeD_get hd
      subst hl hh
      refine ⟨_, _, rfl, .inr ⟨_, .ref (h.length + i), h ++ (List.range (i + 1)).map (fun _ => AO.lst (rowD n fun _ => 1)), rfl, ?_, ?_, rfl⟩⟩
      · have z := mul_list (h := h ++ (List.range i).map (fun _ => AO.lst (rowD n fun _ => 1))) (v := .int 1) (k := (n : Int)) (by omega) (by omega)
        have rr : List.replicate n (D.int 1) = rowD n fun _ => 1 := by
          unfold rowD
          apply List.ext_getElem <;> simp
        rw [Int.toNat_natCast, rr] at z
        simp [z, List.range_succ]
      · simp [List.range_succ]) ⟨rfl, by simp⟩
  rw [rangeD_length] at a2 a3
  subst a2 a3
  have lt : (rangeD 0 n).length < 16777216 := by rw [rangeD_length]; omega
  rw [svAsg_eq, pv_eq, evLc_eq, ivBy_eq, evs_cons, evVar_eq]
  simp only [List.getElem?_cons_succ, List.getElem?_cons_zero, ofV_some, bind_ok, evs_nil, kR1_at h (by omega : -1000000000000 ≤ (n : Int)) (by omega), Int.toNat_natCast]
  dsimp only [Tgt.own, wipeE, List.set_cons_succ, List.set_cons_zero]
  rw [if_pos lt, a1]
  simp
theorem rows1_F {h : AH} {n : Nat} : RowsF h.length (h ++ (List.range n).map (fun _ => AO.lst (rowD n fun _ => 1)) ++ [.lst ((List.range n).map fun i => .ref (h.length + i))]) (h.length + n) n (fun _ _ => 1) := by
  refine ⟨(List.range n).map (h.length + ·), by simp, ?_, ?_, by omega, ?_, ?_, ?_⟩
  · exact List.Pairwise.map _ (fun a b z => by omega) List.nodup_range
  · intro z
    obtain ⟨a, ha, e⟩ := List.mem_map.mp z
    have := List.mem_range.mp ha
    omega
  · intro k hk
    obtain ⟨a, ha, rfl⟩ := List.mem_map.mp hk
    omega
  · rw [List.getElem?_append_right (by simp)]
    simp
  · intro i k e
    obtain ⟨h1, h2⟩ := List.getElem?_eq_some_iff.mp e
    simp at h1 h2
    subst h2
    rw [List.append_assoc, List.getElem?_append_right (by omega), Nat.add_sub_cancel_left, List.getElem?_append_left (by simpa using h1)]
    simp [h1]
theorem MInv.len4 {N : Int} {h : AH} (I : MInv 2 0 3 N h) : 4 ≤ h.length := by
  obtain ⟨⟨spot, cells, gs, a1, a2, a3, a4, a5, a6⟩, ne⟩ := I
  have := (List.getElem?_eq_some_iff.mp a6).1
  omega
theorem fin_new {h h2 : AH} {k : Nat} (hk : h.length ≤ k) : BW.fin h (.ref k) h2 = .ok (.ref k) h2 := by
  unfold BW.fin
  rw [promote_ref]
  have : D.lt h.length (.ref k) = false := by show decide (k < h.length) = false; exact decide_eq_false (by omega)
  simp only [this, Bool.false_and, Bool.false_eq_true, if_false]
theorem table2_is {N : Int} {h : AH} {n s : Nat} {ks : List Int} (I : MInv 2 0 3 N h) (hN : N ≤ 800000) (n1 : 1 ≤ n) (n6 : n ≤ 6) (hs : 4 ≤ s) (gs : h[s]? = some (.lst (ks.map .int))) (hk : ∀ v ∈ ks, Kd v) (k0 : 0 < ks.length) (kl : ks.length ≤ 100) :
    ∃ r M h', d2_law_table [.ref 2, .int n, .ref s] h = .ok (.ref r) h' ∧ Tab n M ∧ RowsF h.length h' r n M ∧ MInv 2 0 3 (N + 40) h' ∧ Frame 4 h h' ∧ Frame h.length h h' := by
  have l4 := I.len4
  unfold d2_law_table
  refine Runs.callE (P := fun o => ∃ r M h', o = .ok (.ref r) h' ∧ Tab n M ∧ RowsF h.length h' r n M ∧ MInv 2 0 3 (N + 40) h' ∧ Frame 4 h h' ∧ Frame h.length h h') ?_
  (simp only [startE_eq, List.map_cons, List.map_nil, List.length_cons, List.length_nil, List.replicate, List.cons_append, List.nil_append])
  refine Runs.seq (rows1_is (h := h) n6 (some (.ref 2)) (some (.ref s))) ?_
  have R1 := rows1_F (h := h) (n := n)
  have F1 : Frame 4 h (h ++ (List.range n).map (fun _ => AO.lst (rowD n fun _ => 1)) ++ [.lst ((List.range n).map fun i => .ref (h.length + i))]) := by rw [List.append_assoc]; exact Frame.app _ _ _
  have I1 : MInv 2 0 3 N (h ++ (List.range n).map (fun _ => AO.lst (rowD n fun _ => 1)) ++ [.lst ((List.range n).map fun i => .ref (h.length + i))]) := by rw [List.append_assoc]; exact I.app _
  generalize h ++ (List.range n).map (fun _ => AO.lst (rowD n fun _ => 1)) ++ [AO.lst ((List.range n).map fun i => .ref (h.length + i))] = h1 at *
  generalize hr : h.length + n = r at *
  refine Runs.loop (h1 := h1) (it := { xs := rangeD 0 n }) (fun i e h' => ∃ (M : Nat → Nat → Int) (x4 x5 x6 : Option D), e = [some (.ref 2), some (.int n), some (.ref s), some (.ref r), x4, x5, x6, none] ∧ TabP n M i 0 ∧ RowsF h.length h' r n M ∧ MInv 2 0 3 (N + 6 * i) h' ∧ Frame 4 h h') (ivR1_of (by simp) (by omega)) ⟨_, _, _, _, rfl, ⟨fun _ _ => rfl, fun _ _ _ _ => rfl, fun i j _ _ z => by omega⟩, R1, by simpa using I1, F1⟩ (fun _ _ _ _ _ => rfl) ?_ ?_
  · rintro i d e h' hd ⟨M, x4, x5, x6, rfl, P, R, I2, F2⟩
    obtain ⟨hi, rfl⟩ := rangeD_get hd
    refine ⟨_, _, rfl, ?_⟩
    simp only [List.set_cons_succ, List.set_cons_zero]
    rw [show (0 + (i : Int)) = (i : Int) by omega]
    refine Runs.loop1 (h1 := h') (it := { xs := rangeD 0 i }) (fun j e h' => ∃ (M : Nat → Nat → Int) (x5 x6 : Option D), e = [some (.ref 2), some (.int n), some (.ref s), some (.ref r), some (.int i), x5, x6, none] ∧ TabP n M i j ∧ RowsF h.length h' r n M ∧ MInv 2 0 3 (N + 6 * i + j) h' ∧ Frame 4 h h') (ivR1_of (by simp) (by omega)) ⟨M, _, _, rfl, P, R, by simpa using I2, F2⟩ (fun _ _ _ _ _ => rfl) ?_ ?_
    · rintro j d e h' hd ⟨M, x5, x6, rfl, P, R, I2, F2⟩
      obtain ⟨hj, rfl⟩ := rangeD_get hd
      refine ⟨_, _, rfl, ?_⟩
      simp only [List.set_cons_succ, List.set_cons_zero]
      rw [show (0 + (j : Int)) = (j : Int) by omega]
      have gs2 := F2.at_ hs gs
      have lb : bLen h' [.ref s] = some (.int ks.length) := by rw [bLen_ref gs2]; simp
      obtain ⟨a, h3, r3, a0, a1, I3, F3, l3⟩ := draw4 (limit := (ks.length : Int)) I2 (by omega) (by omega) (by omega)
      have gs3 := F3.at_ hs gs2
      have al : a.toNat < ks.length := by omega
      have ix : opIx h3 (.ref s) (.int a) = some (.int ks[a.toNat]) := by
        rw [opIx_ref gs3]; exact atI_get a0 (by rw [List.getElem?_map, List.getElem?_eq_getElem al]; rfl)
      have kv := hk _ (List.getElem_mem al)
      generalize ks[a.toNat] = v at *
      have R3 := R.frame F3 (by omega)
      obtain ⟨k1, l1, i1, g1, R4⟩ := R3.put (i := i) (j := j) hi v
      obtain ⟨k2, l2, i2, g2, R5⟩ := R4.put (i := j) (j := i) (by omega) v
      refine Runs.asg (d := .int v) (h1 := h3) (by simp [lb, r3, ix]) ?_
      simp only [List.set_cons_succ, List.set_cons_zero]
      have s1 := subL_eq (fo := evOp opIx (evVar 3) (evVar 4)) (fi := evVar 5) (d := .int v) (e := [some (.ref 2), some (.int n), some (.ref s), some (.ref r), some (.int i), some (.int j), some (.int v), none]) (h := h3) (n := k1) (k := (j : Int)) (by simp [i1]) rfl g1 (by omega) (by rw [rowD_length]; omega)
      have s2 := subL_eq (fo := evOp opIx (evVar 3) (evVar 5)) (fi := evVar 4) (d := .int v) (e := [some (.ref 2), some (.int n), some (.ref s), some (.ref r), some (.int i), some (.int j), some (.int v), none]) (h := h3.set k1 (.lst ((rowD n (M i)).set j (.int v)))) (n := k2) (k := (i : Int)) (by simp [i2]) rfl g2 (by omega) (by rw [rowD_length]; omega)
      rw [Int.toNat_natCast] at s1 s2
      refine Runs.seq (e' := [some (.ref 2), some (.int n), some (.ref s), some (.ref r), some (.int i), some (.int j), some (.int v), none]) (h' := h3.set k1 (.lst ((rowD n (M i)).set j (.int v)))) (by rw [svAsg_eq, pv_eq]; simp [s1]) ?_
      refine Runs.last fun Q' hQ => ?_
      rw [svAsg_eq, pv_eq]
      simp [s2]
      subst hQ
      refine ⟨_, _, rfl, _, _, _, rfl, P.put hi hj kv, R5, ?_, ?_⟩
      · rw [show N + 6 * (i : Int) + ((j + 1 : Nat) : Int) = N + 6 * (i : Int) + j + 1 by omega]
        exact (I3.set _ (by omega) (by omega) (by omega)).set _ (by omega) (by omega) (by omega)
      · exact ((F2.trans F3).set _ l1).set _ l2
    · rintro e h' ⟨M, x5, x6, rfl, P, R, I2, F2⟩
      rw [rangeD_length] at P I2
      refine ⟨_, _, rfl, M, _, _, _, rfl, ⟨P.dia, P.sym, fun a b ha hb hab => P.kind a b ha hb (by omega)⟩, R, I2.mono (by omega), F2⟩
  · rintro e h' ⟨M, x4, x5, x6, rfl, P, R, I2, F2⟩
    rw [rangeD_length] at P I2
    (refine Runs.last fun Q' hQ => ?_; simp; subst hQ; try dsimp only)
    refine ⟨r, M, h', by rw [fin_ret]; exact fin_new (by omega), P.tab n1 n6, R, I2.mono (by omega), F2, ⟨F2.len, fun i h0 hi => F2.keep i (by omega) hi⟩⟩
theorem word2_is {N : Int} {h : AH} {n : Nat} {most : Int} (I : MInv 2 0 3 N h) (hN : N ≤ 600000) (n1 : 1 ≤ n) (n6 : n ≤ 6) (m0 : 0 ≤ most) (m1 : most ≤ 100) :
    ∃ w q h', d2_law_word [.ref 2, .int n, .int most] h = .ok (.ref q) h' ∧ h'[q]? = some (.lst (w.map .int)) ∧ 4 ≤ q ∧ Letters n w ∧ (w.length : Int) ≤ most ∧ MInv 2 0 3 (N + 110) h' ∧ Frame 4 h h' := by
  have l4 := I.len4
  unfold d2_law_word
  refine Runs.callE (P := fun o => ∃ w q h', o = .ok (.ref q) h' ∧ h'[q]? = some (.lst (w.map .int)) ∧ 4 ≤ q ∧ Letters n w ∧ (w.length : Int) ≤ most ∧ MInv 2 0 3 (N + 110) h' ∧ Frame 4 h h') ?_
  (simp only [startE_eq, List.map_cons, List.map_nil, List.length_cons, List.length_nil, List.replicate, List.cons_append, List.nil_append])
  obtain ⟨k, h1, r1, k0, k1, I1, F1, l1⟩ := draw4 (limit := most + 1) I (by omega) (by omega) (by omega)
  obtain ⟨vs, h2, r2, y1, I2, F2, pv2⟩ := evLc_ints (iv := ivBy [(evCall d__law_draw [(evVar 0), (evOp opAdd (evVar 2) (evC (.int 1)))])] kR1) (own := Tgt.own (.one 3)) (gv := Tgt.gv (.one 3)) (elt := evOp opAdd (evC (.int 1)) (evCall d__law_draw [(evVar 0), (evVar 1)])) (e := [some (.ref 2), some (.int n), some (.int most), none]) (h0 := h) (h := h1) 1 (fun v => 1 ≤ v ∧ v ≤ (n : Int)) { xs := rangeD 0 k.toNat } (ivR1_ofI (by simp [r1]) k0 (by omega)) (by simp; omega) (by decide) (fun _ _ => rfl) I1 (by omega) (by
    intro d hd h' N' I' hN' F'
    obtain ⟨i, _, rfl⟩ := mem_rangeD.mp hd
    obtain ⟨a, h3, r3, a0, a1, I3, F3, _⟩ := draw4 (limit := (n : Int)) I' (by omega) (by omega) (by omega)
    exact ⟨_, 1 + a, h3, rfl, by simp [wipeE, Tgt.own, r3], I3, F3, by omega⟩)
  refine Runs.last fun Q' hQ => ?_
  rw [svRet_eq, r2, toFl_ok]
  subst hQ
  dsimp only
  rw [fin_ret]
  have F12 := F1.trans F2
  have fn : BW.fin h (.tl (vs.map .int)) h2 = .ok (.ref h2.length) (h2 ++ [.lst (vs.map .int)]) := by
    unfold BW.fin
    rw [promote_tl]
    have : D.lt h.length (.ref h2.length) = false := by show decide (h2.length < h.length) = false; exact decide_eq_false (by have := F12.len; omega)
    simp only [this, Bool.false_and, Bool.false_eq_true, if_false]
  rw [fn]
  have vl : vs.length = k.toNat := by simpa using y1
  simp only [rangeD_length] at I2
  exact ⟨vs, _, _, rfl, by simp, by have := F12.len; omega, pv2, by omega, (I2.app _).mono (by omega), F12.trans (Frame.app _ _ _)⟩
end BW

set_option Elab.async false
set_option linter.all false
set_option maxRecDepth 100000
set_option maxHeartbeats 4000000
namespace BW
open PySem Cox
section
variable {h : AH} {b r n : Nat} {M : Nat → Nat → Int}
theorem weight2_is (T : Tab n M) (R : RowsAt h r n M) {a b : Int} (h1 : 1 ≤ a) (h2 : a ≤ n) (h3 : 1 ≤ b) (h4 : b ≤ n) (hab : a ≠ b) : d2_law_weight [.ref r, .int a, .int b] h = .ok (.int ((sysOf T).w (a.toNat - 1) (b.toNat - 1))) h := by
  have R' := R.app [wD]
  obtain ⟨k, i1, i2⟩ := R'.ix (i := a - 1) (by omega) (by omega)
  have i3 := i2 (b - 1) (by omega) (by omega)
  have kv : Kd (M (a - 1).toNat (b - 1).toNat) := T.kind _ _ (by omega) (by omega) (by omega)
  have e := sysOf_w T (a := a.toNat - 1) (b := b.toNat - 1) (by omega) (by omega) (by omega)
  rw [e, show decide (a.toNat - 1 < b.toNat - 1) = decide (a < b) by simp; omega, show a.toNat - 1 = (a - 1).toNat by omega, show b.toNat - 1 = (b - 1).toNat by omega]
  generalize M (a - 1).toNat (b - 1).toNat = v at *
  have gd := wD_pair kv h
  have fn : ∀ x : Int, BW.fin h (.int x) (h ++ [wD]) = .ok (.int x) h := fun x => fin_pure [wD] rfl rfl
  have d0 := disp_is [some (.ref r), some (.int a), some (.int b), none] h
  by_cases lt : a < b
  · simp [d2_law_weight, fnD_eq, d0, i1, i3, gd, lt, fn, wtK]
  · simp [d2_law_weight, fnD_eq, d0, i1, i3, gd, lt, fn, wtK]
theorem pressed2_is (T : Tab n M) (R : RowsAt h r n M) (x : Rw) {a : Int} (h1 : 1 ≤ a) (h2 : a ≤ n) : d2_law_pressed [.ref r, rowT n x, .int a] h = .ok (rowT n ((sysOf T).press (a.toNat - 1) x)) h := by
  have n6 := T.n6
  have lr : ∀ h' : AH, bLen h' [rowT n x] = some (.int n) := fun h' => by unfold rowT; simp
  have x2 : ∀ h' : AH, opIx h' (rowT n x) (.int (a - 1)) = some (.int (x (a.toNat - 1))) := fun h' => by
    have := ix_row (r := x) (h := h') (k := a - 1) (by omega) (by omega : a - 1 < n)
    rwa [show (a - 1).toNat = a.toNat - 1 by omega] at this
  unfold d2_law_pressed
  refine Runs.call ?_
  (simp only [startE_eq, List.map_cons, List.map_nil, List.length_cons, List.length_nil, List.replicate, List.cons_append, List.nil_append])
  (refine Runs.step fun K Q' hK hQ => ?_; simp [x2]; subst hK hQ)
  (refine Runs.step fun K Q' hK hQ => ?_; simp; subst hK hQ)
  refine Runs.loop (h1 := h ++ [.lst []]) (it := { xs := rangeD 1 n }) (fun i e h' => h' = h ++ [.lst (((lst n ((sysOf T).press (a.toNat - 1) x)).take i).map .int)] ∧ ∃ x5 x6, e = [some (.ref r), some (rowT n x), some (.int a), some (.int (x (a.toNat - 1))), some (.ref h.length), x5, x6]) (ivR2_of (a := 1) (c := (n : Int) + 1) (h1 := h ++ [.lst []]) (h2 := h ++ [.lst []]) (by simp) (by simp [lr]) (by omega) (by omega) (by omega)) ⟨by simp, _, _, rfl⟩ (fun _ _ _ _ _ => rfl) ?_ ?_
  · rintro i d e h' hd ⟨rfl, x5, x6, rfl⟩
    obtain ⟨hi, rfl⟩ := rangeD_get hd
    have x1 := ix_row (r := x) (h := h ++ [.lst (((lst n ((sysOf T).press (a.toNat - 1) x)).take i).map .int)]) (n := n) (k := (1 + (i : Int) - 1)) (by omega) (by omega)
    rw [show (1 + (i : Int) - 1).toNat = i by omega] at x1
    have pe : (lst n ((sysOf T).press (a.toNat - 1) x)).take (i + 1) = (lst n ((sysOf T).press (a.toNat - 1) x)).take i ++ [(sysOf T).press (a.toNat - 1) x i] := by
      rw [List.take_add_one, lst_get _ hi]; rfl
    have g0 : (h ++ [AO.lst (((lst n ((sysOf T).press (a.toNat - 1) x)).take i).map .int)])[h.length]? = some (.lst (((lst n ((sysOf T).press (a.toNat - 1) x)).take i).map .int)) := by simp
    have R1 : RowsAt (h ++ [.lst (((lst n ((sysOf T).press (a.toNat - 1) x)).take i).map .int)]) r n M := R.app _
    have tl : (((lst n ((sysOf T).press (a.toNat - 1) x)).take i).map D.int).length ≤ 1000 := by simp; omega
    have se : ∀ v : Int, (h ++ [AO.lst (((lst n ((sysOf T).press (a.toNat - 1) x)).take i).map .int)]).set h.length (.lst (((lst n ((sysOf T).press (a.toNat - 1) x)).take i).map .int ++ [.int v])) = h ++ [.lst (((lst n ((sysOf T).press (a.toNat - 1) x)).take i ++ [v]).map .int)] := fun v => by
      rw [List.set_append_right _ _ (Nat.le_refl _), Nat.sub_self]; simp
    generalize hh : h ++ [AO.lst (((lst n ((sysOf T).press (a.toNat - 1) x)).take i).map .int)] = hq at *
    refine ⟨_, _, rfl, ?_⟩
    simp only [List.set_cons_succ, List.set_cons_zero]
    refine Runs.asg (d := .int (x i)) (h1 := hq) (by simp [x1]) ?_
    simp only [List.set_cons_succ, List.set_cons_zero]
    have val : pv (evIf (tvOf (evOp opEq (evVar 5) (evVar 2))) (evOp opSub (evC (.int 0)) (evVar 3)) (evOp opAdd (evVar 6) (evOp opMul (evCall d2_law_weight [(evVar 0), (evVar 2), (evVar 5)]) (evVar 3)))) [some (.ref r), some (rowT n x), some (.int a), some (.int (x (a.toNat - 1))), some (.ref h.length), some (.int (1 + (i : Int))), some (.int (x i))] hq = .ok (.int ((sysOf T).press (a.toNat - 1) x i)) hq := by
      by_cases c : 1 + (i : Int) = a
      · have e1 : a.toNat - 1 = i := by omega
        rw [e1]
        have e2 : (sysOf T).press i x i = 0 - x i := by
          unfold Sys.press; rw [(sysOf T).own]; omega
        rw [e2]
        simp [c]
      · have wi := weight2_is T R1 (a := a) (b := 1 + (i : Int)) h1 h2 (by omega) (by omega) (by omega)
        rw [show (1 + (i : Int)).toNat - 1 = i by omega] at wi
        have bd := w_bd (sysOf T) (a.toNat - 1) i
        have m := sm1 (h := hq) (a := (sysOf T).w (a.toNat - 1) i) (b := x (a.toNat - 1)) (by omega) (by omega)
        simp [c, wi, m, Sys.press]
    refine Runs.last fun Q' hQ => ?_
    rw [svExpr_eq, append_eq (n := h.length) rfl g0 val g0 tl, se, toFl_ok]
    subst hQ
    exact ⟨_, _, rfl, by rw [pe], _, _, rfl⟩
  · rintro e h' ⟨rfl, x5, x6, rfl⟩
    simp only [rangeD_length]
    have tk : (lst n ((sysOf T).press (a.toNat - 1) x)).take n = lst n ((sysOf T).press (a.toNat - 1) x) := List.take_of_length_le (by simp)
    rw [tk]
    have bt : bTuple (h ++ [AO.lst ((lst n ((sysOf T).press (a.toNat - 1) x)).map .int)]) [.ref h.length] = some (rowT n ((sysOf T).press (a.toNat - 1) x)) := bTuple_ref (by simp)
    generalize hh : h ++ [AO.lst ((lst n ((sysOf T).press (a.toNat - 1) x)).map .int)] = hq at *
    (refine Runs.last fun Q' hQ => ?_; simp [bt]; subst hQ; try dsimp only)
    rw [← hh]
    have := fin_pure (h := h) (d := rowT n ((sysOf T).press (a.toNat - 1) x)) [AO.lst ((lst n ((sysOf T).press (a.toNat - 1) x)).map .int)] rfl (show D.lts _ _ = true from lts_ints _ _)
    simpa using this
theorem row2_is (T : Tab n M) (R : RowsAt h r n M) {d : D} {w : List Int} (W : WordAt h d w) (hw : Letters n w) : d2_law_row [.ref r, d] h = .ok (rowT n (row (sysOf T) (wd w))) h := by
  unfold d2_law_row
  refine Runs.call ?_
  (simp only [startE_eq, List.map_cons, List.map_nil, List.length_cons, List.length_nil, List.replicate, List.cons_append, List.nil_append])
  obtain ⟨g, ig, gg⟩ := W.its
  (refine Runs.step fun K Q' hK hQ => ?_; simp [R.len, rep_oneT T]; subst hK hQ)
  refine Runs.loop (h1 := h) (it := { xs := w.map .int, g := g }) (fun i e h' => h' = h ∧ ∃ x3, e = [some (.ref r), some d, some (rowT n (row (sysOf T) (wd (w.take i)))), x3]) (by simp [ig]) ⟨rfl, none, by simp [wd, row, Sys.pw]⟩ (fun i e h' _ z => by rw [z.1]; exact gg) ?_ ?_
  · rintro i x e h' hx ⟨rfl, x3, rfl⟩
    simp only [List.getElem?_map, Option.map_eq_some_iff] at hx
    obtain ⟨a, ha, rfl⟩ := hx
    have la := hw a (List.mem_of_getElem? ha)
    have p := pressed2_is T R (row (sysOf T) (wd (w.take i))) la.1 la.2
    refine ⟨_, _, rfl, ?_⟩
    (refine Runs.last fun Q' hQ => ?_; simp [p]; subst hQ; try dsimp only)
    exact ⟨_, _, rfl, rfl, some (.int a), by rw [wd_take_succ ha, row_snoc]⟩
  · rintro e h' ⟨rfl, x3, rfl⟩
    (refine Runs.last fun Q' hQ => ?_; simp; subst hQ; try dsimp only)
    simp
theorem min_row (hn : 1 ≤ n) (x : Rw) : ∃ m, bMin h [rowT n x] = some (.int m) ∧ (m < 0 ↔ belowN n x ≠ []) := by
  have io : ∀ l : List Int, intsOf (l.map D.int) = some l := fun l => by
    induction l with
    | nil => rfl
    | cons a l ih => simp [intsOf, ih]
  cases hl : lst n x with
  | nil => have := congrArg List.length hl; simp at this; omega
  | cons a l =>
    refine ⟨minI a l, ?_, ?_⟩
    · unfold bMin rowT
      simp only [io, hl]
    · constructor
      · intro z e
        have m := minI_mem l a
        rw [← hl] at m
        obtain ⟨i, hi, e2⟩ := List.mem_map.mp m
        have : i ∈ belowN n x := mem_belowN.mpr ⟨List.mem_range.mp hi, by omega⟩
        rw [e] at this; cases this
      · intro z
        obtain ⟨c, hc⟩ := List.exists_mem_of_ne_nil _ z
        obtain ⟨c1, c2⟩ := mem_belowN.mp hc
        have := minI_le l a (x c) (by rw [← hl]; exact List.mem_map.mpr ⟨c, List.mem_range.mpr c1, rfl⟩)
        omega
theorem ones_belowN (n : Nat) : belowN n ones = [] := by unfold belowN ones; simp
theorem back2_is (T : Tab n M) (R : RowsAt h r n M) {v : Wd} (hv : Lts n v) (hl : ell (sysOf T) v ≤ 60) : d2_law_back [.ref r, rowT n (row (sysOf T) v)] h = .ok (.ref h.length) (h ++ [.lst ((up (und (sysOf T) n hd 60 (row (sysOf T) v)).1).map .int)]) := by
  have n6 := T.n6
  have ur := und_row (S := sysOf T) (sysOf_fin T) pick_hd 60 v hv hl
  generalize row (sysOf T) v = x at *
  unfold d2_law_back
  refine Runs.call ?_
  (simp only [startE_eq, List.map_cons, List.map_nil, List.length_cons, List.length_nil, List.replicate, List.cons_append, List.nil_append])
  (refine Runs.step fun K Q' hK hQ => ?_; simp; subst hK hQ)
  refine Runs.while (fun i e h' => ∃ (u : Wd) (x' : Rw) (x3 : Option D), u.length + i = 60 ∧ (und (sysOf T) n hd 60 x) = (u ++ (und (sysOf T) n hd i x').1, (und (sysOf T) n hd i x').2) ∧ h' = h ++ [AO.lst ((up u).map .int)] ∧ e = [some (.ref r), some (rowT n x'), some (.ref h.length), x3, none]) ?_ 100000 60 _ _ (by omega) ⟨[], x, none, rfl, by simp, by simp [up], rfl⟩
  rintro i e h' ⟨u, x', x3, hx, hu, rfl, rfl⟩
  obtain ⟨m, m1, m2⟩ := min_row (h := h ++ [AO.lst ((up u).map .int)]) (n := n) T.n1 x'
  by_cases c : belowN n x' = []
  · left
    have mn : ¬ m < 0 := fun z => m2.mp z c
    have e2 : und (sysOf T) n hd 60 x = (u, x') := by rw [hu, und_stop _ _ _ _ _ c]; simp
    refine ⟨h ++ [AO.lst ((up u).map .int)], by simp [m1, mn], ?_⟩
    rw [e2]
    (refine Runs.last fun Q' hQ => ?_; simp; subst hQ; try dsimp only)
    exact fin_new (Nat.le_refl _)
  · have mn : m < 0 := m2.mpr c
    have ci : i ≠ 0 := fun z => by
      subst z
      have : x' = ones := by have := ur.2.1; rw [hu] at this; simpa [und] using this
      rw [this] at c
      exact c (ones_belowN n)
    right
    obtain ⟨a, z, haz⟩ : ∃ a z, belowN n x' = a :: z := by
      cases hb : belowN n x' with
      | nil => exact absurd hb c
      | cons a z => exact ⟨a, z, rfl⟩
    have an : a < n := (mem_belowN.mp (show a ∈ belowN n x' by rw [haz]; exact List.mem_cons_self)).1
    have R1 : RowsAt (h ++ [.lst ((up u).map .int)]) r n M := R.app _
    have g0 : (h ++ [AO.lst ((up u).map .int)])[h.length]? = some (.lst ((up u).map .int)) := by simp
    have se : (h ++ [AO.lst ((up u).map .int)]).set h.length (.lst ((up u).map .int ++ [.int ((a : Int) + 1)])) = h ++ [.lst ((up (u ++ [a])).map .int)] := by
      rw [List.set_append_right _ _ (Nat.le_refl _), Nat.sub_self]; simp [up]
    have R2 : RowsAt (h ++ [.lst ((up (u ++ [a])).map .int)]) r n M := R.app _
    refine ⟨h ++ [AO.lst ((up u).map .int)], i - 1, by omega, by simp [m1, mn], ?_⟩
    have lc : evLc (ivBy [(evB bLen [(evVar 1)])] kR1) (Tgt.own (.one 4)) (Tgt.gv (.one 4)) (tvOf (evOp opLt (evOp opIx (evVar 1) (evVar 4)) (evC (.int 0)))) (evOp opAdd (evVar 4) (evC (.int 1))) [some (.ref r), some (rowT n x'), some (.ref h.length), x3, none] (h ++ [AO.lst ((up u).map .int)]) = .ok (.tl ((up (belowN n x')).map .int)) (h ++ [AO.lst ((up u).map .int)]) := by
      rw [evLc_range 0 n (fun i => decide (x' i < 0)) (fun (i : Nat) => .int ((i : Int) + 1)) (ivR1_of (by simp [bLen_rowT]) (by omega)) (by omega)]
      · congr 2
        unfold up belowN; rw [List.map_map]; rfl
      · intro i hi
        have x1 := ix_row (r := x') (h := h ++ [AO.lst ((up u).map .int)]) (k := (i : Int)) (by omega) (by omega : (i : Int) < n)
        rw [Int.toNat_natCast] at x1
        exact ⟨_, rfl, by simp [wipeE, Tgt.own, Tgt.gv, x1], fun _ => by simp [wipeE, Tgt.own, Tgt.gv]⟩
    have ix0 : opIx (h ++ [AO.lst ((up u).map .int)]) (.tl ((up (belowN n x')).map .int)) (.int 0) = some (.int ((a : Int) + 1)) := by
      rw [haz]; exact atI_0 _ _
    refine Runs.asg (d := .int ((a : Int) + 1)) (h1 := h ++ [AO.lst ((up u).map .int)]) (by rw [pv_eq, evOp_eq, lc]; simp only [bind_ok, evC_eq, ix0]; simp) ?_
    simp only [List.set_cons_succ, List.set_cons_zero]
    have ap := append_eq (f := evVar 2) (g := evVar 3) (e := [some (.ref r), some (rowT n x'), some (.ref h.length), some (.int ((a : Int) + 1)), none]) (h := h ++ [AO.lst ((up u).map .int)]) (n := h.length) (d := .int ((a : Int) + 1)) rfl g0 rfl g0 (by simp; omega)
    rw [se] at ap
    refine Runs.seq (by rw [svExpr_eq, ap, toFl_ok]) ?_
    have pr := pressed2_is T R2 x' (a := (a : Int) + 1) (by omega) (by omega)
    rw [show ((a : Int) + 1).toNat - 1 = a by omega] at pr
    generalize hh : h ++ [AO.lst ((up (u ++ [a])).map .int)] = h2 at *
    (refine Runs.last fun Q' hQ => ?_; simp [pr]; subst hQ; try dsimp only)
    refine ⟨_, _, rfl, u ++ [a], (sysOf T).press a x', _, by simp; omega, ?_, hh.symm, rfl⟩
    rw [hu]
    obtain ⟨j, rfl⟩ : ∃ j, i = j + 1 := ⟨i - 1, by omega⟩
    rw [und_split _ _ _ _ _ c, haz]
    simp [hd]
theorem WordAt.list {d : D} {w : List Int} (W : WordAt h d w) : bList h [d] = some (.tl (w.map .int)) := by
  rcases W with rfl | ⟨k, rfl, e⟩
  · simp
  · simp [bList, seqOf_ref e]
theorem least2_is (T : Tab n M) (R : RowsAt h r n M) {d : D} {w : List Int} (W : WordAt h d w) (hw : Letters n w) (he : ell (sysOf T) (wd w) ≤ 60) : d2_law_least [.ref r, d] h = .ok (upT (least (sysOf T) n (wd w))) h := by
  have R1 : RowsAt (h ++ [.lst (w.reverse.map .int)]) r n M := R.app _
  have rw1 := row2_is T R1 (d := .ref h.length) (w := w.reverse) (.inr ⟨_, rfl, by simp⟩) hw.rev
  rw [wd_reverse] at rw1
  have bk := back2_is T R1 (v := (wd w).reverse) (wd_lts hw).rev (by rw [ell_rev]; exact he)
  have ls := W.list
  unfold d2_law_least
  refine Runs.call ?_
  (simp only [startE_eq, List.map_cons, List.map_nil, List.length_cons, List.length_nil, List.replicate, List.cons_append, List.nil_append])
  have e1 : (und (sysOf T) n hd 60 (row (sysOf T) (wd w).reverse)).1 = least (sysOf T) n (wd w) := rfl
  rw [e1] at bk
  have bt : bTuple (h ++ [AO.lst (w.reverse.map .int)] ++ [.lst ((up (least (sysOf T) n (wd w))).map .int)]) [.ref (h ++ [AO.lst (w.reverse.map .int)]).length] = some (upT (least (sysOf T) n (wd w))) := bTuple_ref (by simp)
  generalize hh : h ++ [AO.lst (w.reverse.map .int)] = h1 at *
  have ev : evRev (evB bList [(evVar 1)]) [some (.ref r), some d] h = .ok (.tl (w.reverse.map .int)) h := by simp [ls]
  have ev2 : evCall d2_law_row [(evVar 0), (evRev (evB bList [(evVar 1)]))] [some (.ref r), some d] h = .ok (rowT n (row (sysOf T) (wd w).reverse)) h1 := by
    rw [evCall_eq, evsV_cons, pv_eq, evVar_eq]
    simp only [List.getElem?_cons_zero, ofV_some, bind_ok, promote_ref, evsV_cons, pv_eq, ev, promote_tl, evsV_nil]
    rw [hh]; simp only [bind_ok, rw1]
  refine Runs.last fun Q' hQ => ?_
  have ev3 : evCall d2_law_back [(evVar 0), evCall d2_law_row [(evVar 0), (evRev (evB bList [(evVar 1)]))]] [some (.ref r), some d] h = .ok (.ref h1.length) (h1 ++ [.lst ((up (least (sysOf T) n (wd w))).map .int)]) := by
    rw [evCall_eq, evsV_cons, pv_eq, evVar_eq]
    simp only [List.getElem?_cons_zero, ofV_some, bind_ok, promote_ref, evsV_cons, pv_eq, ev2, promote_rowT, evsV_nil, bk]
  have ev4 : evB bTuple [evCall d2_law_back [(evVar 0), evCall d2_law_row [(evVar 0), (evRev (evB bList [(evVar 1)]))]]] [some (.ref r), some d] h = .ok (upT (least (sysOf T) n (wd w))) (h1 ++ [.lst ((up (least (sysOf T) n (wd w))).map .int)]) := by
    rw [evB_eq, evs_cons, ev3]; simp only [bind_ok, evs_nil, bt, ofO_some2]
  show Q' (svRet (evB bTuple [evCall d2_law_back [(evVar 0), evCall d2_law_row [(evVar 0), (evRev (evB bList [(evVar 1)]))]]]) [some (.ref r), some d] h)
  rw [svRet_eq, ev4, toFl_ok]
  subst hQ
  dsimp only
  rw [fin_ret, ← hh, List.append_assoc]
  exact fin_pure _ rfl (show D.lts _ _ = true from lts_ints _ _)
end
end BW

set_option Elab.async false
set_option linter.all false
namespace Cox
section
open Sys
variable {S : Sys}
theorem pw_shift (a : Nat) (t : Int) : ∀ (u : Wd) (r r' : Rw), a ∉ u → (∀ b, r' b = r b + if b = a then t else 0) → ∀ b, S.pw u r' b = S.pw u r b + if b = a then t else 0
  | [], _, _, _, h, b => h b
  | c :: u, r, r', hu, h, b => by
    have ca : c ≠ a := fun z => hu (by rw [z]; exact List.mem_cons_self)
    refine pw_shift a t u (S.press c r) (S.press c r') (fun z => hu (List.mem_cons_of_mem _ z)) (fun d => ?_) b
    simp only [Sys.press]
    rw [h d, h c, if_neg ca, Int.add_zero]
    split <;> omega
theorem new_longer {u : Wd} {a : Nat} (h : a ∉ u) : ell S (u ++ [a]) = ell S u + 1 := by
  rcases ell_step (S := S) u a with z | z
  · exact z
  · exfalso
    -- the shortest word behind, then the letter
    obtain ⟨v, a1, a2, a3⟩ := ell_ex S (u ++ [a])
    have al : Alike S u (v ++ [a]) := (out_end u a).symm.trans (a1.right [a])
    have sv : ell S (v ++ [a]) = v.length + 1 := by rw [← ell_congr al, z, ← a3]
    -- rows with a great number at a
    have p : ∀ r : Rw, (∀ b, 0 < r b) → S.pw u r a < 0 := fun r hr => by
      have := pos (S := S) v.length v a rfl a2 sv r hr
      rw [al.pw r, pw_append]
      show S.press a (S.pw v r) a < 0
      simp only [Sys.press, S.own]
      omega
    have p1 := p ones (fun _ => by unfold ones; decide)
    have big := p (fun b => ones b + if b = a then (1 - S.pw u ones a) else 0) (fun b => by
      have : ones b = 1 := rfl
      rw [this]
      split <;> omega)
    rw [pw_shift a (1 - S.pw u ones a) u ones _ h (fun b => rfl) a, if_pos rfl] at big
    omega
def In (J : Nat → Prop) (u : Wd) : Prop := ∀ a ∈ u, J a
theorem In.app {J : Nat → Prop} {u v : Wd} (h : In J u) (g : In J v) : In J (u ++ v) := fun a ha => (List.mem_append.mp ha).elim (h a) (g a)
theorem In.rev {J : Nat → Prop} {u : Wd} (h : In J u) : In J u.reverse := fun a ha => h a (List.mem_reverse.mp ha)
theorem In.nil (J : Nat → Prop) : In J [] := fun _ h => nomatch h
theorem In.one {J : Nat → Prop} {a : Nat} (h : J a) : In J [a] := fun b hb => by rw [List.mem_singleton.mp hb]; exact h
theorem und_in {J : Nat → Prop} {n : Nat} {pk : Wd → Nat} (hp : Pick pk) : ∀ (k : Nat) (u : Wd), In J u → In J (und S n pk k (row S u)).1
  | 0, u, _ => In.nil J
  | k + 1, u, hu => by
    unfold und
    by_cases hb : belowN n (row S u) = []
    · rw [if_pos hb]; exact In.nil J
    · rw [if_neg hb]
      have m := mem_belowN.mp (hp _ hb)
      have ja : J (pk (belowN n (row S u))) := by
        apply Classical.byContradiction
        intro z
        have : pk (belowN n (row S u)) ∉ u := fun q => z (hu _ q)
        have e := new_longer (S := S) this
        have e2 := (row_neg_iff (S := S) u _).mp m.2
        omega
      have ih := und_in (n := n) hp k (u ++ [pk (belowN n (row S u))]) (hu.app (In.one ja))
      rw [row_snoc] at ih
      intro a ha
      rcases List.mem_cons.mp ha with rfl | ha
      · exact ja
      · exact ih a ha
theorem least_in {J : Nat → Prop} {n : Nat} {u : Wd} (h : In J u) : In J (least S n u) := und_in pick_hd 60 u.reverse h.rev
def endsN (c : Wd) (r : Rw) : Wd := c.filter fun a => decide (r a < 0)
def prt (S : Sys) (c : Wd) : Nat → Rw → Wd × Rw
  | 0, r => ([], r)
  | k + 1, r => match endsN c r with
    | [] => ([], r)
    | a :: _ => (a :: (prt S c k (S.press a r)).1, (prt S c k (S.press a r)).2)
theorem mem_endsN {c : Wd} {r : Rw} {a : Nat} : a ∈ endsN c r ↔ a ∈ c ∧ r a < 0 := by simp [endsN]
theorem prt_facts {n : Nat} (F : S.Fin n) {c : Wd} (hc : Lts n c) : ∀ (k : Nat) (u : Wd), Lts n u → ell S u ≤ k → ∃ x : Wd, (prt S c k (row S u)).1 = x ∧ (prt S c k (row S u)).2 = row S (u ++ x) ∧ endsN c (row S (u ++ x)) = [] ∧ ell S u = ell S (u ++ x) + x.length ∧ (∀ a ∈ x, a ∈ c)
  | 0, u, hu, h => by
    refine ⟨[], rfl, by rw [List.append_nil]; rfl, ?_, by simp, fun _ h => nomatch h⟩
    rw [List.append_nil]
    have z := ell_zero (S := S) (u := u) (by omega)
    rw [z.row]
    unfold endsN row Sys.pw ones; simp
  | k + 1, u, hu, h => by
    cases he : endsN c (row S u) with
    | nil =>
      refine ⟨[], ?_, ?_, by rw [List.append_nil]; exact he, by simp, fun _ h => nomatch h⟩
      · unfold prt; rw [he]
      · unfold prt; rw [he, List.append_nil]
    | cons a z =>
      have m := mem_endsN.mp (show a ∈ endsN c (row S u) by rw [he]; exact List.mem_cons_self)
      have e := (row_neg_iff (S := S) u a).mp m.2
      obtain ⟨x, x1, x2, x3, x4, x5⟩ := prt_facts F hc k (u ++ [a]) (hu.app (fun b hb => by rw [List.mem_singleton.mp hb]; exact hc a m.1)) (by omega)
      rw [row_snoc] at x1 x2
      refine ⟨a :: x, ?_, ?_, ?_, ?_, ?_⟩
      · unfold prt; rw [he]; simp only [x1]
      · unfold prt; rw [he]; simp only [x2]; rw [List.append_assoc]; rfl
      · have : u ++ a :: x = u ++ [a] ++ x := by simp
        rw [this]; exact x3
      · have : u ++ a :: x = u ++ [a] ++ x := by simp
        rw [this, List.length_cons]; omega
      · intro b hb
        rcases List.mem_cons.mp hb with rfl | hb
        · exact m.1
        · exact x5 b hb
theorem prt_fuel {n : Nat} (F : S.Fin n) {c : Wd} (hc : Lts n c) : ∀ (k k' : Nat) (u : Wd), Lts n u → ell S u ≤ k → ell S u ≤ k' → prt S c k (row S u) = prt S c k' (row S u)
  | 0, k', u, hu, h, h' => by
    have z := ell_zero (S := S) (u := u) (by omega)
    have b : endsN c (row S u) = [] := by rw [z.row]; unfold endsN row Sys.pw ones; simp
    cases k' with
    | zero => rfl
    | succ k' => unfold prt; rw [b]
  | k + 1, k', u, hu, h, h' => by
    cases he : endsN c (row S u) with
    | nil =>
      cases k' with
      | zero => unfold prt; rw [he]
      | succ k' => unfold prt; rw [he]
    | cons a z =>
      have m := mem_endsN.mp (show a ∈ endsN c (row S u) by rw [he]; exact List.mem_cons_self)
      have e := (row_neg_iff (S := S) u a).mp m.2
      cases k' with
      | zero => omega
      | succ k' =>
        have ih := prt_fuel F hc k k' (u ++ [a]) (hu.app (fun b hb => by rw [List.mem_singleton.mp hb]; exact hc a m.1)) (by omega) (by omega)
        rw [row_snoc] at ih
        unfold prt
        rw [he]
        simp only [ih]
def front (S : Sys) (n : Nat) (c u : Wd) : Wd := least S n (u ++ (prt S c 60 (row S u)).1)
def rest (S : Sys) (n : Nat) (c u : Wd) : Wd := least S n (prt S c 60 (row S u)).1.reverse
structure Parts (S : Sys) (c u f r : Wd) : Prop where
  al : Alike S u (f ++ r)
  len : ell S u = f.length + r.length
  sf : Short S f
  sr : Short S r
  within : ∀ a ∈ r, a ∈ c
  ahead : endsN c (row S f) = []
theorem parts {n : Nat} (F : S.Fin n) {c u : Wd} (hc : Lts n c) (hu : Lts n u) (hl : ell S u ≤ 60) : Parts S c u (front S n c u) (rest S n c u) ∧ Lts n (front S n c u) ∧ Lts n (rest S n c u) ∧ Alike S (front S n c u) (u ++ (prt S c 60 (row S u)).1) ∧ Alike S (rest S n c u) (prt S c 60 (row S u)).1.reverse := by
  obtain ⟨x, x1, x2, x3, x4, x5⟩ := prt_facts F hc 60 u hu hl
  unfold front rest
  rw [x1]
  have hx : Lts n x := fun a ha => hc a (x5 a ha)
  have f1 := least_facts (S := S) (n := n) F (u := u ++ x) (hu.app hx) (by omega)
  have xl := ell_le (S := S) x.reverse
  rw [List.length_reverse] at xl
  have f2 := least_facts (S := S) (n := n) F (u := x.reverse) hx.rev (by omega)
  have al : Alike S u (least S n (u ++ x) ++ least S n x.reverse) := by
    have z1 := (undo_right (S := S) x).left u
    have z2 := f1.1.symm.app f2.1.symm
    rw [List.append_nil, ← List.append_assoc] at z1
    exact z1.symm.trans z2
  have le : ell S u ≤ ell S (u ++ x) + ell S x.reverse := by
    have := ell_app (S := S) (least S n (u ++ x)) (least S n x.reverse)
    rw [← ell_congr al, ell_congr f1.1, ell_congr f2.1] at this
    exact this
  refine ⟨⟨al, by omega, f1.2.1, f2.2.1, ?_, ?_⟩, f1.2.2.2, f2.2.2.2, f1.1, f2.1⟩
  · exact least_in (J := fun a => a ∈ c) (In.rev x5)
  · rw [f1.1.row]; exact x3
end
end Cox
namespace Cox
section
open Sys
variable {S : Sys}
theorem front_congr {n : Nat} {c u v : Wd} (h : Alike S u v) : front S n c u = front S n c v := by
  unfold front
  rw [h.row]
  exact least_congr (h.right _)
end
end Cox

set_option Elab.async false
set_option linter.all false
set_option maxRecDepth 100000
set_option maxHeartbeats 4000000
namespace BW
open PySem Cox
structure Chosen (n : Nat) (c : Wd) : Prop where
  lts : Lts n c
  asc : c.Pairwise (· < ·)
theorem asc_from {n : Nat} : ∀ (c : Wd) (lo : Nat), (∀ a ∈ c, lo ≤ a ∧ a < n) → c.Pairwise (· < ·) → c.length ≤ n - lo
  | [], _, _, _ => Nat.zero_le _
  | a :: l, lo, h, p => by
    obtain ⟨p1, p2⟩ := List.pairwise_cons.mp p
    have z := h a List.mem_cons_self
    have ih := asc_from l (a + 1) (fun x hx => ⟨p1 x hx, (h x (List.mem_cons_of_mem _ hx)).2⟩) p2
    rw [List.length_cons]
    omega
theorem asc_len {n : Nat} (c : Wd) (hl : Lts n c) (ha : c.Pairwise (· < ·)) : c.length ≤ n := by
  have := asc_from c 0 (fun a h => ⟨Nat.zero_le _, hl a h⟩) ha
  omega
theorem asc_zip : ∀ (c : Wd), c.Pairwise (· < ·) → ∀ p ∈ c.zip c.tail, p.1 < p.2
  | [], _, p, h => by simp at h
  | [a], _, p, h => by simp at h
  | a :: b :: l, w, p, h => by
    obtain ⟨p1, p2⟩ := List.pairwise_cons.mp w
    simp only [List.tail_cons, List.zip_cons_cons, List.mem_cons] at h
    rcases h with rfl | h
    · exact p1 b List.mem_cons_self
    · exact asc_zip (b :: l) p2 p h
theorem zip_up : ∀ (c d : Wd), zipD ((up c).map .int) ((up d).map .int) = (c.zip d).map fun p => D.tup [.int ((p.1 : Int) + 1), .int ((p.2 : Int) + 1)]
  | [], _ => by simp [zipD, up]
  | _ :: _, [] => by simp [zipD, up]
  | a :: c, b :: d => by
    have := zip_up c d
    simp only [zipD, up, List.map_cons, List.zipWith_cons_cons, List.zip_cons_cons] at this ⊢
    rw [this]
theorem bls_true : ∀ k : Nat, blsOf (List.replicate k (.bl true)) = some (List.replicate k true)
  | 0 => rfl
  | k + 1 => by simp [List.replicate_succ, blsOf, bls_true k]
theorem all_true (h : AH) (k : Nat) : bAll h [.tl (List.replicate k (.bl true))] = some (.bl true) := by
  unfold bAll
  simp only [lstOfR, Option.bind_some, bls_true, Option.map_some]
  simp
theorem bls_map {α : Type} (p : α → Bool) : ∀ l : List α, blsOf (l.map fun a => .bl (p a)) = some (l.map p)
  | [] => rfl
  | a :: l => by simp [blsOf, bls_map p l]
theorem all_map {α : Type} (h : AH) (p : α → Bool) (l : List α) : bAll h [.tl (l.map fun a => .bl (p a))] = some (.bl (l.all p)) := by
  unfold bAll
  simp only [lstOfR, Option.bind_some, bls_map, Option.map_some]
  simp [List.all_map]
section
variable {h : AH} {b r n : Nat} {M : Nat → Nat → Int}
theorem isChoice_is (B : BondsAt h b n M) (hn : n ≤ 6) {c : Wd} (C : Chosen n c) : d_is_choice [.ref b, upT c] h = .ok (.bl true) h := by
  have cl := asc_len c C.lts C.asc
  unfold d_is_choice
  refine Runs.call ?_
  (simp only [startE_eq, List.map_cons, List.map_nil, List.length_cons, List.length_nil, List.replicate, List.cons_append, List.nil_append])
  have ln := fun e (he : evVar 0 e h = .ok (.ref b) h) => lenO_eq B (by omega) (f := evVar 0) (e := e) (h0 := h) he
  have l1 : evLc (ivSeq (evVar 1)) (Tgt.own (.one 2)) (Tgt.gv (.one 2)) tvYes (evCall d_is_among [(evVar 2), (evC (.int 1)), (evLenO "Bonds" d_Bonds___len__ (evVar 0))]) [some (.ref b), some (upT c), none, none, none] h = .ok (.tl (List.replicate c.length (.bl true))) h := by
    rw [evLc_ix { xs := (up c).map .int } (List.replicate c.length (.bl true)) (by simp [upT]) (by simp) (by simp; omega) rfl]
    intro i d y hd hy
    rw [List.getElem?_map, Option.map_eq_some_iff] at hd
    obtain ⟨a, ha, rfl⟩ := hd
    have am := List.mem_of_getElem? ha
    have la := up_letters C.lts a am
    have : y = .bl true := by
      rw [List.getElem?_replicate] at hy
      split at hy <;> cases hy; rfl
    subst this
    refine ⟨_, rfl, ?_⟩
    have lnn := ln [some (.ref b), some (upT c), some (.int a), none, none] rfl
    simp [wipeE, Tgt.own, lnn, la.1, la.2]
  have ty : tyD h (upT c) = some "tuple" := rfl
  have ty2 : isiD "tuple" "tuple" = true := by decide
  have ct : cutD ((up c).map D.int) (some 1) none = (up c.tail).map .int := by
    rw [cut_from (by omega)]
    simp [up]
  have l2 : evLc (ivBy [(evVar 1), (evSl (evVar 1) (pvSome (evC (.int 1))) pvNone)] kZip) (Tgt.own (.two 3 4)) (Tgt.gv (.two 3 4)) tvYes (evOp opLt (evVar 3) (evVar 4)) [some (.ref b), some (upT c), none, none, none] h = .ok (.tl ((c.zip c.tail).map fun _ => .bl true)) h := by
    have kz : kZip [upT c, .tup ((up c.tail).map .int)] h = .ok { xs := zipD ((up c).map .int) ((up c.tail).map .int) } h := rfl
    rw [zip_up] at kz
    have iv : ivBy [(evVar 1), (evSl (evVar 1) (pvSome (evC (.int 1))) pvNone)] kZip [some (.ref b), some (upT c), none, none, none] h = .ok { xs := (c.zip c.tail).map fun p => D.tup [.int ((p.1 : Int) + 1), .int ((p.2 : Int) + 1)] } h := by
      rw [ivBy_eq, evs_cons, evVar_eq]
      simp only [List.getElem?_cons_zero, List.getElem?_cons_succ, ofV_some, bind_ok, evs_cons, evs_nil, evSl_eq, evVar_eq, pvSome_eq, evC_eq, pvI_int, pvNone_eq]
      rw [show slD h (upT c) (some 1) none = some (.tup ((up c.tail).map .int)) by unfold upT; rw [slD_tup, ct]]
      simp only [ofO_some2, bind_ok]
      exact kz
    refine evLc_onM none (fun p : Nat × Nat => D.tup [.int ((p.1 : Int) + 1), .int ((p.2 : Int) + 1)]) (fun _ => .bl true) (c.zip c.tail) iv (by simp; omega) rfl fun p hp => ?_
    have lt := asc_zip c C.asc p hp
    refine ⟨_, rfl, ?_⟩
    have : ((p.1 : Int) + 1 < (p.2 : Int) + 1) := by omega
    simp [wipeE, Tgt.own, this]
  refine Runs.step fun K Q' hK hQ => ?_
  rw [svIf_eq]
  simp [ty, ty2, l1, all_true, -evLc_eq]
  subst hK hQ
  refine Runs.last fun Q' hQ => ?_
  rw [svRet_eq, evB_eq, evs_cons, l2]
  have al := all_map h (fun _ : Nat × Nat => true) (c.zip c.tail)
  simp only [bind_ok, evs_nil, al, ofO_some2, toFl_ok]
  subst hQ
  simp
end
end BW

set_option Elab.async false
set_option linter.all false
set_option maxRecDepth 100000
set_option maxHeartbeats 4000000
namespace BW
open PySem Cox
section
variable {h : AH} {b r n : Nat} {M : Nat → Nat → Int}
theorem up_filter (p : Nat → Bool) (c : Wd) : ((c.filter p).map fun (a : Nat) => D.int ((a : Int) + 1)) = (up (c.filter p)).map .int := by unfold up; rw [List.map_map]; rfl
theorem up_map (c : Wd) : (c.map fun (a : Nat) => D.int ((a : Int) + 1)) = (up c).map .int := by unfold up; rw [List.map_map]; rfl
theorem ix_let (x : Rw) {a : Nat} (ha : a < n) (h : AH) : opIx h (rowT n x) (.int ((a : Int) + 1 - 1)) = some (.int (x a)) := by
  have := ix_row (r := x) (h := h) (n := n) (k := (a : Int) + 1 - 1) (by omega) (by omega)
  rwa [show ((a : Int) + 1 - 1).toNat = a by omega] at this
theorem endsIn_is (x : Rw) {c : Wd} (C : Chosen n c) (hn : n ≤ 6) : d_ends_in [rowT n x, upT c] h = .ok (.ref h.length) (h ++ [.lst ((up (endsN c x)).map .int)]) := by
  have cl := asc_len c C.lts C.asc
  unfold d_ends_in
  refine Runs.call ?_
  (simp only [startE_eq, List.map_cons, List.map_nil, List.length_cons, List.length_nil, List.replicate, List.cons_append, List.nil_append])
  refine Runs.last fun Q' hQ => ?_
  have lc := evLc_on (iv := ivSeq (evVar 1)) (own := Tgt.own (.one 2)) (gv := Tgt.gv (.one 2)) (tt := tvOf (evOp opLt (evOp opIx (evVar 0) (evOp opSub (evVar 2) (evC (.int 1)))) (evC (.int 0)))) (elt := evVar 2) (e := [some (rowT n x), some (upT c), none]) (h := h) none (fun (a : Nat) => D.int ((a : Int) + 1)) (fun a => decide (x a < 0)) (fun (a : Nat) => D.int ((a : Int) + 1)) c (by rw [up_map]; exact ivSeq_of (d := upT c) rfl (itsOf_tup _ _)) (by omega) rfl (fun a ha => by
    have ix := ix_let x (C.lts a ha) h
    refine ⟨_, rfl, ?_, fun _ => by simp [wipeE, Tgt.own]⟩
    simp only [tvOf_eq, evOp_eq, evVar_eq, evC_eq]
    simp only [wipeE, Tgt.own, List.set_cons_succ, List.set_cons_zero, List.getElem?_cons_zero, List.getElem?_cons_succ, ofV_some, bind_ok, opSub_int, ofO_some2, ix, opLt_int]
    simp)
  rw [up_filter] at lc
  rw [svRet_eq, lc]
  subst hQ
  have e1 : (c.filter fun a => decide (x a < 0)) = endsN c x := rfl
  rw [e1]
  simp [BW.fin, D.lt]
theorem needChoice_is (B : BondsAt h b n M) (hn : n ≤ 6) {c : Wd} (C : Chosen n c) : d_need_choice [.ref b, upT c] h = .ok .non h := by
  unfold d_need_choice
  refine Runs.call ?_
  (simp only [startE_eq, List.map_cons, List.map_nil, List.length_cons, List.length_nil, List.replicate, List.cons_append, List.nil_append])
  (refine Runs.last fun Q' hQ => ?_; simp [isChoice_is B hn C]; subst hQ; try dsimp only)
  simp
theorem wordBy_is (T : Tab n M) (B : BondsAt h b n M) {u : Wd} (hu : Lts n u) (hl : ell (sysOf T) u ≤ 60) : d_word_by [.ref b, rowT n (row (sysOf T) u)] h = .ok (upT (least (sysOf T) n u)) h := by
  have ur := und_row (S := sysOf T) (sysOf_fin T) pick_hd 60 u hu hl
  have uf := und_facts (S := sysOf T) (n := n) pick_hd 60 (row (sysOf T) u)
  have un := undoneRow_is T B hu hl
  generalize hz : (und (sysOf T) n hd 60 (row (sysOf T) u)).1 = z at *
  have alz : Alike (sysOf T) z.reverse u := by
    have z2 := (ur.2.2.right z.reverse)
    have z3 := (undo_right (S := sysOf T) z).left u
    simp only [List.append_nil, List.nil_append, List.append_assoc] at z2 z3
    exact z2.symm.trans z3
  have sb := shortestBy_is T B (wordU h z.reverse) (up_letters (Lts.rev uf.2.2)) (by rw [wd_up, ell_congr alz]; exact hl)
  rw [wd_up, least_congr alz] at sb
  unfold d_word_by
  refine Runs.call ?_
  (simp only [startE_eq, List.map_cons, List.map_nil, List.length_cons, List.length_nil, List.replicate, List.cons_append, List.nil_append])
  (refine Runs.last fun Q' hQ => ?_; simp [un, sb]; subst hQ; try dsimp only)
  simp
theorem ne_lstW {k : Nat} {u : Wd} (e : h[k]? = some (.lst ((up u).map .int))) : opNe h (.ref k) (.tl []) = some (.bl (!decide (u = []))) := by
  have := ne_lst e
  rw [this]
  congr 3
  simp [up]
theorem partedBy_is (T : Tab n M) (B : BondsAt h b n M) {c : Wd} (C : Chosen n c) {d : D} {w : List Int} (W : WordAt h d w) (hw : Letters n w) (hl : w.length ≤ 60) : d_parted_by [.ref b, d, upT c] h = .ok (.tup [upT (front (sysOf T) n c (wd w)), upT (rest (sysOf T) n c (wd w))]) h := by
  have n6 := T.n6
  have F := sysOf_fin T
  have he := ell60 T hl
  have rb := rowby_is T B W hw
  obtain ⟨P, ltf, ltr, alf, alr⟩ := parts F C.lts (wd_lts hw) he
  obtain ⟨xs, q1, q2, q3, q4, q5⟩ := prt_facts F C.lts 60 (wd w) (wd_lts hw) he
  unfold front rest at *
  rw [q1] at P ltf ltr alf alr
  rw [q1]
  have ltx : Lts n xs := fun a ha => C.lts a (q5 a ha)
  unfold d_parted_by
  refine Runs.call ?_
  (simp only [startE_eq, List.map_cons, List.map_nil, List.length_cons, List.length_nil, List.replicate, List.cons_append, List.nil_append])
  (refine Runs.step fun K Q' hK hQ => ?_; simp [W.prom, rb, setAll]; subst hK hQ)
  have en := endsIn_is (h := h ++ [.lst []]) (row (sysOf T) (wd w)) C n6
  have g1 : (h ++ [AO.lst []] ++ [AO.lst ((up (endsN c (row (sysOf T) (wd w)))).map .int)])[h.length + 1]? = some (.lst ((up (endsN c (row (sysOf T) (wd w)))).map .int)) := by
    have := get2b h (AO.lst []) (AO.lst ((up (endsN c (row (sysOf T) (wd w)))).map .int))
    simpa using this
  (refine Runs.step fun K Q' hK hQ => ?_; simp [en]; subst hK hQ)
  refine Runs.while (fun i e h' => ∃ (x : Wd) (q : Nat) (t : AH), x.length + i = 60 ∧ prt (sysOf T) c 60 (row (sysOf T) (wd w)) = (x ++ (prt (sysOf T) c i (row (sysOf T) (wd w ++ x))).1, (prt (sysOf T) c i (row (sysOf T) (wd w ++ x))).2) ∧ Lts n x ∧ ell (sysOf T) (wd w ++ x) ≤ i ∧ h' = h ++ AO.lst ((up x).map .int) :: t ∧ h.length < q ∧ h'[q]? = some (.lst ((up (endsN c (row (sysOf T) (wd w ++ x)))).map .int)) ∧ e = [some (.ref b), some d, some (upT c), some (rowT n (row (sysOf T) (wd w ++ x))), some (.ref h.length), some (.ref q)]) ?_ 100000 60 _ _ (by omega) ⟨[], h.length + 1, [AO.lst ((up (endsN c (row (sysOf T) (wd w)))).map .int)], rfl, by simp, Cox.lts_nil n, by simpa using he, by simp [up], by omega, by simpa using g1, by simp⟩
  rintro i e h' ⟨x, q, t, hx, hp, lx, hel, rfl, hq, gq, rfl⟩
  have B1 : BondsAt (h ++ AO.lst ((up x).map .int) :: t) b n M := B.app _
  have g0 : (h ++ AO.lst ((up x).map .int) :: t)[h.length]? = some (.lst ((up x).map .int)) := by simp
  have ne := ne_lstW gq
  have xl : x.length ≤ 60 := by omega
  cases hE : endsN c (row (sysOf T) (wd w ++ x)) with
  | nil =>
    left
    rw [hE, decide_eq_true rfl] at ne
    have st0 : prt (sysOf T) c i (row (sysOf T) (wd w ++ x)) = ([], row (sysOf T) (wd w ++ x)) := by
      cases i with
      | zero => rfl
      | succ i => unfold prt; rw [hE]
    rw [st0, List.append_nil] at hp
    have ex : x = xs := by rw [← q1, hp]
    subst ex
    have wb := wordBy_is T B1 (u := wd w ++ x) ((wd_lts hw).app lx) (by omega)
    have sb := shortestBy_is T B1 (wordU _ x.reverse) (up_letters lx.rev) (by rw [wd_up]; exact Nat.le_trans (ell_le _) (by simp; omega))
    rw [wd_up] at sb
    have rv := revD_ref g0
    generalize hh : h ++ AO.lst ((up x).map .int) :: t = h2 at *
    refine ⟨h2, by simp [ne], ?_⟩
    have bt : bTuple h2 [.tl ((up x).map .int).reverse] = some (upT x.reverse) := by
      have : ((up x).map D.int).reverse = (up x.reverse).map .int := by rw [up_reverse, List.map_reverse]
      rw [this]; rfl
    refine Runs.last fun Q' hQ => ?_
    have ev : evB bTuple [evRev (evVar 4)] [some (.ref b), some d, some (upT c), some (rowT n (row (sysOf T) (wd w ++ x))), some (.ref h.length), some (.ref q)] h2 = .ok (upT x.reverse) h2 := by
      rw [evB_eq, evs_cons, evRev_eq, evVar_eq]
      simp only [List.getElem?_cons_zero, List.getElem?_cons_succ, ofV_some, bind_ok, rv, ofO_some2, evs_nil, bt]
    rw [svRet_eq, evTup_eq, evsV_cons, pv_eq, evCall_eq, evsV_cons]
    simp only [pv_eq, evVar_eq, List.getElem?_cons_zero, List.getElem?_cons_succ, ofV_some, bind_ok, promote_ref, evsV_cons, promote_rowT, evsV_nil, wb, promote_upT, evCall_eq, ev, sb]
    subst hQ
    rw [if_pos (by simp), toFl_ok]
    dsimp only
    rw [fin_ret, ← hh]
    exact fin_pure _ rfl (by rw [lt_tup, lts_cons, lts_cons]; exact Bool.and_eq_true_iff.mpr ⟨show D.lts _ _ = true from lts_ints _ _, Bool.and_eq_true_iff.mpr ⟨show D.lts _ _ = true from lts_ints _ _, rfl⟩⟩)
  | cons a z =>
    have m := mem_endsN.mp (show a ∈ endsN c (row (sysOf T) (wd w ++ x)) by rw [hE]; exact List.mem_cons_self)
    have e2 := (row_neg_iff (S := sysOf T) (wd w ++ x) a).mp m.2
    have an := C.lts a m.1
    right
    rw [hE, decide_eq_false (by simp)] at ne
    obtain ⟨j, rfl⟩ : ∃ j, i = j + 1 := ⟨i - 1, by omega⟩
    have ix0 : ∀ h' : AH, h'[q]? = some (.lst ((up (endsN c (row (sysOf T) (wd w ++ x)))).map .int)) → opIx h' (.ref q) (.int 0) = some (.int ((a : Int) + 1)) := fun h' g => by
      rw [opIx_ref g, hE]; exact atI_0 _ _
    have ap := append_eq (f := evVar 4) (g := evOp opIx (evVar 5) (evC (.int 0))) (e := [some (.ref b), some d, some (upT c), some (rowT n (row (sysOf T) (wd w ++ x))), some (.ref h.length), some (.ref q)]) (h := h ++ AO.lst ((up x).map .int) :: t) (n := h.length) (d := .int ((a : Int) + 1)) rfl g0 (by
      have := ix0 _ gq
      generalize h ++ AO.lst ((up x).map .int) :: t = h2 at *
      simp [this]) g0 (by simp; omega)
    have se : (h ++ AO.lst ((up x).map .int) :: t).set h.length (.lst ((up x).map .int ++ [.int ((a : Int) + 1)])) = h ++ .lst ((up (x ++ [a])).map .int) :: t := by
      rw [List.set_append_right _ _ (Nat.le_refl _), Nat.sub_self]; simp [up]
    rw [se] at ap
    have gq2 : (h ++ AO.lst ((up (x ++ [a])).map .int) :: t)[q]? = some (.lst ((up (endsN c (row (sysOf T) (wd w ++ x)))).map .int)) := by
      rw [List.getElem?_append_right (by omega)] at gq ⊢
      obtain ⟨k, hk⟩ : ∃ k, q - h.length = k + 1 := ⟨q - h.length - 1, by omega⟩
      rw [hk] at gq ⊢
      exact gq
    have B2 : BondsAt (h ++ AO.lst ((up (x ++ [a])).map .int) :: t) b n M := B.app _
    refine ⟨h ++ AO.lst ((up x).map .int) :: t, j, by omega, ?_, ?_⟩
    · generalize h ++ AO.lst ((up x).map .int) :: t = h2 at *
      simp [ne]
    refine Runs.seq (by rw [svExpr_eq, ap, toFl_ok]) ?_
    have pr := pressed_is T B2 (row (sysOf T) (wd w ++ x)) (a := (a : Int) + 1) (by omega) (by omega)
    rw [show ((a : Int) + 1).toNat - 1 = a by omega, ← row_snoc, List.append_assoc] at pr
    have ixx := ix0 _ gq2
    have en2 := endsIn_is (h := h ++ AO.lst ((up (x ++ [a])).map .int) :: t) (row (sysOf T) (wd w ++ (x ++ [a]))) C n6
    have gl : (h ++ AO.lst ((up (x ++ [a])).map .int) :: t ++ [AO.lst ((up (endsN c (row (sysOf T) (wd w ++ (x ++ [a]))))).map .int)])[(h ++ AO.lst ((up (x ++ [a])).map .int) :: t).length]? = some (.lst ((up (endsN c (row (sysOf T) (wd w ++ (x ++ [a]))))).map .int)) := by simp
    have ll : h.length < (h ++ AO.lst ((up (x ++ [a])).map .int) :: t).length := by simp
    have he2 : h ++ AO.lst ((up (x ++ [a])).map .int) :: t ++ [AO.lst ((up (endsN c (row (sysOf T) (wd w ++ (x ++ [a]))))).map .int)] = h ++ AO.lst ((up (x ++ [a])).map .int) :: (t ++ [AO.lst ((up (endsN c (row (sysOf T) (wd w ++ (x ++ [a]))))).map .int)]) := by simp
    generalize h ++ AO.lst ((up (x ++ [a])).map .int) :: t = h2 at *
    refine Runs.asg (d := rowT n (row (sysOf T) (wd w ++ (x ++ [a])))) (h1 := h2) (by simp [ixx, pr]) ?_
    simp only [List.set_cons_succ, List.set_cons_zero]
    refine Runs.last fun Q' hQ => ?_
    rw [svAsg_eq, pv_eq, evCall_eq]
    simp [en2]
    subst hQ
    refine ⟨_, _, rfl, x ++ [a], h2.length, t ++ [AO.lst ((up (endsN c (row (sysOf T) (wd w ++ (x ++ [a]))))).map .int)], by simp; omega, ?_, lx.app (fun b hb => by rw [List.mem_singleton.mp hb]; exact an), by rw [← List.append_assoc]; omega, he2, ll, gl, rfl⟩
    rw [hp]
    conv => lhs; unfold prt
    rw [hE]
    simp only
    rw [← row_snoc, List.append_assoc]
    simp
end
end BW

set_option Elab.async false
set_option linter.all false
set_option maxRecDepth 100000
set_option maxHeartbeats 4000000
namespace BW
open PySem Cox
section
variable {h : AH} {b r n : Nat} {M : Nat → Nat → Int}
theorem eq_lstW {k : Nat} {u : Wd} (e : h[k]? = some (.lst ((up u).map .int))) : opEq h (.ref k) (.tl []) = some (.bl (decide (u = []))) := by
  have e1 : dataK h 9 (.ref k) = some (.list ((up u).map .int)) := dataK_ref 8 e (dataK_ints h 8 _)
  have e2 : dataK h 9 (.tl []) = some (.list []) := rfl
  unfold opEq eqD
  rw [e1, e2]
  cases u <;> simp [up, PyData.eqv, PyData.eqvAll]
theorem parted_is (T : Tab n M) (B : BondsAt h b n M) {c : Wd} (C : Chosen n c) {d : D} {w : List Int} (W : WordAt h d w) (hw : Letters n w) (hl : w.length ≤ 60) : d_parted [.ref b, d, upT c] h = .ok (.tup [upT (front (sysOf T) n c (wd w)), upT (rest (sysOf T) n c (wd w))]) h := by
  have n6 := T.n6
  unfold d_parted
  refine Runs.call ?_
  (simp only [startE_eq, List.map_cons, List.map_nil, List.length_cons, List.length_nil, List.replicate, List.cons_append, List.nil_append])
  (refine Runs.step fun K Q' hK hQ => ?_; simp [W.prom, needWord B (by omega) W hw hl]; subst hK hQ)
  (refine Runs.step fun K Q' hK hQ => ?_; simp [needChoice_is B n6 C]; subst hK hQ)
  (refine Runs.last fun Q' hQ => ?_; simp [W.prom, partedBy_is T B C W hw hl]; subst hQ; try dsimp only)
  exact fin_tup (by rw [lts_cons, lts_cons]; exact Bool.and_eq_true_iff.mpr ⟨show D.lts _ _ = true from lts_ints _ _, Bool.and_eq_true_iff.mpr ⟨show D.lts _ _ = true from lts_ints _ _, rfl⟩⟩)
theorem isAhead_is (T : Tab n M) (B : BondsAt h b n M) {c : Wd} (C : Chosen n c) {d : D} {w : List Int} (W : WordAt h d w) (hw : Letters n w) (hl : w.length ≤ 60) : d_is_ahead [.ref b, d, upT c] h = .ok (.bl (decide (endsN c (row (sysOf T) (wd w)) = []))) h := by
  have n6 := T.n6
  have en := endsIn_is (h := h) (row (sysOf T) (wd w)) C n6
  have eq := eq_lstW (h := h ++ [.lst ((up (endsN c (row (sysOf T) (wd w)))).map .int)]) (k := h.length) (u := endsN c (row (sysOf T) (wd w))) (by simp)
  unfold d_is_ahead
  refine Runs.call ?_
  (simp only [startE_eq, List.map_cons, List.map_nil, List.length_cons, List.length_nil, List.replicate, List.cons_append, List.nil_append])
  (refine Runs.step fun K Q' hK hQ => ?_; simp [W.prom, needWord B (by omega) W hw hl]; subst hK hQ)
  (refine Runs.step fun K Q' hK hQ => ?_; simp [needChoice_is B n6 C]; subst hK hQ)
  have rb := rowby_is T B W hw
  generalize hh : h ++ [AO.lst ((up (endsN c (row (sysOf T) (wd w)))).map .int)] = h2 at *
  (refine Runs.last fun Q' hQ => ?_; simp [W.prom, rb, en, eq]; subst hQ; try dsimp only)
  rw [← hh]
  show BW.fin h (.bl _) (h ++ _) = .ok (.bl _) h
  exact fin_pure _ rfl rfl
theorem isBehind_is (T : Tab n M) (B : BondsAt h b n M) {c : Wd} (C : Chosen n c) {d : D} {w : List Int} (W : WordAt h d w) (hw : Letters n w) (hl : w.length ≤ 60) : d_is_behind [.ref b, d, upT c] h = .ok (.bl (decide (endsN c (row (sysOf T) (wd w).reverse) = []))) h := by
  have n6 := T.n6
  have en := endsIn_is (h := h) (row (sysOf T) (wd w).reverse) C n6
  have eq := eq_lstW (h := h ++ [.lst ((up (endsN c (row (sysOf T) (wd w).reverse))).map .int)]) (k := h.length) (u := endsN c (row (sysOf T) (wd w).reverse)) (by simp)
  have tw := W.tup
  have rb := rowby_is T B (wordT h w.reverse) hw.rev
  rw [wd_reverse, List.map_reverse] at rb
  unfold d_is_behind
  refine Runs.call ?_
  (simp only [startE_eq, List.map_cons, List.map_nil, List.length_cons, List.length_nil, List.replicate, List.cons_append, List.nil_append])
  (refine Runs.step fun K Q' hK hQ => ?_; simp [W.prom, needWord B (by omega) W hw hl]; subst hK hQ)
  (refine Runs.step fun K Q' hK hQ => ?_; simp [needChoice_is B n6 C]; subst hK hQ)
  generalize hh : h ++ [AO.lst ((up (endsN c (row (sysOf T) (wd w).reverse))).map .int)] = h2 at *
  (refine Runs.last fun Q' hQ => ?_; simp [tw, rb, en, eq]; subst hQ; try dsimp only)
  rw [← hh]
  show BW.fin h (.bl _) (h ++ _) = .ok (.bl _) h
  exact fin_pure _ rfl rfl
theorem choice2_is {N : Int} (I : MInv 2 0 3 N h) (hN : N ≤ 800000) (n6 : n ≤ 6) : ∃ c h', d2_law_choice [.ref 2, .int n] h = .ok (upT c) h' ∧ Chosen n c ∧ MInv 2 0 3 (N + 10) h' ∧ Frame 4 h h' := by
  unfold d2_law_choice
  refine Runs.callE (P := fun o => ∃ c h', o = .ok (upT c) h' ∧ Chosen n c ∧ MInv 2 0 3 (N + 10) h' ∧ Frame 4 h h') ?_
  (simp only [startE_eq, List.map_cons, List.map_nil, List.length_cons, List.length_nil, List.replicate, List.cons_append, List.nil_append])
  obtain ⟨ys, h', r1, c, rfl, p1, p2, I', F'⟩ := lcGo_inv (g := none) (gv := Tgt.gv (.one 2)) (tt := tvOf (evOp opEq (evCall d__law_draw [(evVar 0), (evC (.int 2))]) (evC (.int 0)))) (elt := evVar 2) (e := [some (.ref 2), some (.int n), none]) (h := h)
    (fun i l h' => ∃ c : Wd, l = (up c).map .int ∧ c.Pairwise (· < ·) ∧ (∀ a ∈ c, a < i) ∧ MInv 2 0 3 (N + i) h' ∧ Frame 4 h h') (rangeD 1 n) (fun _ _ _ _ _ => rfl) (fun i d l h' hd ⟨c, z1, z2, z3, z4, z5⟩ => by
      obtain ⟨hi, rfl⟩ := rangeD_get hd
      obtain ⟨a, h2, r2, a0, a1, I2, F2, l2⟩ := draw4 (limit := 2) z4 (by omega) (by omega) (by omega)
      refine ⟨_, _, rfl, ?_⟩
      by_cases ca : a = 0
      · right
        refine ⟨h2, .int (1 + (i : Int)), h2, by simp only [tvOf_eq, evOp_eq, evC_eq]; simp [r2, ca], by simp, c ++ [i], by simp [z1, up]; omega, ?_, ?_, by rw [show N + ((i + 1 : Nat) : Int) = N + i + 1 by omega]; exact I2, z5.trans F2⟩
        · rw [List.pairwise_append]
          exact ⟨z2, List.pairwise_singleton _ _, fun x hx y hy => by rw [List.mem_singleton.mp hy]; exact z3 x hx⟩
        · intro x hx
          rcases List.mem_append.mp hx with q | q
          · exact Nat.lt_succ_of_lt (z3 x q)
          · rw [List.mem_singleton.mp q]; exact Nat.lt_succ_self _
      · left
        exact ⟨h2, by simp only [tvOf_eq, evOp_eq, evC_eq]; simp [r2, ca], c, z1, z2, fun x hx => Nat.lt_succ_of_lt (z3 x hx), by rw [show N + ((i + 1 : Nat) : Int) = N + i + 1 by omega]; exact I2, z5.trans F2⟩) ⟨[], rfl, List.Pairwise.nil, (fun _ h => nomatch h), by simpa using I, Frame.refl _ _⟩
  rw [rangeD_length] at p2 I'
  have lc : evLc (ivBy [(evC (.int 1)), (evOp opAdd (evVar 1) (evC (.int 1)))] kR2) (Tgt.own (.one 2)) (Tgt.gv (.one 2)) (tvOf (evOp opEq (evCall d__law_draw [(evVar 0), (evC (.int 2))]) (evC (.int 0)))) (evVar 2) [some (.ref 2), some (.int n), none] h = .ok (.tl ((up c).map .int)) h' := by
    rw [evLc_eq, ivR2_of (a := 1) (c := (n : Int) + 1) (n := n) (h1 := h) (h2 := h) (by simp) (by simp) (by omega) (by omega) (by omega), bind_ok, if_pos (by rw [rangeD_length]; omega)]
    have e0 : wipeE [some (D.ref 2), some (.int n), none] (Tgt.own (.one 2)) = [some (D.ref 2), some (.int n), none] := rfl
    rw [e0, r1, bind_ok]
  have bt : bTuple h' [.tl ((up c).map .int)] = some (upT c) := rfl
  refine Runs.last fun Q' hQ => ?_
  rw [svRet_eq, evB_eq, evs_cons, lc]
  simp only [bind_ok, evs_nil, bt, ofO_some2, toFl_ok]
  subst hQ
  simp only [fin_ret]
  rcases fin_or (h := h) (h2 := h') (d := upT c) rfl with z | z
  · exact ⟨c, _, z, ⟨p2, p1⟩, I'.mono (by omega), F'⟩
  · have l4 := I.len4
    refine ⟨c, _, z, ⟨p2, p1⟩, (I'.take (k := h.length) (by omega) (by omega) (by omega)).mono (by omega), ⟨by have := F'.len; simp; omega, fun i h0 hi => ?_⟩⟩
    rw [List.getElem?_take_of_lt hi]
    exact F'.keep i h0 hi
theorem Runs.lawR (C : Int) {n K : Nat} {Ki : Int} {body rest : Sv} {ns : List Int} (hn : ns.length ≤ 63) (n2 : 3 ≤ n) (hK : Ki = K) (hk : K ≤ 100)
    (hb : ∀ (i : Nat) (ys : List (Option D)) (h : AH), i < K → ys.length = n - 3 → MInv 2 0 3 (C * (i : Int)) h →
      Runs body (some (.rl (ns.map .int)) :: some (.ref 2) :: some (.int i) :: ys) h fun o => ∃ y2 ys' h', o = .nx (some (.rl (ns.map .int)) :: some (.ref 2) :: y2 :: ys') h' ∧ ys'.length = n - 3 ∧ MInv 2 0 3 (C * (i : Int) + C) h')
    (hr : ∀ (y2 : Option D) (ys : List (Option D)) (h : AH), ys.length = n - 3 → MInv 2 0 3 (C * (K : Int)) h → Runs rest (some (.rl (ns.map .int)) :: some (.ref 2) :: y2 :: ys) h fun o => ∃ h', o.fin [] = .ok (.bl true) h') :
    ∃ h', fnD n (svSeq (svAsg (evCall d__law_begun [(evVar 0)]) (gvName 1)) (svSeq (svFor (ivBy [(evC (.int Ki))] kR1) (gvName 2) body) rest)) [.rl (ns.map .int)] [] = .ok (.bl true) h' := by
  subst hK
  obtain ⟨h0, b1, I0, l0⟩ := begun_is ns hn
  refine Runs.callE (P := fun o => ∃ h', o = .ok (.bl true) h') ?_
  have es : startE n [.rl (ns.map .int)] = some (.rl (ns.map .int)) :: none :: none :: List.replicate (n - 3) none := by
    obtain ⟨k, rfl⟩ : ∃ k, n = k + 3 := ⟨n - 3, by omega⟩
    rw [startE_eq]
    simp [List.replicate_succ]
  rw [es]
  have pr : promote (D.rl (ns.map .int)) [] = .ok (D.rl (ns.map .int)) [] := rfl
  refine Runs.asg (pv_call (by simp [pr]) b1 rfl) ?_
  simp only [List.set_cons_succ, List.set_cons_zero]
  refine Runs.loop (it := { xs := rangeD 0 K }) (fun i e h => ∃ y2 ys, e = some (.rl (ns.map .int)) :: some (.ref 2) :: y2 :: ys ∧ ys.length = n - 3 ∧ MInv 2 0 3 (C * (i : Int)) h) (ivR1_of (by simp; rfl) (by omega)) ⟨none, _, rfl, by simp, by simpa using I0⟩ (fun _ _ _ _ _ => rfl) ?_ ?_
  · rintro i d e h hd ⟨y2, ys, rfl, hy, I⟩
    obtain ⟨hi, rfl⟩ := rangeD_get hd
    refine ⟨_, _, rfl, ?_⟩
    simp only [List.set_cons_succ, List.set_cons_zero]
    rw [show (0 + (i : Int)) = (i : Int) by omega]
    refine (hb i ys h hi hy I).mono ?_
    rintro o ⟨y2', ys', h', rfl, hy', I'⟩
    exact ⟨_, _, rfl, y2', ys', rfl, hy', by rw [show C * ((i + 1 : Nat) : Int) = C * (i : Int) + C by rw [show ((i + 1 : Nat) : Int) = (i : Int) + 1 by omega, Int.mul_add, Int.mul_one]]; exact I'⟩
  · rintro e h ⟨y2, ys, rfl, hy, I⟩
    rw [rangeD_length] at I
    exact hr y2 ys h hy I
end
end BW

set_option Elab.async false
set_option linter.all false
set_option maxRecDepth 100000
set_option maxHeartbeats 4000000
namespace Cox
section
variable (near : Nat → Nat → Bool)
variable {near}
def rounds (f : Wd → Wd) : Nat → Wd → Wd
  | 0, m => m
  | k + 1, m => rounds f k (f m)
def meet1 (near : Nat → Nat → Bool) (m : Wd) (y : Nat) : Wd := if !decide (y ∈ m) && m.any (fun x => near y x) then m ++ [y] else m
def meetAll (near : Nat → Nat → Bool) (c m : Wd) : Wd := c.foldl (meet1 near) m
def hangsB (near : Nat → Nat → Bool) (c : Wd) : Bool := decide ((rounds (meetAll near c) c.length (c.take 1)).length = c.length) && !decide (c = [])
end
section
variable {near : Nat → Nat → Bool} {n : Nat}
end
section
variable {S : Sys}
end
end Cox

set_option Elab.async false
set_option linter.all false
set_option maxRecDepth 100000
set_option maxHeartbeats 4000000
namespace BW
open PySem Cox
def downS (n : Nat) : Nat → List Wd
  | 0 => [[]]
  | i + 1 => downS n i ++ (downS n i).map fun u => (n - 1 - i) :: u
def upS : Nat → List Wd
  | 0 => [[]]
  | i + 1 => upS i ++ (upS i).map fun u => u ++ [i]
def chs (n : Nat) : List Wd := (sortL ((upS n).map up)).map wd
theorem wd_up_map (l : List Wd) : (l.map up).map wd = l := by
  rw [List.map_map]
  exact (List.map_congr_left fun u _ => wd_up u).trans (List.map_id l)
theorem mem_upS {c : Wd} : ∀ {n : Nat}, c ∈ upS n ↔ (∀ a ∈ c, a < n) ∧ c.Pairwise (· < ·)
  | 0 => by
    simp only [upS, List.mem_singleton]
    constructor
    · rintro rfl; exact ⟨fun _ h => (nomatch h), List.Pairwise.nil⟩
    · rintro ⟨h, _⟩
      cases c with
      | nil => rfl
      | cons a c => exact absurd (h a List.mem_cons_self) (Nat.not_lt_zero _)
  | n + 1 => by
    simp only [upS, List.mem_append, List.mem_map, mem_upS (n := n)]
    constructor
    · rintro (⟨h1, h2⟩ | ⟨u, ⟨h1, h2⟩, rfl⟩)
      · exact ⟨fun a ha => Nat.lt_succ_of_lt (h1 a ha), h2⟩
      · refine ⟨fun a ha => ?_, List.pairwise_append.mpr ⟨h2, List.pairwise_singleton _ _, fun x hx y hy => by rw [List.mem_singleton.mp hy]; exact h1 x hx⟩⟩
        rcases List.mem_append.mp ha with q | q
        · exact Nat.lt_succ_of_lt (h1 a q)
        · rw [List.mem_singleton.mp q]; exact Nat.lt_succ_self _
    · rintro ⟨h1, h2⟩
      rcases List.eq_nil_or_concat c with rfl | ⟨u, a, rfl⟩
      · exact .inl ⟨fun _ h => (nomatch h), h2⟩
      · rw [List.concat_eq_append] at *
        obtain ⟨p1, p2, p3⟩ := List.pairwise_append.mp h2
        have ha := h1 a (by simp)
        by_cases e : a = n
        · subst e
          exact .inr ⟨u, ⟨fun x hx => p3 x hx a (by simp), p1⟩, rfl⟩
        · refine .inl ⟨fun x hx => ?_, h2⟩
          rcases List.mem_append.mp hx with q | q
          · have := p3 x q a (by simp); omega
          · rw [List.mem_singleton.mp q]; omega
theorem chs_perm (n : Nat) : (chs n).Perm (upS n) := by
  have := (sortL_perm ((upS n).map up)).map wd
  rw [wd_up_map] at this
  exact this
theorem mem_chs {n : Nat} {c : Wd} : c ∈ chs n ↔ Chosen n c := by
  rw [(chs_perm n).mem_iff, mem_upS]
  exact ⟨fun h => ⟨h.1, h.2⟩, fun h => ⟨h.1, h.2⟩⟩
section
variable {h : AH} {b r n : Nat} {M : Nat → Nat → Int}
end
end BW

set_option Elab.async false
set_option linter.all false
set_option maxRecDepth 100000
set_option maxHeartbeats 4000000
namespace BW
open PySem Cox
def nearM (M : Nat → Nat → Int) (x y : Nat) : Bool := !decide (M x y = 2)
theorem Chosen.nodup {n : Nat} {c : Wd} (C : Chosen n c) : c.Nodup := C.asc.imp fun {a b} z => Nat.ne_of_lt z
section
variable {h : AH} {b r n : Nat} {M : Nat → Nat → Int}
end
end BW

set_option Elab.async false
set_option linter.all false
namespace Cox
section
open Sys
variable {S : Sys}
def Blw (S : Sys) (v w : Wd) : Prop := ∃ z : Wd, z.Sublist w ∧ Alike S z v
theorem two_alt {a b : Nat} (ne : a ≠ b) : ∀ (z : Wd), (∀ c ∈ z, c = a ∨ c = b) → ∃ e f j, ((e = a ∧ f = b) ∨ (e = b ∧ f = a)) ∧ j ≤ z.length ∧ Alike S z (alt e f j)
  | [], _ => ⟨a, b, 0, .inl ⟨rfl, rfl⟩, Nat.le_refl _, .refl _⟩
  | c :: z, h => by
    obtain ⟨e, f, j, hef, hj, al⟩ := two_alt ne z fun x hx => h x (List.mem_cons_of_mem _ hx)
    have al2 : Alike S (c :: z) (c :: alt e f j) := al.left [c]
    have hc : c = e ∨ c = f := by
      rcases h c List.mem_cons_self with z | z <;> rcases hef with ⟨rfl, rfl⟩ | ⟨rfl, rfl⟩ <;> simp [z]
    rcases hc with rfl | rfl
    · cases j with
      | zero => exact ⟨c, f, 1, hef, by simp, al2⟩
      | succ j =>
        refine ⟨f, c, j, by rcases hef with ⟨z1, z2⟩ | ⟨z1, z2⟩ <;> simp [z1, z2], by simp; omega, al2.trans ?_⟩
        exact Alike.out (S := S) [] _ c
    · exact ⟨c, e, j + 1, by rcases hef with ⟨z1, z2⟩ | ⟨z1, z2⟩ <;> simp [z1, z2], by simp; omega, al2⟩
theorem alt_pre : ∀ (j k a b : Nat), j ≤ k → (alt a b j).Sublist (alt a b k)
  | 0, _, _, _, _ => List.nil_sublist _
  | j + 1, 0, _, _, h => absurd h (by omega)
  | j + 1, k + 1, a, b, h => (alt_pre j k b a (by omega)).cons₂ a
theorem alt_mem : ∀ (k a b : Nat), ∀ c ∈ alt a b k, c = a ∨ c = b
  | 0, _, _, c, h => by simp [alt] at h
  | k + 1, a, b, c, h => by
    rcases List.mem_cons.mp h with rfl | h
    · exact .inl rfl
    · exact (alt_mem k b a c h).symm
theorem sub_alt {a b : Nat} (ne : a ≠ b) {z : Wd} (h : z.Sublist (alt a b (S.m a b))) : Blw S z (alt b a (S.m a b)) := by
  have hl := h.length_le
  rw [alt_len] at hl
  by_cases e : z.length = S.m a b
  · have : z = alt a b (S.m a b) := h.eq_of_length (by rw [alt_len]; exact e)
    subst this
    refine ⟨_, List.Sublist.refl _, ?_⟩
    have t := Alike.turn (S := S) [] [] a b ne
    simp only [List.nil_append, List.append_nil] at t
    exact t.symm
  · obtain ⟨e', f', j, hef, hj, al⟩ := two_alt (S := S) ne z fun c hc => alt_mem _ _ _ c (h.mem hc)
    rcases hef with ⟨rfl, rfl⟩ | ⟨rfl, rfl⟩
    · obtain ⟨k, hk⟩ : ∃ k, S.m e' f' = k + 1 := ⟨S.m e' f' - 1, by omega⟩
      refine ⟨alt e' f' j, ?_, al.symm⟩
      rw [hk]
      exact (alt_pre j k e' f' (by omega)).cons f'
    · exact ⟨alt e' f' j, alt_pre _ _ _ _ (by omega), al.symm⟩
theorem sub_turn {a b : Nat} (ne : a ≠ b) {u v : Wd} (h : Blw S u (v ++ alt a b (S.m a b))) : Blw S u (v ++ alt b a (S.m a b)) := by
  obtain ⟨z, h1, h2⟩ := h
  obtain ⟨z1, z2, rfl, s1, s2⟩ := List.sublist_append_iff.mp h1
  obtain ⟨t, t1, t2⟩ := sub_alt ne s2
  exact ⟨z1 ++ t, s1.append t1, (t2.left z1).trans h2⟩
theorem out_right {u v : Wd} {a : Nat} (h : Alike S (u ++ [a]) (v ++ [a])) : Alike S u v := (out_end u a).symm.trans ((h.right [a]).trans (out_end v a))
theorem blw_inv : ∀ (k : Nat) (w w' : Wd), w.length = k → Short S w → Short S w' → Alike S w w' → ∀ u, Blw S u w → Blw S u w'
  | 0, w, w', hk, s, s', al, u, h => by
    have : w = [] := List.length_eq_zero_iff.mp hk
    subst this
    obtain ⟨z, h1, h2⟩ := h
    rw [List.sublist_nil.mp h1] at h2
    exact ⟨[], List.nil_sublist _, h2⟩
  | k + 1, w, w', hk, s, s', al, u, h => by
    have same : ∀ (L R : Wd) (c : Nat), (L ++ [c]).length = k + 1 → Short S (L ++ [c]) → Short S (R ++ [c]) → Alike S (L ++ [c]) (R ++ [c]) → ∀ u, Blw S u (L ++ [c]) → Blw S u (R ++ [c]) := by
      intro L R c hl s1 s2 al u h
      obtain ⟨z, h1, h2⟩ := h
      obtain ⟨z1, z2, rfl, t1, t2⟩ := List.sublist_append_iff.mp h1
      obtain ⟨t, t3, t4⟩ := blw_inv k L R (by simpa using hl) s1.pre s2.pre (out_right al) z1 ⟨z1, t1, .refl _⟩
      exact ⟨t ++ z2, t3.append t2, (t4.right z2).trans h2⟩
    have hk' : w'.length = k + 1 := by
      have := ell_short s; have := ell_short s'; have := ell_congr al; omega
    obtain ⟨L, b, rfl⟩ : ∃ L b, w = L ++ [b] := by
      rcases List.eq_nil_or_concat w with rfl | ⟨L, b, e⟩
      · simp at hk
      · exact ⟨L, b, by rw [e, List.concat_eq_append]⟩
    obtain ⟨R, a, rfl⟩ : ∃ R a, w' = R ++ [a] := by
      rcases List.eq_nil_or_concat w' with rfl | ⟨L, b, e⟩
      · simp at hk'
      · exact ⟨L, b, by rw [e, List.concat_eq_append]⟩
    by_cases ab : a = b
    · subst ab; exact same L R a hk s s' al u h
    · have eL : ell S (L ++ [b]) = k + 1 := by rw [ell_short s]; exact hk
      have d1 : ell S (L ++ [b]) = ell S (L ++ [b] ++ [b]) + 1 := by
        rw [ell_congr (out_end L b), eL, ell_short s.pre]
        have : L.length = k := by simpa using hk
        omega
      have d2 : ell S (L ++ [b]) = ell S (L ++ [b] ++ [a]) + 1 := by
        rw [ell_congr (al.right [a]), ell_congr (out_end R a), eL, ell_short s'.pre]
        have : R.length = k := by simpa using hk'
        omega
      obtain ⟨m0, v, a1, a2⟩ := joint ab d2 d1
      obtain ⟨v0, b1, b2, b3⟩ := ell_ex S v
      have X1 : Alike S (L ++ [b]) (v0 ++ alt a b (S.m a b)) := a1.trans (b1.right _)
      have tn := Alike.turn (S := S) v0 [] a b ab
      simp only [List.append_nil] at tn
      have Y1 : Alike S (L ++ [b]) (v0 ++ alt b a (S.m a b)) := X1.trans tn
      have sX : Short S (v0 ++ alt a b (S.m a b)) := short_of_ell (by rw [← ell_congr X1, a2]; simp; omega)
      have sY : Short S (v0 ++ alt b a (S.m a b)) := short_of_ell (by rw [← ell_congr Y1, a2]; simp; omega)
      have lX : (v0 ++ alt a b (S.m a b)).length = k + 1 := by rw [← ell_short sX, ← ell_congr X1]; exact eL
      have lY : (v0 ++ alt b a (S.m a b)).length = k + 1 := by rw [← ell_short sY, ← ell_congr Y1]; exact eL
      obtain ⟨j, hj⟩ : ∃ j, S.m a b = j + 1 := ⟨S.m a b - 1, by omega⟩
      have sub1 := fun u => sub_turn (S := S) ab (u := u) (v := v0)
      have sub2 := fun u => sub_turn (S := S) (Ne.symm ab) (u := u) (v := v0)
      rw [S.sym b a] at sub2
      rw [hj] at X1 Y1 sX sY lX lY sub1 sub2
      rw [alt_succ' a b j, alt_succ' b a j, ← List.append_assoc, ← List.append_assoc] at sub1 sub2
      rw [alt_succ' a b j, ← List.append_assoc] at X1 sX lX
      rw [alt_succ' b a j, ← List.append_assoc] at Y1 sY lY
      by_cases pj : j % 2 = 0
      · -- the first ends with a
        have e1 : nxt a b j = a := by unfold nxt; rw [if_pos pj]
        have e2 : nxt b a j = b := by unfold nxt; rw [if_pos pj]
        rw [e1] at X1 sX lX
        rw [e2] at Y1 sY lY
        rw [e1, e2] at sub1 sub2
        exact same _ R a lX sX s' (X1.symm.trans al) u (sub2 u (same L _ b hk s sY Y1 u h))
      · have e1 : nxt a b j = b := by unfold nxt; rw [if_neg pj]
        have e2 : nxt b a j = a := by unfold nxt; rw [if_neg pj]
        rw [e1] at X1 sX lX
        rw [e2] at Y1 sY lY
        rw [e1, e2] at sub1 sub2
        exact same _ R a lY sY s' (Y1.symm.trans al) u (sub1 u (same L _ b hk s sX X1 u h))
theorem desc_sub {z : Wd} {a : Nat} (s : Short S z) (d : ell S z = ell S (z ++ [a]) + 1) : ∃ t : Wd, t.Sublist z ∧ Alike S t (z ++ [a]) ∧ Short S t := by
  obtain ⟨v, v1, v2, v3⟩ := ell_ex S (z ++ [a])
  have al : Alike S (v ++ [a]) z := (v1.symm.right [a]).trans (out_end z a)
  have sv : Short S (v ++ [a]) := short_of_ell (by rw [ell_congr al, d]; simp; omega)
  obtain ⟨t, t1, t2⟩ := blw_inv _ _ _ rfl sv s al v ⟨v, List.sublist_append_left _ _, .refl _⟩
  refine ⟨t, t1, t2.trans v1.symm, short_of_ell ?_⟩
  have h1 := t1.length_le
  have h2 := t2.par
  have h3 : ell S t = v.length := by rw [ell_congr t2]; exact ell_short v2
  have h4 := ell_le (S := S) t
  have h5 := ell_short s
  omega
theorem ex_red (x : Wd) : ∃ z : Wd, z.Sublist x ∧ Short S z ∧ Alike S z x := by
  obtain ⟨k, hk⟩ : ∃ k, x.length = k := ⟨_, rfl⟩
  induction k generalizing x with
  | zero =>
    rw [List.length_eq_zero_iff.mp hk]
    exact ⟨[], List.Sublist.refl _, fun v h => Nat.zero_le _, .refl _⟩
  | succ k ih =>
    obtain ⟨y, c, rfl⟩ : ∃ L b, x = L ++ [b] := by
      rcases List.eq_nil_or_concat x with rfl | ⟨L, b, e⟩
      · simp at hk
      · exact ⟨L, b, by rw [e, List.concat_eq_append]⟩
    obtain ⟨z, z1, z2, z3⟩ := ih y (by simpa using hk)
    rcases ell_step (S := S) z c with e | e
    · exact ⟨z ++ [c], z1.append (List.Sublist.refl _), short_of_ell (by rw [e, ell_short z2]; simp), z3.right [c]⟩
    · obtain ⟨t, t1, t2, t3⟩ := desc_sub z2 e
      exact ⟨t, (t1.trans z1).trans (List.sublist_append_left _ _), t3, t2.trans (z3.right [c])⟩
end
end Cox

set_option Elab.async false
set_option linter.all false
namespace Cox
section
open Sys
variable {S : Sys}
structure Top (S : Sys) (n : Nat) (t : Wd) : Prop where
  lts : Lts n t
  neg : ∀ b, b < n → row S t b < 0
theorem Lts.sub {n : Nat} {u v : Wd} (s : u.Sublist v) (h : Lts n v) : Lts n u := fun a ha => h a (s.subset ha)
theorem pw_neg {n : Nat} : ∀ (u : Wd) (r r' : Rw), Lts n u → (∀ b, b < n → r b = - r' b) → ∀ b, b < n → S.pw u r b = - S.pw u r' b
  | [], _, _, _, h => h
  | a :: u, r, r', hu, h => by
    obtain ⟨ha, hu⟩ := lts_cons.mp hu
    refine pw_neg u (S.press a r) (S.press a r') hu fun b hb => ?_
    simp only [Sys.press]
    rw [h b hb, h a ha, Int.mul_neg, Int.neg_add]
theorem Top.step {n : Nat} {t : Wd} (T : Top S n t) {u : Wd} {s : Nat} (hu : Lts n u) (hs : s < n) (h : ell S (u ++ [s]) = ell S u + 1) : row S (t ++ u) s < 0 := by
  obtain ⟨z, z1, z2, z3⟩ := ex_red (S := S) u
  have hp := pos (S := S) z.length z s rfl z2 (by rw [ell_congr (z3.right [s]), h, ← ell_congr z3, ell_short z2]) (fun b => if b < n then - row S t b else 1) fun a => by
    by_cases ha : a < n
    · have := T.neg a ha
      simp only [ha, if_true]; omega
    · simp only [ha, if_false]; omega
  have e := pw_neg (S := S) (n := n) z (fun b => if b < n then - row S t b else 1) (row S t) (hu.sub z1) (fun b hb => by simp [hb]) s hs
  have e2 : row S (t ++ u) = S.pw z (row S t) := by
    unfold row
    rw [pw_append, z3.pw]
  rw [e2]; omega
theorem Top.ell {n : Nat} {t : Wd} (T : Top S n t) {u : Wd} (hu : Lts n u) : ell S (t ++ u) + ell S u = ell S t := by
  obtain ⟨z, z1, z2, z3⟩ := ex_red (S := S) u
  have main : ∀ (k : Nat) (z : Wd), z.length = k → Short S z → Lts n z → Cox.ell S (t ++ z) + Cox.ell S z = Cox.ell S t := by
    intro k
    induction k with
    | zero => intro z hz _ _; rw [List.length_eq_zero_iff.mp hz]; simp
    | succ k ih =>
      intro z hz sz lz
      obtain ⟨y, c, rfl⟩ : ∃ L b, z = L ++ [b] := by
        rcases List.eq_nil_or_concat z with rfl | ⟨L, b, e⟩
        · simp at hz
        · exact ⟨L, b, by rw [e, List.concat_eq_append]⟩
      have sy := sz.pre
      have i := ih y (by simpa using hz) sy lz.left
      have ly : c < n := lz c (by simp)
      have e1 : Cox.ell S (y ++ [c]) = Cox.ell S y + 1 := by rw [ell_short sz, ell_short sy]; simp
      have d := (row_neg_iff (t ++ y) c).mp (T.step lz.left ly e1)
      rw [← List.append_assoc]
      omega
  have := main z.length z rfl z2 (hu.sub z1)
  rw [ell_congr (z3.left t), ell_congr z3] at this
  exact this
theorem Top.le {n : Nat} {t : Wd} (T : Top S n t) {u : Wd} (hu : Lts n u) : Cox.ell S u ≤ Cox.ell S t := by
  have := T.ell hu
  omega
end
end Cox

set_option Elab.async false
set_option linter.all false
namespace Cox
section
open Sys
structure Ren (S S' : Sys) (f g : Nat → Nat) : Prop where
  fg : ∀ a, f (g a) = a
  gf : ∀ a, g (f a) = a
  m : ∀ a b, S'.m a b = S.m (f a) (f b)
variable {S S' : Sys} {f g : Nat → Nat}
theorem Ren.back (R : Ren S S' f g) : Ren S' S g f := ⟨R.gf, R.fg, fun a b => by rw [R.m, R.fg, R.fg]⟩
theorem alt_map (f : Nat → Nat) : ∀ (k a b : Nat), (alt a b k).map f = alt (f a) (f b) k
  | 0, _, _ => rfl
  | k + 1, a, b => by simp only [alt, List.map_cons, alt_map f k b a]
theorem Ren.alike (R : Ren S S' f g) {u v : Wd} (h : Alike S' u v) : Alike S (u.map f) (v.map f) := by
  induction h with
  | refl u => exact .refl _
  | symm _ i => exact i.symm
  | trans _ _ i j => exact i.trans j
  | out x y a => simp only [List.map_append, List.map_cons]; exact .out _ _ _
  | turn x y a b ne =>
    simp only [List.map_append, alt_map, R.m]
    exact .turn _ _ _ _ fun e => ne (by have := congrArg g e; rwa [R.gf, R.gf] at this)
theorem Ren.map_gf (R : Ren S S' f g) (u : Wd) : (u.map f).map g = u := by
  rw [List.map_map]
  have : g ∘ f = id := funext fun a => R.gf a
  rw [this, List.map_id]
theorem Ren.map_fg (R : Ren S S' f g) (u : Wd) : (u.map g).map f = u := R.back.map_gf u
theorem Ren.short (R : Ren S S' f g) {u : Wd} (h : Short S' u) : Short S (u.map f) := fun v a => by
  have := R.back.alike a
  rw [R.map_gf] at this
  have := h _ this
  rw [List.length_map] at *
  exact this
theorem Ren.ell (R : Ren S S' f g) (u : Wd) : ell S' u = ell S (u.map f) := by
  obtain ⟨v, a, b, c⟩ := ell_ex S' u
  rw [← c, ell_of (R.alike a) (R.short b), List.length_map]
theorem Ren.top (R : Ren S S' f g) {n : Nat} {t : Wd} (hf : ∀ a, a < n → f a < n) (hg : ∀ a, a < n → g a < n) (T : Top S n t) : Top S' n (t.map g) where
  lts := fun a ha => by
    obtain ⟨b, hb, rfl⟩ := List.mem_map.mp ha
    exact hg b (T.lts b hb)
  neg := fun b hb => by
    rw [row_neg_iff]
    have d := (row_neg_iff t (f b)).mp (T.neg (f b) (hf b hb))
    rw [R.ell, R.ell, List.map_append, R.map_fg]
    exact d
end
def ordF (l : List Nat) (a : Nat) : Nat := l.getD a a
def ordG (l : List Nat) (a : Nat) : Nat := if a ∈ l then l.idxOf a else a
theorem ordF_lt {l : List Nat} {n : Nat} (p : l.Perm (List.range n)) {a : Nat} (h : a < n) : ordF l a < n := by
  have hl : l.length = n := by rw [p.length_eq, List.length_range]
  unfold ordF
  rw [List.getD_eq_getElem?_getD, List.getElem?_eq_getElem (by omega), Option.getD_some]
  have hal : a < l.length := by omega
  have := p.subset (List.getElem_mem hal)
  exact List.mem_range.mp this
theorem ordG_lt {l : List Nat} {n : Nat} (p : l.Perm (List.range n)) {a : Nat} (h : a < n) : ordG l a < n := by
  have hl : l.length = n := by rw [p.length_eq, List.length_range]
  have ha : a ∈ l := p.symm.subset (List.mem_range.mpr h)
  unfold ordG
  rw [if_pos ha]
  have := List.idxOf_lt_length_of_mem ha
  omega
theorem ordFG {l : List Nat} {n : Nat} (p : l.Perm (List.range n)) (a : Nat) : ordF l (ordG l a) = a := by
  unfold ordF ordG
  by_cases ha : a ∈ l
  · rw [if_pos ha]
    have := List.idxOf_lt_length_of_mem ha
    rw [List.getD_eq_getElem?_getD, List.getElem?_eq_getElem this, Option.getD_some, List.getElem_idxOf this]
  · rw [if_neg ha]
    have hl : l.length = n := by rw [p.length_eq, List.length_range]
    have : ¬ a < n := fun h => ha (p.symm.subset (List.mem_range.mpr h))
    rw [List.getD_eq_getElem?_getD, List.getElem?_eq_none (by omega), Option.getD_none]
theorem ordGF {l : List Nat} {n : Nat} (p : l.Perm (List.range n)) (a : Nat) : ordG l (ordF l a) = a := by
  have hl : l.length = n := by rw [p.length_eq, List.length_range]
  have nd : l.Nodup := p.symm.nodup List.nodup_range
  unfold ordF ordG
  by_cases ha : a < n
  · rw [List.getD_eq_getElem?_getD, List.getElem?_eq_getElem (by omega), Option.getD_some, if_pos (List.getElem_mem _)]
    exact nd.idxOf_getElem a (by omega)
  · rw [List.getD_eq_getElem?_getD, List.getElem?_eq_none (by omega), Option.getD_none, if_neg fun h => ha (List.mem_range.mp (p.subset h))]
end Cox

set_option Elab.async false
set_option linter.all false
namespace Cox
section
open Sys
variable {S : Sys}
def aboveN (n : Nat) (r : Rw) : Wd := (List.range n).filter fun b => decide (0 < r b)
theorem mem_aboveN {n : Nat} {r : Rw} {b : Nat} : b ∈ aboveN n r ↔ b < n ∧ 0 < r b := by simp [aboveN]
def gro (S : Sys) (n : Nat) : Nat → Rw → Wd × Rw
  | 0, r => ([], r)
  | k + 1, r => if aboveN n r = [] then ([], r) else
    let q := gro S n k (S.press (hd (aboveN n r)) r)
    (hd (aboveN n r) :: q.1, q.2)
theorem gro_stop {n k : Nat} {r : Rw} (h : aboveN n r = []) : gro S n k r = ([], r) := by
  cases k with
  | zero => rfl
  | succ k => simp only [gro]; rw [if_pos h]
theorem gro_split {n k : Nat} {r : Rw} (h : aboveN n r ≠ []) : gro S n (k + 1) r = (hd (aboveN n r) :: (gro S n k (S.press (hd (aboveN n r)) r)).1, (gro S n k (S.press (hd (aboveN n r)) r)).2) := by
  simp only [gro]; rw [if_neg h]
theorem gro_facts {n : Nat} : ∀ (k : Nat) (u : Wd), Lts n u → Lts n (gro S n k (row S u)).1 ∧ (gro S n k (row S u)).2 = row S (u ++ (gro S n k (row S u)).1) ∧ ell S (u ++ (gro S n k (row S u)).1) = ell S u + (gro S n k (row S u)).1.length ∧ (gro S n k (row S u)).1.length ≤ k ∧ ((gro S n k (row S u)).1.length < k → aboveN n (gro S n k (row S u)).2 = [])
  | 0, u, hu => by
    refine ⟨lts_nil n, ?_, ?_, Nat.le_refl _, fun h => absurd h (Nat.lt_irrefl _)⟩ <;> simp [gro]
  | k + 1, u, hu => by
    by_cases c : aboveN n (row S u) = []
    · rw [gro_stop c]
      exact ⟨lts_nil n, by simp, by simp, Nat.zero_le _, fun _ => c⟩
    · rw [gro_split c]
      obtain ⟨ha, hp⟩ := mem_aboveN.mp (pick_hd _ c)
      have e := (row_pos_iff u (hd (aboveN n (row S u)))).mp hp
      generalize hd (aboveN n (row S u)) = a at *
      have la : Lts n (u ++ [a]) := hu.app (lts_cons.mpr ⟨ha, lts_nil n⟩)
      obtain ⟨i1, i2, i3, i4, i5⟩ := gro_facts k (u ++ [a]) la
      rw [row_snoc] at i1 i2 i3 i4 i5
      generalize gro S n k (S.press a (row S u)) = q at *
      simp only [List.append_assoc, List.singleton_append] at i2 i3
      refine ⟨lts_cons.mpr ⟨ha, i1⟩, i2, ?_, ?_, fun h => i5 ?_⟩
      · show ell S (u ++ a :: q.1) = ell S u + (a :: q.1).length
        rw [i3, e, List.length_cons]; omega
      · show (a :: q.1).length ≤ k + 1
        rw [List.length_cons]; omega
      · have h : (a :: q.1).length < k + 1 := h
        rw [List.length_cons] at h; omega
theorem top_of {n : Nat} {t : Wd} (l : Lts n t) (h : aboveN n (row S t) = []) : Top S n t := ⟨l, fun b hb => by
  have h1 := row_ne (S := S) t b
  have h2 : ¬ 0 < row S t b := fun z => by
    have : b ∈ aboveN n (row S t) := mem_aboveN.mpr ⟨hb, z⟩
    rw [h] at this; exact nomatch this
  omega⟩
theorem gro_top {n k : Nat} (h : (gro S n k ones).1.length < k) : Top S n (gro S n k ones).1 ∧ ell S (gro S n k ones).1 = (gro S n k ones).1.length ∧ (gro S n k ones).2 = row S (gro S n k ones).1 := by
  obtain ⟨i1, i2, i3, i4, i5⟩ := gro_facts (S := S) (n := n) k [] (lts_nil n)
  have e : row S [] = ones := rfl
  simp only [e, List.nil_append, ell_nil, Nat.zero_add] at i1 i2 i3 i4 i5
  have j := i5 h
  rw [i2] at j
  exact ⟨top_of i1 j, i3, i2⟩
def pressW (n : Nat) (w : Nat → Nat → Int) (l : List Int) (a : Nat) : List Int := (List.range n).map fun b => l.getD b 0 + w a b * l.getD a 0
def aboveL (n : Nat) (l : List Int) : Wd := (List.range n).filter fun b => decide (0 < l.getD b 0)
def groW (n : Nat) (w : Nat → Nat → Int) : Nat → List Int → Nat
  | 0, _ => 0
  | k + 1, l => if aboveL n l = [] then 0 else groW n w k (pressW n w l (hd (aboveL n l))) + 1
theorem aboveL_is (n : Nat) (x : Rw) : aboveL n (lst n x) = aboveN n x := by
  unfold aboveL aboveN
  apply List.filter_congr
  intro b hb
  rw [lst_getD x (List.mem_range.mp hb)]
theorem groW_is {n : Nat} {w : Nat → Nat → Int} (hw : ∀ a b, a < n → b < n → S.w a b = w a b) : ∀ (k : Nat) (x : Rw), groW n w k (lst n x) = (gro S n k x).1.length
  | 0, x => rfl
  | k + 1, x => by
    by_cases c : aboveN n x = []
    · rw [gro_stop c]
      unfold groW
      rw [aboveL_is, if_pos c]; rfl
    · rw [gro_split c]
      unfold groW
      rw [aboveL_is, if_neg c]
      have ha := (mem_aboveN.mp (pick_hd _ c)).1
      generalize hd (aboveN n x) = a at *
      have e : pressW n w (lst n x) a = lst n (S.press a x) := by
        unfold pressW
        conv => rhs; unfold lst
        apply List.map_congr_left
        intro b hb
        rw [lst_getD x (List.mem_range.mp hb), lst_getD x ha, ← hw a b ha (List.mem_range.mp hb)]
        rfl
      rw [e, groW_is hw k]
      rfl
end
end Cox

set_option Elab.async false
set_option linter.all false
set_option maxRecDepth 100000
set_option maxHeartbeats 4000000
namespace BW
open PySem PySem.Spec PyProof.Rows L2
open Cox
def finK : List (List (List Int) × Nat × Nat) := [([], 1, 0), ([[1]], 2, 1), ([[1, 3], [3, 1]], 6, 3), ([[1, 4], [4, 1]], 8, 4), ([[1, 6], [6, 1]], 12, 6),
  ([[1, 3, 2], [3, 1, 3], [2, 3, 1]], 24, 6), ([[1, 4, 2], [4, 1, 3], [2, 3, 1]], 48, 9),
  ([[1, 3, 2, 2], [3, 1, 3, 2], [2, 3, 1, 3], [2, 2, 3, 1]], 120, 10), ([[1, 2, 3, 2], [2, 1, 3, 2], [3, 3, 1, 3], [2, 2, 3, 1]], 192, 12)]
def joinT (A B : List (List Int)) : List (List Int) := A.map (fun r => r ++ List.replicate B.length 2) ++ B.map (fun r => List.replicate A.length 2 ++ r)
def wM (M : Nat → Nat → Int) (a b : Nat) : Int := if a = b then -2 else wtK (M a b) (decide (a < b))
def tabB (n : Nat) (M : Nat → Nat → Int) : Bool := decide (1 ≤ n) && decide (n ≤ 6) && (List.range n).all fun i => (List.range n).all fun j =>
  (if i = j then decide (M i j = 1) else decide (M i j = 2) || decide (M i j = 3) || decide (M i j = 4) || decide (M i j = 6) || decide (M i j = 0)) && decide (M i j = M j i)
theorem tabB_tab {n : Nat} {M : Nat → Nat → Int} (h : tabB n M = true) : Tab n M := by
  simp only [tabB, Bool.and_eq_true, decide_eq_true_eq, List.all_eq_true, List.mem_range] at h
  obtain ⟨⟨h1, h2⟩, h3⟩ := h
  refine Tab.lit h1 h2 fun i hi j hj => ?_
  obtain ⟨k1, k2⟩ := h3 i hi j hj
  refine ⟨?_, k2⟩
  by_cases e : i = j
  · rw [if_pos e] at k1 ⊢; exact of_decide_eq_true k1
  · rw [if_neg e] at k1 ⊢
    simp only [Bool.or_eq_true, decide_eq_true_eq] at k1
    omega
def finB (L : List (List Int)) (k : Nat) : Bool := tabB L.length (litM L) && (L.all fun r => r.length == L.length) && (groW L.length (wM (litM L)) 40 (List.replicate L.length 1) == k)
theorem fin_all : ((finK.drop 1).all fun p => finK.all fun q => !decide (p.1.length + q.1.length ≤ 6) || finB (joinT p.1 q.1) (p.2.2 + q.2.2)) = true := by decide +kernel
theorem finK_ok {p q : List (List Int) × Nat × Nat} (hp : p ∈ finK.drop 1) (hq : q ∈ finK) (h : p.1.length + q.1.length ≤ 6) : finB (joinT p.1 q.1) (p.2.2 + q.2.2) = true := by
  have := List.all_eq_true.mp (List.all_eq_true.mp fin_all p hp) q hq
  rwa [decide_eq_true h, Bool.not_true, Bool.false_or] at this
theorem fin_letters : ((finK.drop 1).all fun p => finK.all fun q => !decide (p.1.length + q.1.length ≤ 6) || decide (p.2.2 + q.2.2 ≤ 18)) = true := by decide +kernel
theorem sysOf_w' {n : Nat} {M : Nat → Nat → Int} (T : Tab n M) (a b : Nat) (ha : a < n) (hb : b < n) : (sysOf T).w a b = wM M a b := by
  by_cases h : a = b
  · subst h; rw [(sysOf T).own]; simp [wM]
  · rw [sysOf_w T ha hb h]; simp only [wM, if_neg h]
theorem finB_top {L : List (List Int)} {k : Nat} (h : finB L k = true) : ∃ T : Tab L.length (litM L), (∀ r ∈ L, r.length = L.length) ∧ (k < 40 → ∃ t, Top (sysOf T) L.length t ∧ ell (sysOf T) t = k) := by
  simp only [finB, Bool.and_eq_true, List.all_eq_true, beq_iff_eq] at h
  obtain ⟨⟨h1, h2⟩, h3⟩ := h
  refine ⟨tabB_tab h1, h2, fun hk => ?_⟩
  rw [← lst_ones, groW_is (S := sysOf (tabB_tab h1)) (sysOf_w' _)] at h3
  obtain ⟨j1, j2, _⟩ := gro_top (S := sysOf (tabB_tab h1)) (n := L.length) (k := 40) (by omega)
  exact ⟨_, j1, by omega⟩
def shM (l : List Nat) (M : Nat → Nat → Int) (i j : Nat) : Int := M (ordF l i) (ordF l j)
theorem shM_tab {n : Nat} {M : Nat → Nat → Int} {l : List Nat} (p : l.Perm (List.range n)) (T : Tab n M) : Tab n (shM l M) where
  n1 := T.n1
  n6 := T.n6
  dia := fun i hi => T.dia _ (ordF_lt p hi)
  kind := fun i j hi hj h => T.kind _ _ (ordF_lt p hi) (ordF_lt p hj) fun e => h (by have := congrArg (ordG l) e; rwa [ordGF p, ordGF p] at this)
  sym := fun i j hi hj => T.sym _ _ (ordF_lt p hi) (ordF_lt p hj)
theorem shM_ren {n : Nat} {M : Nat → Nat → Int} {l : List Nat} (p : l.Perm (List.range n)) (T : Tab n M) : Ren (sysOf T) (sysOf (shM_tab p T)) (ordF l) (ordG l) where
  fg := ordFG p
  gf := ordGF p
  m := fun a b => by
    have inj : ordF l a = ordF l b ↔ a = b := ⟨fun e => by have := congrArg (ordG l) e; rwa [ordGF p, ordGF p] at this, fun e => by rw [e]⟩
    have lt : ∀ c, ordF l c < n ↔ c < n := fun c => ⟨fun h => by have := ordG_lt p h; rwa [ordGF p] at this, ordF_lt p⟩
    show (if a < n ∧ b < n ∧ a ≠ b then (shM l M a b).toNat else 2) = (if ordF l a < n ∧ ordF l b < n ∧ ordF l a ≠ ordF l b then (M (ordF l a) (ordF l b)).toNat else 2)
    simp only [lt, ne_eq, inj, shM]
theorem shM_top {n : Nat} {M : Nat → Nat → Int} {l : List Nat} (p : l.Perm (List.range n)) (T : Tab n M) {t : Wd} (h : Top (sysOf T) n t) : Top (sysOf (shM_tab p T)) n (t.map (ordG l)) ∧ ell (sysOf (shM_tab p T)) (t.map (ordG l)) = ell (sysOf T) t :=
  ⟨(shM_ren p T).top (fun _ => ordF_lt p) (fun _ => ordG_lt p) h, by rw [(shM_ren p T).ell, (shM_ren p T).map_fg]⟩
end BW

set_option Elab.async false
set_option linter.all false
set_option maxRecDepth 100000
set_option maxHeartbeats 4000000
namespace Cox
abbrev Mat := Nat → Nat → Int
def dsum (f : Nat → Int) : Nat → Int
  | 0 => 0
  | n + 1 => dsum f n + f n
theorem dsum_congr {f g : Nat → Int} : ∀ {n : Nat}, (∀ k, k < n → f k = g k) → dsum f n = dsum g n
  | 0, _ => rfl
  | n + 1, h => by unfold dsum; rw [dsum_congr fun k hk => h k (by omega), h n (by omega)]
theorem dsum_lin (a c : Int) (f g : Nat → Int) : ∀ n, dsum (fun k => a * f k + c * g k) n = a * dsum f n + c * dsum g n
  | 0 => by simp [dsum]
  | n + 1 => by unfold dsum; rw [dsum_lin a c f g n, Int.mul_add, Int.mul_add]; omega
theorem dsum_zero {f : Nat → Int} : ∀ {n : Nat}, (∀ k, k < n → f k = 0) → dsum f n = 0
  | 0, _ => rfl
  | n + 1, h => by unfold dsum; rw [dsum_zero fun k hk => h k (by omega), h n (by omega)]; rfl
theorem dsum_one {f : Nat → Int} {j : Nat} : ∀ {n : Nat}, j < n → (∀ k, k < n → k ≠ j → f k = 0) → dsum f n = f j
  | 0, h, _ => by omega
  | n + 1, h, z => by
    unfold dsum
    by_cases c : j = n
    · subst c
      rw [dsum_zero fun k hk => z k (by omega) (by omega)]; omega
    · rw [dsum_one (by omega) fun k hk => z k (by omega), z n (by omega) (by omega)]; omega
theorem dsum_two {f : Nat → Int} {j : Nat} : ∀ {n : Nat}, j + 1 < n → (∀ k, k < n → k ≠ j → k ≠ j + 1 → f k = 0) → f j + f (j + 1) = 0 → dsum f n = 0
  | 0, h, _, _ => by omega
  | n + 1, h, z, e => by
    unfold dsum
    by_cases c : j + 1 = n
    · subst c
      rw [dsum_one (j := j) (by omega) fun k hk hj => z k (by omega) hj (by omega)]; exact e
    · rw [dsum_two (by omega) (fun k hk => z k (by omega)) e, z n (by omega) (by omega) (by omega)]; rfl
def sgn (j : Nat) : Int := if j % 2 = 1 then -1 else 1
theorem sgn_succ (j : Nat) : sgn (j + 1) = - sgn j := by
  unfold sgn
  by_cases c : j % 2 = 1
  · rw [if_pos c, if_neg (by omega)]; rfl
  · rw [if_neg c, if_pos (by omega)]
def cutM (A : Mat) (j : Nat) : Mat := fun i k => A (i + 1) (if k < j then k else k + 1)
def det : Nat → Mat → Int
  | 0, _ => 1
  | n + 1, A => dsum (fun j => A 0 j * det n (cutM A j) * sgn j) (n + 1)
theorem det_succ (n : Nat) (A : Mat) : det (n + 1) A = dsum (fun j => A 0 j * det n (cutM A j) * sgn j) (n + 1) := rfl
theorem det_congr : ∀ {n : Nat} {A B : Mat}, (∀ i k, i < n → k < n → A i k = B i k) → det n A = det n B
  | 0, _, _, _ => rfl
  | n + 1, A, B, h => by
    unfold det
    refine dsum_congr fun j hj => ?_
    rw [h 0 j (by omega) hj, det_congr (A := cutM A j) (B := cutM B j) fun i k hi hk => ?_]
    unfold cutM
    exact h _ _ (by omega) (by split <;> omega)
def rc (A : Mat) (j : Nat) (v : Nat → Int) : Mat := fun i k => if k = j then v i else A i k
theorem cut_rc_same (A : Mat) (j : Nat) (v : Nat → Int) : cutM (rc A j v) j = cutM A j := by
  funext i k
  unfold cutM rc
  rw [if_neg (by split <;> omega)]
theorem cut_rc (A : Mat) {j k : Nat} (h : k ≠ j) (v : Nat → Int) : cutM (rc A j v) k = rc (cutM A k) (if j < k then j else j - 1) (fun i => v (i + 1)) := by
  funext i l
  unfold cutM rc
  by_cases c : l = (if j < k then j else j - 1)
  · rw [if_pos c, if_pos (by split at c <;> split <;> omega)]
  · rw [if_neg c, if_neg (by split at c <;> split <;> omega)]
theorem det_lin : ∀ (n : Nat) (A : Mat) (j : Nat) (a c : Int) (u v : Nat → Int), j < n → det n (rc A j fun i => a * u i + c * v i) = a * det n (rc A j u) + c * det n (rc A j v)
  | 0, _, _, _, _, _, _, h => by omega
  | n + 1, A, j, a, c, u, v, h => by
    unfold det
    rw [← dsum_lin]
    refine dsum_congr fun k hk => ?_
    by_cases e : k = j
    · subst e
      rw [cut_rc_same, cut_rc_same, cut_rc_same]
      have r : ∀ w : Nat → Int, rc A k w 0 k = w 0 := fun w => by unfold rc; rw [if_pos rfl]
      rw [r, r, r, Int.add_mul, Int.add_mul, Int.mul_assoc, Int.mul_assoc, Int.mul_assoc, Int.mul_assoc, Int.mul_assoc, Int.mul_assoc]
    · have r : ∀ w : Nat → Int, rc A j w 0 k = A 0 k := fun w => by unfold rc; rw [if_neg e]
      rw [r, r, r, cut_rc A e, cut_rc A e, cut_rc A e, det_lin n (cutM A k) _ a c (fun i => u (i + 1)) (fun i => v (i + 1)) (by split <;> omega)]
      generalize det n (rc (cutM A k) _ fun i => u (i + 1)) = x
      generalize det n (rc (cutM A k) _ fun i => v (i + 1)) = y
      rw [Int.mul_add, Int.add_mul]
      have e1 : A 0 k * (a * x) = a * (A 0 k * x) := by rw [← Int.mul_assoc, Int.mul_comm (A 0 k), Int.mul_assoc]
      have e2 : A 0 k * (c * y) = c * (A 0 k * y) := by rw [← Int.mul_assoc, Int.mul_comm (A 0 k), Int.mul_assoc]
      rw [e1, e2, Int.mul_assoc a, Int.mul_assoc c]
theorem det_adj : ∀ (n : Nat) (A : Mat) (j : Nat), j + 1 < n → (∀ i, A i j = A i (j + 1)) → det n A = 0
  | 0, _, _, h, _ => by omega
  | n + 1, A, j, h, e => by
    unfold det
    refine dsum_two (j := j) h (fun k hk h1 h2 => ?_) ?_
    · rw [det_adj n (cutM A k) (if j < k then j else j - 1) (by split <;> omega) fun i => ?_]
      · simp
      · unfold cutM
        by_cases c : j < k
        · rw [if_pos c, if_pos c, if_pos (by omega)]; exact e _
        · rw [if_neg c, if_neg (by omega), if_neg (by omega), show j - 1 + 1 = j by omega]; exact e _
    · have ec : cutM A j = cutM A (j + 1) := by
        funext i l
        unfold cutM
        by_cases c : l = j
        · subst c
          rw [if_neg (by omega), if_pos (by omega)]; exact (e _).symm
        · by_cases c2 : l < j
          · rw [if_pos c2, if_pos (by omega)]
          · rw [if_neg c2, if_neg (by omega)]
      rw [ec, e 0, sgn_succ, Int.mul_neg]
      omega
theorem rc_comm (A : Mat) {j k : Nat} (h : j ≠ k) (u v : Nat → Int) : rc (rc A j u) k v = rc (rc A k v) j u := by
  funext i l
  unfold rc
  by_cases c : l = k
  · rw [if_pos c, if_neg (by omega), if_pos c]
  · rw [if_neg c]
    by_cases c2 : l = j
    · rw [if_pos c2, if_pos c2]
    · rw [if_neg c2, if_neg c2, if_neg c]
theorem rc_self (A : Mat) (j : Nat) : rc A j (fun i => A i j) = A := by
  funext i k; unfold rc; split <;> simp_all
theorem det_add (n : Nat) (A : Mat) (j : Nat) (u v : Nat → Int) (h : j < n) : det n (rc A j fun i => u i + v i) = det n (rc A j u) + det n (rc A j v) := by
  have := det_lin n A j 1 1 u v h
  simpa using this
theorem det_swap (n : Nat) (A : Mat) (j : Nat) (h : j + 1 < n) (u v : Nat → Int) : det n (rc (rc A j u) (j + 1) v) = - det n (rc (rc A j v) (j + 1) u) := by
  have same : ∀ x : Nat → Int, det n (rc (rc A j x) (j + 1) x) = 0 := fun x => det_adj n _ j h fun i => by
    unfold rc
    rw [if_neg (by omega), if_pos rfl, if_pos rfl]
  have z := same fun i => u i + v i
  have a2 : ∀ p : Nat → Int, det n (rc (rc A j p) (j + 1) fun i => u i + v i) = det n (rc (rc A j p) (j + 1) u) + det n (rc (rc A j p) (j + 1) v) := fun p => det_add n (rc A j p) (j + 1) u v h
  have cm : ∀ p q : Nat → Int, rc (rc A j p) (j + 1) q = rc (rc A (j + 1) q) j p := fun p q => rc_comm A (by omega) p q
  have a1 : ∀ q : Nat → Int, det n (rc (rc A j fun i => u i + v i) (j + 1) q) = det n (rc (rc A j u) (j + 1) q) + det n (rc (rc A j v) (j + 1) q) := fun q => by
    rw [cm, cm, cm]
    exact det_add n (rc A (j + 1) q) j u v (by omega)
  have s1 := same u
  have s2 := same v
  rw [a2, a1, a1] at z
  omega
theorem det_far (n : Nat) : ∀ (j : Nat) (A : Mat), 0 < j → j < n → (∀ i, A i 0 = A i j) → det n A = 0
  | 0, _, h, _, _ => by omega
  | j + 1, A, _, h, e => by
    by_cases c : j = 0
    · subst c; exact det_adj n A 0 h e
    · have sw := det_swap n A j h (fun i => A i j) (fun i => A i (j + 1))
      have e1 : rc (rc A j fun i => A i j) (j + 1) (fun i => A i (j + 1)) = A := by rw [rc_self, rc_self]
      rw [e1] at sw
      rw [sw, det_far n j (rc (rc A j fun i => A i (j + 1)) (j + 1) fun i => A i j) (by omega) (by omega) fun i => ?_]
      · rfl
      · unfold rc
        rw [if_neg (by omega), if_neg (by omega), if_neg (by omega), if_pos rfl]; exact e i
theorem det_col (n : Nat) (A : Mat) {j : Nat} (h0 : 0 < j) (h : j < n) (a c : Int) : det n (rc A j fun i => a * A i j + c * A i 0) = a * det n A := by
  rw [det_lin n A j a c (fun i => A i j) (fun i => A i 0) h, rc_self, det_far n j (rc A j fun i => A i 0) h0 h fun i => ?_]
  · omega
  · unfold rc
    rw [if_neg (by omega), if_pos rfl]
def chio (A : Mat) (m : Nat) : Mat := fun i k => if 0 < k ∧ k ≤ m then A 0 0 * A i k + (- A 0 k) * A i 0 else A i k
theorem det_chio (n : Nat) (A : Mat) : ∀ m, m < n → det n (chio A m) = A 0 0 ^ m * det n A
  | 0, _ => by
    have : chio A 0 = A := by funext i k; unfold chio; rw [if_neg (by omega)]
    rw [this]; simp
  | m + 1, h => by
    have e : chio A (m + 1) = rc (chio A m) (m + 1) fun i => A 0 0 * chio A m i (m + 1) + (- A 0 (m + 1)) * chio A m i 0 := by
      funext i k
      have c0 : chio A m i 0 = A i 0 := by unfold chio; rw [if_neg (by omega)]
      have c1 : chio A m i (m + 1) = A i (m + 1) := by unfold chio; rw [if_neg (by omega)]
      show chio A (m + 1) i k = if k = m + 1 then A 0 0 * chio A m i (m + 1) + (- A 0 (m + 1)) * chio A m i 0 else chio A m i k
      rw [c0, c1]
      by_cases c : k = m + 1
      · rw [if_pos c, c]; unfold chio; rw [if_pos (by omega)]
      · rw [if_neg c]; unfold chio
        by_cases c2 : 0 < k ∧ k ≤ m
        · rw [if_pos c2, if_pos (by omega)]
        · rw [if_neg c2, if_neg (by omega)]
    have pw : A 0 0 ^ (m + 1) * det n A = A 0 0 * (A 0 0 ^ m * det n A) := by rw [Int.pow_succ, Int.mul_comm (A 0 0 ^ m) (A 0 0), Int.mul_assoc]
    rw [e, det_col n (chio A m) (by omega) h, det_chio n A m (by omega), pw]
def schur (A : Mat) : Mat := fun i k => A 0 0 * A (i + 1) (k + 1) + (- A 0 (k + 1)) * A (i + 1) 0
theorem det_schur (n : Nat) (A : Mat) : A 0 0 ^ n * det (n + 1) A = A 0 0 * det n (schur A) := by
  rw [← det_chio (n + 1) A n (by omega), det_succ]
  have f0 : chio A n 0 0 = A 0 0 := by unfold chio; rw [if_neg (by omega)]
  rw [dsum_one (j := 0) (by omega) fun k hk hk0 => ?_, f0]
  · have : cutM (chio A n) 0 = fun i k => chio A n (i + 1) (k + 1) := by funext i k; unfold cutM; rw [if_neg (by omega)]
    rw [this, det_congr (B := schur A) fun i k hi hk => ?_]
    · simp [sgn]
    · show chio A n (i + 1) (k + 1) = _
      unfold chio schur
      rw [if_pos (by omega)]
  · have : chio A n 0 k = 0 := by
      unfold chio
      rw [if_pos (by omega), Int.neg_mul, Int.mul_comm]
      omega
    rw [this]; simp
structure MM (n : Nat) (A : Mat) (x : Nat → Int) : Prop where
  off : ∀ i j, i < n → j < n → i ≠ j → A i j ≤ 0
  pos : ∀ i, i < n → 0 < x i
  strain : ∀ i, i < n → 0 < dsum (fun j => A i j * x j) n
theorem dsum_nonpos {f : Nat → Int} : ∀ {n : Nat}, (∀ k, k < n → f k ≤ 0) → dsum f n ≤ 0
  | 0, _ => Int.le_refl _
  | n + 1, h => by
    have := dsum_nonpos (f := f) (n := n) fun k hk => h k (by omega)
    have := h n (by omega)
    unfold dsum; omega
theorem dsum_head (f : Nat → Int) : ∀ n, dsum f (n + 1) = f 0 + dsum (fun k => f (k + 1)) n
  | 0 => by simp [dsum]
  | n + 1 => by
    have := dsum_head f n
    unfold dsum at this ⊢
    unfold dsum
    omega
theorem MM.head {n : Nat} {A : Mat} {x : Nat → Int} (h : MM (n + 1) A x) : 0 < A 0 0 := by
  have s := h.strain 0 (by omega)
  rw [dsum_head] at s
  have le : dsum (fun k => A 0 (k + 1) * x (k + 1)) n ≤ 0 := dsum_nonpos fun k hk => Int.mul_nonpos_of_nonpos_of_nonneg (h.off 0 (k + 1) (by omega) (by omega) (by omega)) (by have := h.pos (k + 1) (by omega); omega)
  have x0 := h.pos 0 (by omega)
  have : 0 < A 0 0 * x 0 := by omega
  exact Int.pos_of_mul_pos_left this x0
theorem mul_four (a p q r y : Int) : (a * p + (- q) * r) * y = a * (p * y) + (- r) * (q * y) := by
  rw [Int.add_mul, Int.mul_assoc, Int.neg_mul, Int.neg_mul, Int.neg_mul, ← Int.mul_assoc r, Int.mul_comm q r]
theorem MM.schur {n : Nat} {A : Mat} {x : Nat → Int} (h : MM (n + 1) A x) : MM n (schur A) (fun i => x (i + 1)) where
  off := fun i j hi hj ne => by
    have a0 := h.head
    have e1 := h.off (i + 1) (j + 1) (by omega) (by omega) (by omega)
    have e2 := h.off 0 (j + 1) (by omega) (by omega) (by omega)
    have e3 := h.off (i + 1) 0 (by omega) (by omega) (by omega)
    unfold Cox.schur
    have m1 := Int.mul_nonpos_of_nonneg_of_nonpos (Int.le_of_lt a0) e1
    have m2 := Int.mul_nonpos_of_nonneg_of_nonpos (show 0 ≤ - A 0 (j + 1) by omega) e3
    omega
  pos := fun i hi => h.pos (i + 1) (by omega)
  strain := fun i hi => by
    have a0 := h.head
    have s0 := h.strain 0 (by omega)
    have s1 := h.strain (i + 1) (by omega)
    have e3 := h.off (i + 1) 0 (by omega) (by omega) (by omega)
    have key : dsum (fun j => Cox.schur A i j * x (j + 1)) n = A 0 0 * dsum (fun j => A (i + 1) j * x j) (n + 1) + (- A (i + 1) 0) * dsum (fun j => A 0 j * x j) (n + 1) := by
      rw [dsum_head, dsum_head]
      have : dsum (fun j => Cox.schur A i j * x (j + 1)) n = dsum (fun j => A 0 0 * (A (i + 1) (j + 1) * x (j + 1)) + (- A (i + 1) 0) * (A 0 (j + 1) * x (j + 1))) n := dsum_congr fun j hj => by
        exact mul_four _ _ _ _ _
      rw [this, dsum_lin, Int.mul_add, Int.mul_add]
      have : A 0 0 * (A (i + 1) 0 * x 0) = A (i + 1) 0 * (A 0 0 * x 0) := by rw [← Int.mul_assoc, Int.mul_comm (A 0 0), Int.mul_assoc]
      have e4 : (- A (i + 1) 0) * (A 0 0 * x 0) = - (A (i + 1) 0 * (A 0 0 * x 0)) := Int.neg_mul _ _
      rw [this, e4]
      omega
    rw [key]
    have p1 := Int.mul_pos a0 s1
    have p2 := Int.mul_nonneg (show 0 ≤ - A (i + 1) 0 by omega) (Int.le_of_lt s0)
    omega
theorem MM.det_pos : ∀ {n : Nat} {A : Mat} {x : Nat → Int}, MM n A x → 0 < det n A
  | 0, _, _, _ => by show (0 : Int) < 1; decide
  | n + 1, A, x, h => by
    have a0 := h.head
    have ih := MM.det_pos h.schur
    have e := det_schur n A
    have p : 0 < A 0 0 ^ n * det (n + 1) A := by rw [e]; exact Int.mul_pos a0 ih
    exact Int.pos_of_mul_pos_right p (Int.pow_pos a0)
end Cox

set_option Elab.async false
set_option linter.all false
set_option maxRecDepth 100000
set_option maxHeartbeats 4000000
namespace Cox
def isum : List Int → Int
  | [] => 0
  | a :: l => a + isum l
theorem isum_app : ∀ (l r : List Int), isum (l ++ r) = isum l + isum r
  | [], r => by simp [isum]
  | a :: l, r => by simp only [List.cons_append, isum, isum_app l r]; omega
theorem isum_perm {l r : List Int} (p : l.Perm r) : isum l = isum r := by
  induction p with
  | nil => rfl
  | cons a _ i => simp only [isum, i]
  | swap a b l => simp only [isum]; omega
  | trans _ _ i j => exact i.trans j
theorem dsum_isum (f : Nat → Int) : ∀ n, dsum f n = isum ((List.range n).map f)
  | 0 => rfl
  | n + 1 => by rw [List.range_succ, List.map_append, isum_app, ← dsum_isum f n]; simp [isum, dsum]
theorem isum_split (f : Nat → Int) (q : Nat → Bool) : ∀ L : List Nat, isum (L.map f) = isum ((L.filter q).map f) + isum ((L.filter fun a => !q a).map f)
  | [] => rfl
  | a :: L => by
    have := isum_split f q L
    cases h : q a <;> simp [h, isum] <;> omega
theorem isum_le0 {f : Nat → Int} : ∀ {L : List Nat}, (∀ a ∈ L, f a ≤ 0) → isum (L.map f) ≤ 0
  | [], _ => Int.le_refl _
  | a :: L, h => by
    have h1 := h a List.mem_cons_self
    have h2 := isum_le0 (f := f) (L := L) fun b hb => h b (List.mem_cons_of_mem _ hb)
    simp only [List.map_cons, isum]; omega
theorem isum_sub {f : Nat → Int} {l L : List Nat} (ndl : l.Nodup) (s : ∀ a ∈ l, a ∈ L) (nd : L.Nodup) (h : ∀ a ∈ L, a ∉ l → f a ≤ 0) : isum (L.map f) ≤ isum (l.map f) := by
  rw [isum_split f (fun a => decide (a ∈ l)) L]
  have p : (L.filter fun a => decide (a ∈ l)).Perm l := (List.perm_ext_iff_of_nodup (nd.filter _) ndl).mpr fun a => by
    rw [List.mem_filter, decide_eq_true_eq]
    exact ⟨fun z => z.2, fun z => ⟨s a z, z⟩⟩
  rw [isum_perm (p.map f)]
  have := isum_le0 (f := f) (L := L.filter fun a => !decide (a ∈ l)) fun a ha => by
    rw [List.mem_filter] at ha
    exact h a ha.1 (by simpa using ha.2)
  omega
theorem map_getD {α : Type} (l : List Nat) (f : Nat → α) (k : Nat → Nat) (hk : ∀ i, i < l.length → k i = l.getD i i) : (List.range l.length).map (fun i => f (k i)) = l.map f := by
  refine List.ext_getElem (by simp) fun i h1 h2 => ?_
  have h : i < l.length := by simpa using h2
  simp [hk i h, List.getD_eq_getElem?_getD, h]
theorem MM.part {n : Nat} {A : Mat} {x : Nat → Int} (h : MM n A x) {c : List Nat} (ndc : c.Nodup) (s : ∀ a ∈ c, a < n) : MM c.length (fun i j => A (ordF c i) (ordF c j)) (fun i => x (ordF c i)) := by
  have nd := List.nodup_range (n := n)
  have get : ∀ i, i < c.length → ordF c i ∈ c := fun i hi => by
    unfold ordF
    rw [List.getD_eq_getElem?_getD, List.getElem?_eq_getElem hi, Option.getD_some]
    exact List.getElem_mem _
  have lt : ∀ i, i < c.length → ordF c i < n := fun i hi => s _ (get i hi)
  have inj : ∀ i j, i < c.length → j < c.length → ordF c i = ordF c j → i = j := fun i j hi hj e => by
    unfold ordF at e
    rw [List.getD_eq_getElem?_getD, List.getElem?_eq_getElem hi, Option.getD_some, List.getD_eq_getElem?_getD, List.getElem?_eq_getElem hj, Option.getD_some] at e
    have := congrArg (c.idxOf ·) e
    simp only [ndc.idxOf_getElem] at this
    exact this
  refine ⟨fun i j hi hj ne => h.off _ _ (lt i hi) (lt j hj) fun e => ne (inj i j hi hj e), fun i hi => h.pos _ (lt i hi), fun i hi => ?_⟩
  have st1 := h.strain _ (lt i hi)
  rw [dsum_isum] at st1 ⊢
  rw [map_getD c (fun j => A (ordF c i) j * x j) (ordF c) fun _ _ => rfl]
  refine Int.lt_of_lt_of_le st1 (isum_sub ndc (fun a ha => List.mem_range.mpr (s a ha)) nd fun b hb hn => ?_)
  have hb' := List.mem_range.mp hb
  exact Int.mul_nonpos_of_nonpos_of_nonneg (h.off _ _ (lt i hi) hb' fun e => hn (e ▸ get i hi)) (Int.le_of_lt (h.pos b hb'))
theorem MM.order {n : Nat} {A : Mat} {x : Nat → Int} (h : MM n A x) {l : List Nat} (p : l.Perm (List.range n)) : MM n (fun i j => A (ordF l i) (ordF l j)) (fun i => x (ordF l i)) := by
  have hl : l.length = n := by rw [p.length_eq, List.length_range]
  refine ⟨fun i j hi hj ne => h.off _ _ (ordF_lt p hi) (ordF_lt p hj) fun e => ne (by have := congrArg (ordG l) e; rwa [ordGF p, ordGF p] at this), fun i hi => h.pos _ (ordF_lt p hi), fun i hi => ?_⟩
  have st1 := h.strain _ (ordF_lt p hi)
  rw [dsum_isum] at st1 ⊢
  have e := map_getD l (fun j => A (ordF l i) j * x j) (ordF l) fun _ _ => rfl
  rw [hl] at e
  rw [e, isum_perm (p.map _)]
  exact st1
theorem MM.part_pos {n : Nat} {A : Mat} {x : Nat → Int} (h : MM n A x) {c : List Nat} (ndc : c.Nodup) (s : ∀ a ∈ c, a < n) : 0 < det c.length (fun i j => A (ordF c i) (ordF c j)) := (h.part ndc s).det_pos
end Cox

set_option Elab.async false
set_option linter.all false
set_option maxRecDepth 100000
set_option maxHeartbeats 4000000
namespace BW
open PySem PySem.Spec PyProof.Rows L2
open Cox
def wO (M : Nat → Nat → Int) (o : Nat → Nat → Bool) (a b : Nat) : Int := if a = b then -2 else wtK (M a b) (o a b)
def meaK (L : List (List Int)) (b : Bool) : List Int :=
  if L = [] then [] else if L = [[1]] then [1] else if L = [[1, 3], [3, 1]] then [1, 1] else
  if L = [[1, 4], [4, 1]] then (if b then [3, 2] else [2, 3]) else if L = [[1, 6], [6, 1]] then (if b then [5, 3] else [3, 5]) else
  if L = [[1, 3, 2], [3, 1, 3], [2, 3, 1]] then [3, 4, 3] else if L = [[1, 4, 2], [4, 1, 3], [2, 3, 1]] then (if b then [9, 8, 5] else [6, 10, 6]) else
  if L = [[1, 3, 2, 2], [3, 1, 3, 2], [2, 3, 1, 3], [2, 2, 3, 1]] then [2, 3, 3, 2] else [3, 3, 5, 3]
def oB (k : Nat) (b1 b2 : Bool) (i j : Nat) : Bool := if i = 0 ∧ j = 1 then b1 else if i = 1 ∧ j = 0 then !b1 else if i = k ∧ j = k + 1 then b2 else if i = k + 1 ∧ j = k then !b2 else true
def oddB (n k : Nat) (M : Nat → Nat → Int) : Bool := (List.range n).all fun i => (List.range n).all fun j => i == j || decide (M i j = 2) || decide (M i j = 3) ||
  (decide (i = 0) && decide (j = 1)) || (decide (i = 1) && decide (j = 0)) || (decide (i = k) && decide (j = k + 1)) || (decide (i = k + 1) && decide (j = k))
def meaB (n : Nat) (w : Nat → Nat → Int) (x : List Int) : Bool := (List.range n).all fun i => decide (0 < x.getD i 0) && decide (0 < dsum (fun j => - w j i * x.getD j 0) n)
theorem mea_all : ((finK.drop 1).all fun p => finK.all fun q => !decide (p.1.length + q.1.length ≤ 6) || (oddB (p.1.length + q.1.length) p.1.length (litM (joinT p.1 q.1)) &&
  [true, false].all fun b1 => [true, false].all fun b2 => meaB (p.1.length + q.1.length) (wO (litM (joinT p.1 q.1)) (oB p.1.length b1 b2)) (meaK p.1 b1 ++ meaK q.1 b2))) = true := by decide +kernel
theorem mea_ok {p q : List (List Int) × Nat × Nat} (hp : p ∈ finK.drop 1) (hq : q ∈ finK) (h : p.1.length + q.1.length ≤ 6) (b1 b2 : Bool) : oddB (p.1.length + q.1.length) p.1.length (litM (joinT p.1 q.1)) = true ∧
    meaB (p.1.length + q.1.length) (wO (litM (joinT p.1 q.1)) (oB p.1.length b1 b2)) (meaK p.1 b1 ++ meaK q.1 b2) = true := by
  have := List.all_eq_true.mp (List.all_eq_true.mp mea_all p hp) q hq
  rw [decide_eq_true h, Bool.not_true, Bool.false_or, Bool.and_eq_true] at this
  refine ⟨this.1, ?_⟩
  exact List.all_eq_true.mp (List.all_eq_true.mp this.2 b1 (by cases b1 <;> simp)) b2 (by cases b2 <;> simp)
theorem wO_oB {n k : Nat} {M : Nat → Nat → Int} (ho : oddB n k M = true) (o : Nat → Nat → Bool) (an : ∀ i j, i ≠ j → o j i = !o i j) {a b : Nat} (ha : a < n) (hb : b < n) : wO M o a b = wO M (oB k (o 0 1) (o k (k + 1))) a b := by
  unfold wO
  by_cases e : a = b
  · rw [if_pos e, if_pos e]
  rw [if_neg e, if_neg e]
  have := List.all_eq_true.mp (List.all_eq_true.mp ho a (List.mem_range.mpr ha)) b (List.mem_range.mpr hb)
  simp only [Bool.or_eq_true, Bool.and_eq_true, decide_eq_true_eq, beq_iff_eq] at this
  have s2 : ∀ x y : Bool, wtK 2 x = wtK 2 y := by decide
  have s3 : ∀ x y : Bool, wtK 3 x = wtK 3 y := by decide
  have key : M a b = 2 ∨ M a b = 3 ∨ o a b = oB k (o 0 1) (o k (k + 1)) a b := by
    by_cases c1 : a = 0 ∧ b = 1
    · obtain ⟨rfl, rfl⟩ := c1; exact .inr (.inr (by simp [oB]))
    by_cases c2 : a = 1 ∧ b = 0
    · obtain ⟨rfl, rfl⟩ := c2; exact .inr (.inr (by simp [oB, an 0 1 (by decide)]))
    by_cases c3 : a = k ∧ b = k + 1
    · obtain ⟨rfl, rfl⟩ := c3
      exact .inr (.inr (by unfold oB; rw [if_neg c1, if_neg c2, if_pos ⟨rfl, rfl⟩]))
    by_cases c4 : a = k + 1 ∧ b = k
    · obtain ⟨rfl, rfl⟩ := c4
      exact .inr (.inr (by unfold oB; rw [if_neg c1, if_neg c2, if_neg c3, if_pos ⟨rfl, rfl⟩, an b (b + 1) (by omega)]))
    omega
  rcases key with h | h | h
  · rw [h]; exact s2 _ _
  · rw [h]; exact s3 _ _
  · rw [h]
theorem joinT_len (A B : List (List Int)) : (joinT A B).length = A.length + B.length := by simp [joinT]
def strM (w : Nat → Nat → Int) : Mat := fun i j => - w j i
theorem wtK_0 (v : Int) (b : Bool) : 0 ≤ wtK v b := (wtK_bd v b).1
theorem MMcongr {n : Nat} {A B : Mat} {x : Nat → Int} (h : MM n A x) (e : ∀ i j, i < n → j < n → A i j = B i j) : MM n B x :=
  ⟨fun i j hi hj ne => by rw [← e i j hi hj]; exact h.off i j hi hj ne, h.pos, fun i hi => by
    have := h.strain i hi
    rwa [dsum_congr (g := fun j => B i j * x j) fun j hj => by rw [e i j hi hj]] at this⟩
theorem fin_mm {p q : List (List Int) × Nat × Nat} (hp : p ∈ finK.drop 1) (hq : q ∈ finK) (h : p.1.length + q.1.length ≤ 6) {l : List Nat} (pl : l.Perm (List.range (p.1.length + q.1.length)))
    (T' : Tab (p.1.length + q.1.length) (shM l (litM (joinT p.1 q.1)))) : ∃ x, MM (p.1.length + q.1.length) (strM (sysOf T').w) x := by
  generalize hk : p.1.length = k at *
  generalize hn : k + q.1.length = n at *
  generalize hM : litM (joinT p.1 q.1) = M at *
  let o : Nat → Nat → Bool := fun i j => decide (ordG l i < ordG l j)
  have an : ∀ i j, i ≠ j → o j i = !o i j := fun i j ne => by
    have : ordG l i ≠ ordG l j := fun e => ne (by have := congrArg (ordF l) e; rwa [ordFG pl, ordFG pl] at this)
    simp only [o]
    by_cases c : ordG l i < ordG l j
    · simp [c]; omega
    · simp [c]; omega
  obtain ⟨h1, h2⟩ := mea_ok hp hq (by omega) (o 0 1) (o k (k + 1))
  rw [hk, hn, hM] at h1 h2
  generalize meaK p.1 (o 0 1) ++ meaK q.1 (o k (k + 1)) = x at *
  have m : MM n (strM (wO M o)) (fun i => x.getD i 0) := by
    have hh := fun i (hi : i < n) => List.all_eq_true.mp h2 i (List.mem_range.mpr hi)
    simp only [Bool.and_eq_true, decide_eq_true_eq] at hh
    refine ⟨fun i j hi hj ne => ?_, fun i hi => (hh i hi).1, fun i hi => ?_⟩
    · have := wtK_0 (M j i) (o j i)
      unfold strM wO
      rw [if_neg (Ne.symm ne)]; omega
    · have := (hh i hi).2
      rwa [dsum_congr (g := fun j => strM (wO M o) i j * x.getD j 0) fun j hj => by show _ = - wO M o j i * _; rw [wO_oB h1 o an hj hi]] at this
  have m2 := m.order pl
  refine ⟨fun i => x.getD (ordF l i) 0, MMcongr m2 fun i j hi hj => ?_⟩
  show - wO M o (ordF l j) (ordF l i) = - (sysOf T').w j i
  rw [sysOf_w' T' j i hj hi]
  unfold wO wM
  by_cases e : j = i
  · subst e; rw [if_pos rfl, if_pos rfl]
  · rw [if_neg e, if_neg fun z => e (by have := congrArg (ordG l) z; rwa [ordGF pl, ordGF pl] at this)]
    simp only [o, ordGF pl, shM]
end BW

set_option Elab.async false
set_option linter.all false
set_option maxRecDepth 100000
set_option maxHeartbeats 4000000
namespace BW
open PySem Cox
section
variable {h : AH} {b n : Nat} {M : Nat → Nat → Int}
def chM (T : Tab n M) (c : Wd) : Mat := fun i j => strM (sysOf T).w (ordF c i) (ordF c j)
end
end BW

set_option Elab.async false
set_option linter.all false
set_option maxRecDepth 100000
set_option maxHeartbeats 4000000
namespace BW
open PySem Cox
end BW

set_option Elab.async false
set_option linter.all false
set_option maxRecDepth 100000
set_option maxHeartbeats 4000000
namespace BW
open PySem Cox
end BW

set_option Elab.async false
set_option linter.all false
set_option maxRecDepth 100000
set_option maxHeartbeats 4000000
namespace BW
open PySem Cox
section
variable {h : AH} {b n : Nat} {M : Nat → Nat → Int}
def endB (T : Tab n M) (c : Wd) : Bool := hangsB (nearM M) c && decide (det c.length (chM T c) ≤ 0)
def endCh (T : Tab n M) : Option Wd := (chs n).find? (endB T)
end
end BW

set_option Elab.async false
set_option linter.all false
set_option maxRecDepth 100000
set_option maxHeartbeats 4000000
namespace BW
open PySem Cox
end BW

set_option Elab.async false
set_option linter.all false
set_option maxRecDepth 100000
set_option maxHeartbeats 4000000
namespace BW
open PySem Cox
section
variable {h : AH} {b n : Nat} {M : Nat → Nat → Int}
def finB' (T : Tab n M) : Bool := (endCh T).isNone
end
end BW

set_option Elab.async false
set_option linter.all false
namespace Cox
section
open Sys
variable {S : Sys}
end
end Cox

set_option Elab.async false
set_option linter.all false
set_option maxRecDepth 100000
set_option maxHeartbeats 4000000
namespace BW
open PySem Cox
section
variable {h : AH} {b n : Nat} {M : Nat → Nat → Int}
end
end BW

set_option Elab.async false
set_option linter.all false
set_option maxRecDepth 100000
set_option maxHeartbeats 4000000
namespace BW
open PySem Cox
theorem pop_eq {f g : Ev} {e : Env} {h h1 h2 : AH} {q : Nat} {xs0 xs : List D} {i : Int} {y : D} (hf : f e h = .ok (.ref q) h1) (h0 : h1[q]? = some (.lst xs0)) (hg : pv g e h1 = .ok (.int i) h2) (hx : h2[q]? = some (.lst xs)) (i0 : 0 ≤ i) (i1 : i < 1000000) (hy : xs[i.toNat]? = some y) :
    evPopAt f g e h = .ok y (h2.set q (.lst (xs.eraseIdx i.toNat))) := by
  unfold evPopAt
  rw [hf]
  simp only [bind_ok, h0, hg, hx]
  rw [if_pos ⟨i0, i1⟩]
  simp only [hy]
def nI (l : List Nat) : List Int := l.map fun (a : Nat) => (a : Int)
theorem nI_len (l : List Nat) : (nI l).length = l.length := by simp [nI]
theorem nI_range (n : Nat) : rangeD 0 n = (nI (List.range n)).map .int := by
  unfold rangeD nI
  rw [List.map_map]
  apply List.map_congr_left
  intro a _
  simp
theorem erase_map {α β : Type} (f : α → β) : ∀ (l : List α) (i : Nat), (l.map f).eraseIdx i = (l.eraseIdx i).map f
  | [], _ => rfl
  | _ :: _, 0 => rfl
  | a :: l, i + 1 => by
    show f a :: (l.map f).eraseIdx i = f a :: (l.eraseIdx i).map f
    rw [erase_map f l i]
theorem perm_erase {α : Type} : ∀ (l : List α) (i : Nat) (h : i < l.length), (l[i] :: l.eraseIdx i).Perm l
  | a :: l, 0, _ => List.Perm.refl _
  | a :: l, i + 1, h => (List.Perm.swap _ _ _).trans ((perm_erase l i (Nat.lt_of_succ_lt_succ h)).cons a)
theorem nI_erase (l : List Nat) (i : Nat) : ((nI l).map D.int).eraseIdx i = (nI (l.eraseIdx i)).map D.int := by
  unfold nI
  rw [List.map_map, List.map_map, erase_map]
theorem nI_map (l : List Nat) : l.map (fun (a : Nat) => D.int (a : Int)) = (nI l).map .int := by unfold nI; rw [List.map_map]; rfl
theorem ordF_get {l : List Nat} {i a : Nat} (h : l[i]? = some a) : ordF l i = a := by
  unfold ordF
  rw [List.getD_eq_getElem?_getD, h]
  rfl
theorem shuffled_is {N : Int} {h : AH} {r n : Nat} {M : Nat → Nat → Int} (R : RowsF 4 h r n M) (I : MInv 2 0 3 N h) (hN : N ≤ 800000) (n6 : n ≤ 6) :
    ∃ (l : List Nat) (r' : Nat) (h' : AH), d2_law_shuffled [.ref 2, .ref r] h = .ok (.ref r') h' ∧ l.Perm (List.range n) ∧ RowsF h.length h' r' n (shM l M) ∧ MInv 2 0 3 (N + 6) h' ∧ Frame 4 h h' := by
  have l4 := I.len4
  unfold d2_law_shuffled
  refine Runs.callE (P := fun o => ∃ (l : List Nat) (r' : Nat) (h' : AH), o = .ok (.ref r') h' ∧ l.Perm (List.range n) ∧ RowsF h.length h' r' n (shM l M) ∧ MInv 2 0 3 (N + 6) h' ∧ Frame 4 h h') ?_
  (simp only [startE_eq, List.map_cons, List.map_nil, List.length_cons, List.length_nil, List.replicate, List.cons_append, List.nil_append])
  have bl := R.at_.len
  refine Runs.par2 (h1 := h ++ [.lst ((nI (List.range n)).map .int)]) (h2 := h ++ [.lst ((nI (List.range n)).map .int)] ++ [.lst []]) (d := .ref h.length) (d' := .ref (h.length + 1)) ?_ ?_ ?_
  · have := evRg_at (f := evB bLen [(evVar 1)]) (e := [some (.ref 2), some (.ref r), none, none, none, none]) (h := h) (h1 := h) (n := n) false (by simp [bl]) (by omega) (by omega)
    rw [pv_eq, this, bind_ok]
    simp [nI_range]
  · simp
  simp only [List.set_cons_succ, List.set_cons_zero]
  have F0 : Frame 4 h (h ++ [.lst ((nI (List.range n)).map .int)] ++ [.lst []]) := by rw [List.append_assoc]; exact Frame.app _ _ _
  refine Runs.while (fun i e h' => ∃ rest o : List Nat, e = [some (.ref 2), some (.ref r), some (.ref h.length), some (.ref (h.length + 1)), none, none] ∧ rest.length = i ∧ (o ++ rest).Perm (List.range n) ∧ h'[h.length]? = some (.lst ((nI rest).map .int)) ∧ h'[h.length + 1]? = some (.lst ((nI o).map .int)) ∧ MInv 2 0 3 (N + o.length) h' ∧ Frame 4 h h') ?_ 100000 n _ _ (by omega)
    ⟨List.range n, [], rfl, List.length_range, List.Perm.refl _, by simp, by simp [nI], by simpa using (I.app [.lst ((nI (List.range n)).map .int)]).app [.lst []], F0⟩
  rintro i e h' ⟨rest, o, rfl, e1, pm, g1, g2, I1, F1⟩
  have ol : o.length + rest.length = n := by rw [← List.length_append, pm.length_eq, List.length_range]
  have ne := ne_lst g1
  have R1 := R.frame F1 (Nat.le_refl _)
  by_cases d : rest = []
  · subst d
    rw [List.append_nil] at pm
    refine .inl ⟨h', by simp [ne, nI], ?_⟩
    have inner : ∀ (t : AH) (a : Nat), a < n → evLc (ivSeq (evVar 3)) (Tgt.own (.one 5)) (Tgt.gv (.one 5)) tvYes (evOp opIx (evOp opIx (evVar 1) (evVar 4)) (evVar 5)) [some (.ref 2), some (.ref r), some (.ref h.length), some (.ref (h.length + 1)), some (.int a), none] (h' ++ t) = .ok (.tl (o.map fun c => .int (M a c))) (h' ++ t) := fun t a ha => by
      have g2' : (h' ++ t)[h.length + 1]? = some (.lst ((nI o).map .int)) := by rw [List.getElem?_append_left (List.getElem?_eq_some_iff.mp g2).1]; exact g2
      have Rt : RowsAt (h' ++ t) r n M := R1.at_.app _
      refine evLc_onM (some (h.length + 1, .lst ((nI o).map .int))) (fun c : Nat => D.int (c : Int)) (fun c => .int (M a c)) o (ivSeq_of (d := .ref (h.length + 1)) rfl (by rw [itsOf_ref g2', nI_map])) (by omega) (guardOk_some g2') (fun c hc => ?_)
      have cn : c < n := List.mem_range.mp (pm.subset hc)
      obtain ⟨k, i1, i2⟩ := Rt.ix (i := (a : Int)) (by omega) (by omega)
      have i3 := i2 (c : Int) (by omega) (by omega)
      refine ⟨_, rfl, ?_⟩
      simp only [Int.toNat_natCast] at i3
      simp [wipeE, Tgt.own, i1, i3]
    obtain ⟨ys, h2, a1, a2, a3⟩ := lcGo_inv (g := some (h.length + 1, .lst ((nI o).map .int))) (gv := Tgt.gv (.one 4)) (tt := tvYes) (elt := evLc (ivSeq (evVar 3)) (Tgt.own (.one 5)) (Tgt.gv (.one 5)) tvYes (evOp opIx (evOp opIx (evVar 1) (evVar 4)) (evVar 5))) (e := [some (.ref 2), some (.ref r), some (.ref h.length), some (.ref (h.length + 1)), none, none]) (h := h')
      (fun i l hh => l = (List.range i).map (fun i => D.ref (h'.length + i)) ∧ hh = h' ++ (o.take i).map fun a => AO.lst (o.map fun c => .int (M a c))) ((nI o).map .int) (fun i l hh _ ⟨_, e⟩ => by
        subst e
        exact guardOk_some (by rw [List.getElem?_append_left (List.getElem?_eq_some_iff.mp g2).1]; exact g2))
      (fun i d l hh hd ⟨hl, hh'⟩ => by
        rw [← nI_map, List.getElem?_map, Option.map_eq_some_iff] at hd
        obtain ⟨a, ha, rfl⟩ := hd
        have il := (List.getElem?_eq_some_iff.mp ha).1
        have an : a < n := List.mem_range.mp (pm.subset (List.mem_of_getElem? ha))
        subst hl hh'
        refine ⟨_, _, rfl, .inr ⟨_, .ref (h'.length + i), h' ++ (o.take (i + 1)).map fun a => AO.lst (o.map fun c => .int (M a c)), rfl, ?_, ?_, rfl⟩⟩
        · have inn := inner ((o.take i).map fun a => AO.lst (o.map fun c => .int (M a c))) a an
          simp only [List.set_cons_succ, List.set_cons_zero, pv_eq] at inn ⊢
          show Out.bind (evLc (ivSeq (evVar 3)) (Tgt.own (.one 5)) (Tgt.gv (.one 5)) tvYes (evOp opIx (evOp opIx (evVar 1) (evVar 4)) (evVar 5)) [some (.ref 2), some (.ref r), some (.ref h.length), some (.ref (h.length + 1)), some (.int a), none] _) promote = _
          rw [inn, bind_ok, promote_tl, List.take_add_one, ha]
          simp
          omega
        · simp [List.range_succ]) ⟨rfl, by simp⟩
    rw [List.length_map, nI_len] at a2 a3
    rw [List.take_length] at a3
    subst a2 a3
    have on : o.length = n := by simpa using ol
    refine Runs.last fun Q' hQ => ?_
    rw [svRet_eq, evLc_eq, ivSeq_of (d := .ref (h.length + 1)) rfl (itsOf_ref g2), bind_ok, if_pos (by simp [nI]; omega)]
    have e0 : wipeE [some (D.ref 2), some (D.ref r), some (D.ref h.length), some (D.ref (h.length + 1)), none, none] (Tgt.own (.one 4)) = [some (D.ref 2), some (D.ref r), some (D.ref h.length), some (D.ref (h.length + 1)), none, none] := rfl
    rw [e0, a1, bind_ok, toFl_ok]
    subst hQ
    have ft : BW.fin h (.tl ((List.range o.length).map fun i => D.ref (h'.length + i))) (h' ++ o.map fun a => AO.lst (o.map fun c => .int (M a c))) = .ok (.ref (h'.length + n)) (h' ++ o.map (fun a => AO.lst (o.map fun c => .int (M a c))) ++ [.lst ((List.range o.length).map fun i => D.ref (h'.length + i))]) := by
      have e : (h' ++ o.map fun a => AO.lst (o.map fun c => .int (M a c))).length = h'.length + n := by simp [on]
      unfold BW.fin
      rw [promote_tl, e]
      have : D.lt h.length (.ref (h'.length + n)) = false := by
        show decide (h'.length + n < h.length) = false
        exact decide_eq_false (by have := F1.len; omega)
      simp only [this, Bool.false_and, Bool.false_eq_true, if_false]
    refine ⟨o, h'.length + n, _, by rw [fin_ret]; exact ft, pm, ?_, ((I1.mono (by omega)).app _).app _, F1.trans (by rw [List.append_assoc]; exact Frame.app _ _ _)⟩
    have hl := F1.len
    refine ⟨(List.range n).map fun i => h'.length + i, by simp, ?_, ?_, by omega, ?_, ?_, ?_⟩
    · rw [List.nodup_iff_pairwise_ne, List.pairwise_map]
      exact List.Pairwise.imp (fun {a b} (z : a ≠ b) e => z (Nat.add_left_cancel e)) (List.nodup_iff_pairwise_ne.mp List.nodup_range)
    · intro z
      obtain ⟨i, hi, e⟩ := List.mem_map.mp z
      have := List.mem_range.mp hi
      omega
    · intro k hk
      obtain ⟨i, hi, rfl⟩ := List.mem_map.mp hk
      omega
    · rw [List.getElem?_append_right (by simp; omega)]
      have : h'.length + n - (h' ++ o.map fun a => AO.lst (o.map fun c => .int (M a c))).length = 0 := by simp; omega
      rw [this, on, List.map_map]; rfl
    · intro i k e
      rw [List.getElem?_map, Option.map_eq_some_iff] at e
      obtain ⟨j, hj, rfl⟩ := e
      obtain ⟨h1, h2⟩ := List.getElem?_eq_some_iff.mp hj
      simp at h1 h2
      subst h2
      have il : i < o.length := by omega
      rw [List.getElem?_append_left (by simp; omega), List.getElem?_append_right (by omega), show h'.length + i - h'.length = i by omega, List.getElem?_map, List.getElem?_eq_getElem il]
      have oi : ordF o i = o[i] := ordF_get (List.getElem?_eq_getElem il)
      simp only [Option.map_some, Option.some.injEq, AO.lst.injEq]
      unfold rowD shM
      rw [oi, ← on]
      exact (map_getD o (fun c => D.int (M o[i] c)) (ordF o) fun _ _ => rfl).symm
  · obtain ⟨j, rfl⟩ : ∃ j, i = j + 1 := ⟨i - 1, by have := List.length_pos_iff.mpr d; omega⟩
    refine .inr ⟨h', j, by omega, by simp [ne, nI, d], ?_⟩
    have lb : bLen h' [.ref h.length] = some (.int (rest.length : Nat)) := by rw [bLen_ref g1]; simp [nI]
    obtain ⟨k, h2, r2, k0, k1, I2, F2, l2⟩ := draw4 (limit := ((rest.length : Nat) : Int)) I1 (by omega) (by omega) (by omega)
    have g1' := F2.at_ l4 g1
    have g2' := F2.at_ (by omega) g2
    have kl : k.toNat < rest.length := by omega
    have hy : ((nI rest).map D.int)[k.toNat]? = some (.int ((rest[k.toNat] : Nat) : Int)) := by simp [nI, kl]
    have pe := pop_eq (f := evVar 2) (g := evCall d__law_draw [(evVar 0), (evB bLen [(evVar 2)])]) (e := [some (.ref 2), some (.ref r), some (.ref h.length), some (.ref (h.length + 1)), none, none]) (h := h') (h1 := h') (h2 := h2) (q := h.length) (i := k) rfl g1 (by simp [lb, r2]) g1' k0 (by omega) hy
    rw [nI_erase] at pe
    have g3 : (h2.set h.length (.lst ((nI (rest.eraseIdx k.toNat)).map .int)))[h.length + 1]? = some (.lst ((nI o).map .int)) := by
      rw [List.getElem?_set_ne (by omega)]; exact g2'
    have ap := append_eq (f := evVar 3) (g := evPopAt (evVar 2) (evCall d__law_draw [(evVar 0), (evB bLen [(evVar 2)])])) (e := [some (.ref 2), some (.ref r), some (.ref h.length), some (.ref (h.length + 1)), none, none]) (h := h') (h1 := h') (n := h.length + 1) (d := .int ((rest[k.toNat] : Nat) : Int)) rfl g2 (by rw [pv_eq, pe, bind_ok, promote_int]) g3 (by simp [nI]; omega)
    have eo : (nI o).map D.int ++ [.int ((rest[k.toNat] : Nat) : Int)] = (nI (o ++ [rest[k.toNat]])).map .int := by simp [nI]
    rw [eo] at ap
    have p1 := (List.getElem?_eq_some_iff.mp g1').1
    have p2 := (List.getElem?_eq_some_iff.mp g2').1
    refine Runs.last fun Q' hQ => ?_
    rw [svExpr_eq, ap, toFl_ok]
    subst hQ
    refine ⟨_, _, rfl, rest.eraseIdx k.toNat, o ++ [rest[k.toNat]], rfl, ?_, ?_, ?_, ?_, ?_, ?_⟩
    · rw [List.length_eraseIdx, if_pos kl]; omega
    · rw [List.append_assoc]
      refine List.Perm.trans ?_ pm
      exact List.Perm.append_left o (perm_erase rest k.toNat kl)
    · rw [List.getElem?_set_ne (by omega), List.getElem?_set]
      simp [p1]
    · rw [List.getElem?_set]
      simp [p2]
    · rw [List.length_append, show N + ((o.length + [rest[k.toNat]].length : Nat) : Int) = N + o.length + 1 by simp; omega]
      exact (I2.set _ (by omega) (by omega) (by omega)).set _ (by omega) (by omega) (by omega)
    · exact ((F1.trans F2).set _ (Nat.le_refl _)).set _ (by omega)
end BW

set_option Elab.async false
set_option linter.all false
set_option maxRecDepth 100000
set_option maxHeartbeats 4000000
namespace BW
open PySem Cox
abbrev KT := List (List Int) × Nat × Nat
def LL (q : Nat) (h : AH) (a : Nat) (L : List (List Int)) : Prop := ∃ ks : List Nat, ks.length = L.length ∧ 4 ≤ a ∧ a ≠ q ∧ (∀ k ∈ ks, 4 ≤ k ∧ k ≠ q) ∧ h[a]? = some (.lst (ks.map .ref)) ∧ ∀ (i k : Nat) (row : List Int), ks[i]? = some k → L[i]? = some row → h[k]? = some (.lst (row.map .int))
theorem LL.frame {q a : Nat} {h h' : AH} {L : List (List Int)} (F : Frame 4 h h') (l : LL q h a L) : LL q h' a L := by
  obtain ⟨ks, a1, a2, a3, a4, a5, a6⟩ := l
  exact ⟨ks, a1, a2, a3, a4, F.at_ a2 a5, fun i k row hi hr => F.at_ (a4 k (List.mem_of_getElem? hi)).1 (a6 i k row hi hr)⟩
theorem LL.app {q a : Nat} {h : AH} {L : List (List Int)} (t : AH) (l : LL q h a L) : LL q (h ++ t) a L := l.frame (Frame.app _ _ _)
theorem LL.set {q a : Nat} {h : AH} {L : List (List Int)} (o : AO) (l : LL q h a L) : LL q (h.set q o) a L := by
  obtain ⟨ks, a1, a2, a3, a4, a5, a6⟩ := l
  exact ⟨ks, a1, a2, a3, a4, by rw [List.getElem?_set_ne (Ne.symm a3)]; exact a5, fun i k row hi hr => by rw [List.getElem?_set_ne (Ne.symm (a4 k (List.mem_of_getElem? hi)).2)]; exact a6 i k row hi hr⟩
theorem LL.len {q a : Nat} {h : AH} {L : List (List Int)} (l : LL q h a L) : bLen h [.ref a] = some (.int L.length) := by
  obtain ⟨ks, a1, a2, a3, a4, a5, a6⟩ := l
  rw [bLen_ref a5, List.length_map, a1]
def KEnt (q : Nat) (h : AH) (d : D) (p : KT) : Prop := ∃ a, d = .tup [.ref a, .int (p.2.1 : Nat), .int (p.2.2 : Nat)] ∧ LL q h a p.1
theorem evsInts (e : Env) (h : AH) : ∀ w : List Int, evsV (w.map fun i => evC (.int i)) e h = .ok (w.map .int) h
  | [] => rfl
  | i :: w => by rw [List.map_cons, evsV_cons, pv_eq, evC_eq, bind_ok, promote_int, bind_ok, evsInts e h w, bind_ok]; rfl
theorem evsRows (e : Env) : ∀ (L : List (List Int)) (h : AH), (∀ row ∈ L, row.length ≤ 1000) → evsV (L.map fun row => evLst (row.map fun i => evC (.int i))) e h = .ok ((List.range L.length).map fun i => .ref (h.length + i)) (h ++ L.map fun row => AO.lst (row.map .int))
  | [], h, _ => by simp
  | row :: L, h, hr => by
    have rl := hr row List.mem_cons_self
    rw [List.map_cons, evsV_cons, pv_eq, evLst_eq, evsInts, bind_ok, if_pos (by rw [List.length_map]; omega), bind_ok, promote_tl, bind_ok, evsRows e L _ (fun x hx => hr x (List.mem_cons_of_mem _ hx)), bind_ok]
    simp only [List.length_append, List.length_cons, List.length_nil, List.map_cons, List.append_assoc, List.singleton_append]
    rw [List.range_succ_eq_map, List.map_cons, List.map_map]
    simp only [Function.comp, Nat.add_zero, Nat.zero_add, Nat.succ_eq_add_one]
    congr 2
    apply List.map_congr_left
    intro i _
    congr 1; omega
def entE (p : KT) : Ev := evTup [evLst (p.1.map fun row => evLst (row.map fun i => evC (.int i))), evC (.int (p.2.1 : Nat)), evC (.int (p.2.2 : Nat))]
theorem ent_is {p : KT} {e : Env} {h : AH} {q : Nat} (l4 : 4 ≤ h.length) (hq : q < h.length) (hl : p.1.length ≤ 1000) (hr : ∀ row ∈ p.1, row.length ≤ 1000) : ∃ d t, entE p e h = .ok d (h ++ t) ∧ KEnt q (h ++ t) d p ∧ ∀ h', promote d h' = .ok d h' := by
  have e1 := evsRows e p.1 h hr
  refine ⟨.tup [.ref (h.length + p.1.length), .int (p.2.1 : Nat), .int (p.2.2 : Nat)], p.1.map (fun row => AO.lst (row.map .int)) ++ [.lst ((List.range p.1.length).map fun i => .ref (h.length + i))], ?_, ⟨_, rfl, (List.range p.1.length).map fun i => h.length + i, by simp, by omega, by omega, ?_, ?_, ?_⟩, fun _ => rfl⟩
  · unfold entE
    rw [evTup_eq, evsV_cons, pv_eq, evLst_eq, e1, bind_ok, if_pos (by simp; omega), bind_ok, promote_tl, bind_ok]
    simp only [evsV_cons, evsV_nil, pv_eq, evC_eq, bind_ok, promote_int, List.length_cons, List.length_nil, List.length_append, List.length_map]
    rw [if_pos (by omega), List.append_assoc]
  · intro k hk
    obtain ⟨i, hi, rfl⟩ := List.mem_map.mp hk
    omega
  · rw [List.getElem?_append_right (by omega), List.getElem?_append_right (by simp)]
    simp
  · intro i k row e hrow
    rw [List.getElem?_map, Option.map_eq_some_iff] at e
    obtain ⟨j, hj, rfl⟩ := e
    obtain ⟨h1, h2⟩ := List.getElem?_eq_some_iff.mp hj
    simp at h1 h2
    subst h2
    rw [List.getElem?_append_right (by omega), List.getElem?_append_left (by simp; omega), show h.length + i - h.length = i by omega, List.getElem?_map, hrow]
    rfl
def FL (q x : Nat) (h : AH) (ps : List KT) : Prop := ∃ zs : List (D × KT), zs.map (·.2) = ps ∧ h[x]? = some (.lst (zs.map (·.1))) ∧ ∀ z ∈ zs, KEnt q h z.1 z.2
theorem KEnt.frame {q : Nat} {h h' : AH} {d : D} {p : KT} (F : Frame 4 h h') : KEnt q h d p → KEnt q h' d p := fun ⟨a, e, l⟩ => ⟨a, e, l.frame F⟩
theorem KEnt.set {q : Nat} {h : AH} {d : D} {p : KT} (o : AO) : KEnt q h d p → KEnt q (h.set q o) d p := fun ⟨a, e, l⟩ => ⟨a, e, l.set o⟩
theorem KEnt.prom {q : Nat} {h : AH} {d : D} {p : KT} (k : KEnt q h d p) (h' : AH) : promote d h' = .ok d h' := by obtain ⟨a, rfl, _⟩ := k; rfl
theorem KEnt.len {q : Nat} {h : AH} {d : D} {p : KT} (k : KEnt q h d p) : ∃ a, opIx h d (.int 0) = some (.ref a) ∧ bLen h [.ref a] = some (.int p.1.length) ∧ LL q h a p.1 ∧ opIx h d (.int 1) = some (.int (p.2.1 : Nat)) ∧ opIx h d (.int 2) = some (.int (p.2.2 : Nat)) := by
  obtain ⟨a, rfl, l⟩ := k
  exact ⟨a, rfl, l.len, l, rfl, rfl⟩
theorem FL.add {q : Nat} {h0 h : AH} {ps : List KT} {p : KT} {e : Env} {g : Ev} (F : FL q q h ps) (he : e[2]? = some (some (.ref q))) (Fr : Frame 4 h0 h) (q0 : h0.length ≤ q) (l4 : 4 ≤ h0.length) (hps : ps.length ≤ 100)
    (hg : ∃ d t, g e h = .ok d (h ++ t) ∧ KEnt q (h ++ t) d p) {N : Int} (I : MInv 2 0 3 N h) : ∃ h', svExpr (evAppend (evVar 2) g) e h = .nx e h' ∧ FL q q h' (ps ++ [p]) ∧ Frame 4 h0 h' ∧ MInv 2 0 3 N h' := by
  obtain ⟨zs, z1, z2, z3⟩ := F
  obtain ⟨d, t, g1, g2⟩ := hg
  have zl : zs.length = ps.length := by rw [← z1, List.length_map]
  have x2 : (h ++ t)[q]? = some (.lst (zs.map (·.1))) := by rw [List.getElem?_append_left (List.getElem?_eq_some_iff.mp z2).1]; exact z2
  have ap := append_eq (f := evVar 2) (g := g) (e := e) (h := h) (h1 := h) (h2 := h ++ t) (n := q) (d := d) (by rw [evVar_eq, he]; rfl) z2 (by rw [pv_eq, g1, bind_ok, g2.prom]) x2 (by simp; omega)
  have ql := (List.getElem?_eq_some_iff.mp x2).1
  refine ⟨_, by rw [svExpr_eq, ap, toFl_ok], ⟨zs ++ [(d, p)], by simp [z1], by rw [List.getElem?_set, if_pos rfl, if_pos ql]; simp, fun z hz => ?_⟩, ?_, ?_⟩
  · refine KEnt.set _ ?_
    rcases List.mem_append.mp hz with y | y
    · exact (z3 z y).frame (Frame.app _ _ _)
    · rw [List.mem_singleton.mp y]; exact g2
  · exact (Fr.trans (Frame.app _ _ _)).set _ q0
  · exact (I.app t).set _ (by omega) (by omega) (by omega)
theorem pad_is {h : AH} {q a : Nat} {L : List (List Int)} (l : LL q h a L) {f : Ev} {elt : Ev} {e : Env} (g : List Int → List Int) (hL : L.length ≤ 100)
    (hi : f e h = .ok (.ref a) h) (he : ∀ (t : AH) (kk : Nat) (row : List Int), row ∈ L → (h ++ t)[kk]? = some (.lst (row.map .int)) → elt ((wipeE e (Tgt.own (.one 12))).set 12 (some (.ref kk))) (h ++ t) = .ok (.tl ((g row).map .int)) (h ++ t)) :
    evLc (ivSeq f) (Tgt.own (.one 12)) (Tgt.gv (.one 12)) tvYes elt e h = .ok (.tl ((List.range L.length).map fun i => .ref (h.length + i))) (h ++ L.map fun row => AO.lst ((g row).map .int)) := by
  obtain ⟨ks, a1, a2, a3, a4, a5, a6⟩ := l
  obtain ⟨ys, h2, b1, b2, b3⟩ := lcGo_inv (g := some (a, .lst (ks.map .ref))) (gv := Tgt.gv (.one 12)) (tt := tvYes) (elt := elt) (e := wipeE e (Tgt.own (.one 12))) (h := h)
    (fun i l hh => l = (List.range i).map (fun i => D.ref (h.length + i)) ∧ hh = h ++ (L.take i).map fun row => AO.lst ((g row).map .int)) (ks.map .ref) (fun i l hh _ ⟨_, e⟩ => by
      subst e
      exact guardOk_some (by rw [List.getElem?_append_left (List.getElem?_eq_some_iff.mp a5).1]; exact a5))
    (fun i d l hh hd ⟨hl, hh'⟩ => by
      rw [List.getElem?_map, Option.map_eq_some_iff] at hd
      obtain ⟨kk, hk, rfl⟩ := hd
      have il := (List.getElem?_eq_some_iff.mp hk).1
      have iL : i < L.length := by omega
      have hrow := List.getElem?_eq_getElem iL
      have hc := a6 i kk _ hk hrow
      subst hl hh'
      refine ⟨_, _, rfl, .inr ⟨_, .ref (h.length + i), h ++ (L.take (i + 1)).map fun row => AO.lst ((g row).map .int), rfl, ?_, ?_, rfl⟩⟩
      · have z := he ((L.take i).map fun row => AO.lst ((g row).map .int)) kk _ (List.getElem_mem iL) (by rw [List.getElem?_append_left (List.getElem?_eq_some_iff.mp hc).1]; exact hc)
        have ml : min i L.length = i := Nat.min_eq_left (Nat.le_of_lt iL)
        have tk : L.take (i + 1) = L.take i ++ [L[i]] := by rw [List.take_add_one, hrow]; rfl
        rw [pv_eq, z, bind_ok, promote_tl, tk, List.map_append, List.map_cons, List.map_nil, List.append_assoc, List.length_append, List.length_map, List.length_take, ml]
      · simp [List.range_succ]) ⟨rfl, by simp⟩
  rw [List.length_map, a1] at b2 b3
  rw [List.take_length] at b3
  subst b2 b3
  rw [evLc_eq, ivSeq_of (d := .ref a) hi (itsOf_ref a5), bind_ok, if_pos (by simp; omega), b1, bind_ok]
end BW

set_option Elab.async false
set_option linter.all false
set_option maxRecDepth 100000
set_option maxHeartbeats 4000000
namespace BW
open PySem Cox
theorem bList_at {h : AH} {k : Nat} {xs : List D} (e : h[k]? = some (.lst xs)) : bList h [.ref k] = some (.tl xs) := by simp [bList, seqOf_ref e]
theorem gvTup3' (i j k : Nat) (x y z : D) (e : Env) (h : AH) : gvTup [gvName i, gvName j, gvName k] (.tup [x, y, z]) e h = .ok (((e.set i (some x)).set j (some y)).set k (some z)) h := rfl
theorem litRowsF (L : List (List Int)) {n : Nat} (h : AH) (hL : L.length = n) (hr : ∀ row ∈ L, row.length = n) : RowsF h.length (h ++ (L.map (fun row => AO.lst (row.map .int)) ++ [.lst ((List.range n).map fun i => .ref (h.length + i))])) (h.length + n) n (litM L) := by
  obtain ⟨ks, a1, a2, a3, a4, a5⟩ := litRows L h hL hr
  refine ⟨ks, a1, a2, a3, by omega, fun k hk => ?_, a4, a5⟩
  have e : (h ++ (L.map (fun row => AO.lst (row.map .int)) ++ [.lst ((List.range n).map fun i => .ref (h.length + i))]))[h.length + n]? = some (.lst ((List.range n).map fun i => .ref (h.length + i))) := by
    rw [List.getElem?_append_right (by omega), List.getElem?_append_right (by simp; omega)]
    have : h.length + n - h.length - (L.map (fun row => AO.lst (row.map .int))).length = 0 := by simp; omega
    rw [this]; rfl
  rw [e] at a4
  have e2 : (List.range n).map (fun i => D.ref (h.length + i)) = ks.map .ref := by injection a4 with z; injection z
  have : D.ref k ∈ (List.range n).map (fun i => D.ref (h.length + i)) := by rw [e2]; exact List.mem_map.mpr ⟨k, hk, rfl⟩
  obtain ⟨i, _, z⟩ := List.mem_map.mp this
  injection z with z
  omega
theorem FL.frame {q x : Nat} {h h' : AH} {ps : List KT} (F : Frame 4 h h') (hx : 4 ≤ x) (f : FL q x h ps) : FL q x h' ps := by
  obtain ⟨zs, z1, z2, z3⟩ := f
  exact ⟨zs, z1, F.at_ hx z2, fun z hz => (z3 z hz).frame F⟩
theorem fin_fits {p s : KT} (hp : p ∈ finK.drop 1) (hs : s ∈ finK) (h : p.1.length + s.1.length ≤ 6) : ∃ T : Tab (joinT p.1 s.1).length (litM (joinT p.1 s.1)), ∀ r ∈ joinT p.1 s.1, r.length = (joinT p.1 s.1).length := by
  obtain ⟨T, h1, _⟩ := finB_top (finK_ok hp hs h)
  exact ⟨T, h1⟩
theorem kinds_is {h : AH} {most : Int} {N : Int} (I : MInv 2 0 3 N h) {rest : Sv} {Q : Fl → Prop}
    (k : ∀ (q : Nat) (x3 x4 x5 : Option D) (h' : AH), h.length ≤ q → FL q q h' finK → MInv 2 0 3 N h' → Frame 4 h h' → Runs rest [some (.ref 2), some (.int most), some (.ref q), x3, x4, x5, none, none, none, none, none, none, none] h' Q) :
    Runs (svSeq (svAsg (evLst [entE ([], 1, 0)]) (gvName 2)) (svSeq (svFor (ivSeq (evLst [entE ([[1]], 2, 1), entE ([[1, 3], [3, 1]], 6, 3), entE ([[1, 4], [4, 1]], 8, 4)])) (gvTup [(gvName 3), (gvName 4), (gvName 5)]) (svExpr (evAppend (evVar 2) (evTup [(evVar 3), (evVar 4), (evVar 5)]))))
      (svSeq (svExpr (evAppend (evVar 2) (entE ([[1, 6], [6, 1]], 12, 6)))) (svSeq (svExpr (evAppend (evVar 2) (entE ([[1, 3, 2], [3, 1, 3], [2, 3, 1]], 24, 6)))) (svSeq (svExpr (evAppend (evVar 2) (entE ([[1, 4, 2], [4, 1, 3], [2, 3, 1]], 48, 9))))
      (svSeq (svExpr (evAppend (evVar 2) (entE ([[1, 3, 2, 2], [3, 1, 3, 2], [2, 3, 1, 3], [2, 2, 3, 1]], 120, 10)))) (svSeq (svExpr (evAppend (evVar 2) (entE ([[1, 2, 3, 2], [2, 1, 3, 2], [3, 3, 1, 3], [2, 2, 3, 1]], 192, 12)))) rest)))))))
      [some (.ref 2), some (.int most), none, none, none, none, none, none, none, none, none, none, none] h Q := by
  have l4 := I.len4
  have ll : ∀ L : List (List Int), (∀ row ∈ L, row.length ≤ 6) → ∀ row ∈ L, row.length ≤ 1000 := fun L hL row hr => Nat.le_trans (hL row hr) (by decide)
  -- the first entry
  obtain ⟨d0, t0, e0, k0, p0⟩ := ent_is (p := ([], 1, 0)) (e := [some (.ref 2), some (.int most), none, none, none, none, none, none, none, none, none, none, none]) (h := h) (q := 0) l4 (by omega) (by decide) (by decide)
  refine Runs.asg (d := .ref (h ++ t0).length) (h1 := h ++ t0 ++ [.lst [d0]]) (by
    rw [pv_eq, evLst_eq, evsV_cons, pv_eq, e0, bind_ok, p0, bind_ok, evsV_nil, bind_ok, bind_ok, if_pos (by simp), bind_ok, promote_tl]) ?_
  simp only [List.set_cons_succ, List.set_cons_zero]
  have k0' : KEnt (h ++ t0).length (h ++ t0 ++ [.lst [d0]]) d0 ([], 1, 0) := by
    obtain ⟨a, ea, ks, a1, a2, a3, a4, a5, a6⟩ := k0
    have al := (List.getElem?_eq_some_iff.mp a5).1
    refine ⟨a, ea, ks, a1, a2, by omega, fun k hk => ?_, by rw [List.getElem?_append_left al]; exact a5, fun i k row hi hr => ?_⟩
    · exfalso
      rw [List.length_eq_zero_iff.mp a1] at hk
      exact nomatch hk
    · exact nomatch hr
  have f0 : FL (h ++ t0).length (h ++ t0).length (h ++ t0 ++ [.lst [d0]]) (finK.take 1) := ⟨[(d0, ([], 1, 0))], rfl, by simp, fun z hz => by rw [List.mem_singleton.mp hz]; exact k0'⟩
  have F1 : Frame 4 h (h ++ t0 ++ [.lst [d0]]) := by rw [List.append_assoc]; exact Frame.app _ _ _
  have I1 := (I.app t0).app [.lst [d0]]
  have q0 : h.length ≤ (h ++ t0).length := by simp
  have ql : (h ++ t0).length < (h ++ t0 ++ [AO.lst [d0]]).length := by simp
  generalize (h ++ t0).length = q at *
  generalize h ++ t0 ++ [AO.lst [d0]] = h1 at *
  have l1 := I1.len4
  -- three
  obtain ⟨d1, t1, e1, k1, p1⟩ := ent_is (p := ([[1]], 2, 1)) (e := [some (.ref 2), some (.int most), some (.ref q), none, none, none, none, none, none, none, none, none, none]) (h := h1) (q := q) l1 ql (by decide) (by decide)
  obtain ⟨d2, t2, e2, k2, p2⟩ := ent_is (p := ([[1, 3], [3, 1]], 6, 3)) (e := [some (.ref 2), some (.int most), some (.ref q), none, none, none, none, none, none, none, none, none, none]) (h := h1 ++ t1) (q := q) (by simp; omega) (by simp; omega) (by decide) (by decide)
  obtain ⟨d3, t3, e3, k3, p3⟩ := ent_is (p := ([[1, 4], [4, 1]], 8, 4)) (e := [some (.ref 2), some (.int most), some (.ref q), none, none, none, none, none, none, none, none, none, none]) (h := h1 ++ t1 ++ t2) (q := q) (by simp; omega) (by simp; omega) (by decide) (by decide)
  have k1 := (k1.frame (Frame.app _ _ t2)).frame (Frame.app _ _ t3)
  have k2 := k2.frame (Frame.app _ _ t3)
  have f1 := ((f0.frame (Frame.app _ _ t1) (by omega)).frame (Frame.app _ _ t2) (by omega)).frame (Frame.app _ _ t3) (by omega)
  have F2 := ((F1.trans (Frame.app _ _ t1)).trans (Frame.app _ _ t2)).trans (Frame.app _ _ t3)
  have I2 := ((I1.app t1).app t2).app t3
  have iv : ivSeq (evLst [entE ([[1]], 2, 1), entE ([[1, 3], [3, 1]], 6, 3), entE ([[1, 4], [4, 1]], 8, 4)]) [some (.ref 2), some (.int most), some (.ref q), none, none, none, none, none, none, none, none, none, none] h1 = .ok { xs := [d1, d2, d3] } (h1 ++ t1 ++ t2 ++ t3) := ivSeq_of (d := .tl [d1, d2, d3]) (by
    rw [evLst_eq, evsV_cons, pv_eq, e1, bind_ok, p1, bind_ok, evsV_cons, pv_eq, e2, bind_ok, p2, bind_ok, evsV_cons, pv_eq, e3, bind_ok, p3, bind_ok, evsV_nil, bind_ok, bind_ok, bind_ok, bind_ok, if_pos (by simp)]) rfl
  generalize h1 ++ t1 ++ t2 ++ t3 = h2 at *
  refine Runs.loop (h1 := h2) (it := { xs := [d1, d2, d3] }) (fun i e h' => ∃ x3 x4 x5, e = [some (.ref 2), some (.int most), some (.ref q), x3, x4, x5, none, none, none, none, none, none, none] ∧ FL q q h' (finK.take (1 + i)) ∧ Frame 4 h h' ∧ MInv 2 0 3 N h' ∧ KEnt q h' d1 ([[1]], 2, 1) ∧ KEnt q h' d2 ([[1, 3], [3, 1]], 6, 3) ∧ KEnt q h' d3 ([[1, 4], [4, 1]], 8, 4)) iv ⟨none, none, none, rfl, f1, F2, I2, k1, k2, k3⟩ (fun _ _ _ _ _ => rfl) ?_ ?_
  · rintro i d e h' hd ⟨x3, x4, x5, rfl, f, F, I, k1, k2, k3⟩
    obtain ⟨p, hp, kp⟩ : ∃ p, finK[1 + i]? = some p ∧ KEnt q h' d p := by
      match i, hd with
      | 0, hd => simp at hd; subst hd; exact ⟨_, rfl, k1⟩
      | 1, hd => simp at hd; subst hd; exact ⟨_, rfl, k2⟩
      | 2, hd => simp at hd; subst hd; exact ⟨_, rfl, k3⟩
      | j + 3, hd => simp at hd
    have il : i < 3 := (List.getElem?_eq_some_iff.mp hd).1
    obtain ⟨a, rfl, la⟩ := kp
    refine ⟨_, _, gvTup3' _ _ _ _ _ _ _ _, ?_⟩
    simp only [List.set_cons_succ, List.set_cons_zero]
    have tk : finK.take (1 + (i + 1)) = finK.take (1 + i) ++ [p] := by rw [← Nat.add_assoc, List.take_add_one, hp]; rfl
    have ev : evTup [(evVar 3), (evVar 4), (evVar 5)] [some (.ref 2), some (.int most), some (.ref q), some (.ref a), some (.int (p.2.1 : Nat)), some (.int (p.2.2 : Nat)), none, none, none, none, none, none, none] h' = .ok (.tup [.ref a, .int (p.2.1 : Nat), .int (p.2.2 : Nat)]) (h' ++ []) := by
      rw [List.append_nil]
      simp
    obtain ⟨h3, r3, f3, F3, I3⟩ := f.add (p := p) (h0 := h) (g := evTup [(evVar 3), (evVar 4), (evVar 5)]) (e := [some (.ref 2), some (.int most), some (.ref q), some (.ref a), some (.int (p.2.1 : Nat)), some (.int (p.2.2 : Nat)), none, none, none, none, none, none, none]) rfl F q0 l4 (by rw [List.length_take]; omega) ⟨_, _, ev, ⟨a, rfl, la.app []⟩⟩ I
    -- what stays
    have sty : ∀ {d : D} {p : KT}, KEnt q h' d p → KEnt q h3 d p := by
      intro d p' kk
      have ap : svExpr (evAppend (evVar 2) (evTup [(evVar 3), (evVar 4), (evVar 5)])) [some (.ref 2), some (.int most), some (.ref q), some (.ref a), some (.int (p.2.1 : Nat)), some (.int (p.2.2 : Nat)), none, none, none, none, none, none, none] h' = .nx _ h3 := r3
      obtain ⟨zs, z1, z2, z3⟩ := f
      have ae := append_eq (f := evVar 2) (g := evTup [(evVar 3), (evVar 4), (evVar 5)]) (e := [some (.ref 2), some (.int most), some (.ref q), some (.ref a), some (.int (p.2.1 : Nat)), some (.int (p.2.2 : Nat)), none, none, none, none, none, none, none]) (h := h') (h1 := h') (h2 := h' ++ []) (n := q) rfl z2 (by rw [pv_eq, ev, bind_ok, promote_tup]) (by rw [List.append_nil]; exact z2) (by have := congrArg List.length z1; simp at this ⊢; omega)
      rw [svExpr_eq, ae, toFl_ok] at ap
      injection ap with _ e
      rw [← e, List.append_nil]
      exact kk.set _
    refine Runs.last fun Q' hQ => ?_
    rw [r3]
    subst hQ
    exact ⟨_, _, rfl, _, _, _, rfl, by rw [tk]; exact f3, F3, I3, sty k1, sty k2, sty k3⟩
  · rintro e h' ⟨x3, x4, x5, rfl, f, F, I, _, _, _⟩
    have step : ∀ (p : KT) (ps : List KT) (h' : AH) (b : Sv), FL q q h' ps → Frame 4 h h' → MInv 2 0 3 N h' → ps.length ≤ 100 → p.1.length ≤ 1000 → (∀ row ∈ p.1, row.length ≤ 1000) →
        (∀ h3, FL q q h3 (ps ++ [p]) → Frame 4 h h3 → MInv 2 0 3 N h3 → Runs b [some (.ref 2), some (.int most), some (.ref q), x3, x4, x5, none, none, none, none, none, none, none] h3 Q) →
        Runs (svSeq (svExpr (evAppend (evVar 2) (entE p))) b) [some (.ref 2), some (.int most), some (.ref q), x3, x4, x5, none, none, none, none, none, none, none] h' Q := by
      intro p ps h' b f F I hps h1 h2 kk
      have qh : q < h'.length := by
        obtain ⟨zs, z1, z2, z3⟩ := f
        exact (List.getElem?_eq_some_iff.mp z2).1
      obtain ⟨d, t, e1, e2, _⟩ := ent_is (p := p) (e := [some (.ref 2), some (.int most), some (.ref q), x3, x4, x5, none, none, none, none, none, none, none]) (h := h') (q := q) I.len4 qh h1 h2
      obtain ⟨h3, r3, f3, F3, I3⟩ := f.add (p := p) (h0 := h) (g := entE p) (e := [some (.ref 2), some (.int most), some (.ref q), x3, x4, x5, none, none, none, none, none, none, none]) rfl F q0 l4 hps ⟨d, t, e1, e2⟩ I
      exact Runs.seq r3 (kk h3 f3 F3 I3)
    refine step _ (finK.take 4) h' _ f F I (by decide) (by decide) (by decide) fun h' f F I => ?_
    refine step _ _ h' _ f F I (by decide) (by decide) (by decide) fun h' f F I => ?_
    refine step _ _ h' _ f F I (by decide) (by decide) (by decide) fun h' f F I => ?_
    refine step _ _ h' _ f F I (by decide) (by decide) (by decide) fun h' f F I => ?_
    refine step _ _ h' _ f F I (by decide) (by decide) (by decide) fun h' f F I => ?_
    exact k q x3 x4 x5 h' q0 f I F
theorem finite_is {N : Int} {h : AH} {most : Int} (I : MInv 2 0 3 N h) (hN : N ≤ 700000) (m3 : 1 ≤ most) (m6 : most ≤ 6) :
    ∃ (q r : Nat) (h' : AH) (p s : KT) (l : List Nat), d2_law_finite [.ref 2, .int most] h = .ok (.ref q) h' ∧ h'[q]? = some (.lst [.ref r, .int ((p.2.1 : Int) * (s.2.1 : Int)), .int ((p.2.2 : Int) + (s.2.2 : Int))]) ∧ h.length ≤ q ∧
      p ∈ finK.drop 1 ∧ s ∈ finK ∧ ((p.1.length + s.1.length : Nat) : Int) ≤ most ∧ l.Perm (List.range (p.1.length + s.1.length)) ∧ RowsF h.length h' r (p.1.length + s.1.length) (shM l (litM (joinT p.1 s.1))) ∧ MInv 2 0 3 (N + 10) h' ∧ Frame 4 h h' := by
  have l4 := I.len4
  unfold d2_law_finite
  refine Runs.callE (P := fun o => ∃ (q r : Nat) (h' : AH) (p s : KT) (l : List Nat), o = .ok (.ref q) h' ∧ h'[q]? = some (.lst [.ref r, .int ((p.2.1 : Int) * (s.2.1 : Int)), .int ((p.2.2 : Int) + (s.2.2 : Int))]) ∧ h.length ≤ q ∧
      p ∈ finK.drop 1 ∧ s ∈ finK ∧ ((p.1.length + s.1.length : Nat) : Int) ≤ most ∧ l.Perm (List.range (p.1.length + s.1.length)) ∧ RowsF h.length h' r (p.1.length + s.1.length) (shM l (litM (joinT p.1 s.1))) ∧ MInv 2 0 3 (N + 10) h' ∧ Frame 4 h h') ?_
  (simp only [startE_eq, List.map_cons, List.map_nil, List.length_cons, List.length_nil, List.replicate, List.cons_append, List.nil_append])
  refine kinds_is (most := most) I fun q x3 x4 x5 h1 q0 f I1 F1 => ?_
  obtain ⟨zs, z1, z2, z3⟩ := f
  have zl : zs.length = 9 := by have := congrArg List.length z1; simpa [finK] using this
  -- at most so many letters
  have lc1 : evLc (ivSeq (evVar 2)) (Tgt.own (.one 11)) (Tgt.gv (.one 11)) (tvOf (evOp opLe (evB bLen [(evOp opIx (evVar 11) (evC (.int 0)))]) (evVar 1))) (evVar 11) [some (.ref 2), some (.int most), some (.ref q), x3, x4, x5, none, none, none, none, none, none, none] h1 = .ok (.tl ((zs.filter fun z => decide ((z.2.1.length : Int) ≤ most)).map (·.1))) h1 :=
    evLc_on (some (q, .lst (zs.map (·.1)))) (·.1) _ (·.1) zs (ivSeq_of (d := .ref q) rfl (itsOf_ref z2)) (by omega) (guardOk_some z2) fun z hz => by
      obtain ⟨a, i0, b0, _, _, _⟩ := (z3 z hz).len
      exact ⟨_, rfl, by simp [wipeE, Tgt.own, i0, b0], fun _ => by simp [wipeE, Tgt.own, (z3 z hz).prom]⟩
  generalize hy : zs.filter (fun z => decide ((z.2.1.length : Int) ≤ most)) = ys at lc1
  have y3 : ∀ z ∈ ys, KEnt q h1 z.1 z.2 ∧ z.2 ∈ finK ∧ (z.2.1.length : Int) ≤ most := fun z hz => by
    rw [← hy] at hz
    obtain ⟨m1, m2⟩ := List.mem_filter.mp hz
    exact ⟨z3 z m1, by rw [← z1]; exact List.mem_map.mpr ⟨z, m1, rfl⟩, by simpa using m2⟩
  have y2 : ys.map (·.2) = finK.filter fun p => decide ((p.1.length : Int) ≤ most) := by rw [← hy, ← z1, List.filter_map]; rfl
  have yd : (ys.map (·.2)).drop 1 = (finK.drop 1).filter fun p => decide ((p.1.length : Int) ≤ most) := by
    rw [y2]
    have : finK = ([], 1, 0) :: finK.drop 1 := rfl
    rw [this, List.filter_cons_of_pos (by simp; omega)]
    rfl
  have y1 : 2 ≤ ys.length := by
    have h1 : ((finK.drop 1).filter fun p => decide ((p.1.length : Int) ≤ most)) ≠ [] := fun e => by
      have : (([[1]], 2, 1) : KT) ∈ (finK.drop 1).filter fun p => decide ((p.1.length : Int) ≤ most) := List.mem_filter.mpr ⟨by decide, by simp; omega⟩
      rw [e] at this; cases this
    have h2 := List.length_pos_iff.mpr h1
    rw [← yd, List.length_drop, List.length_map] at h2
    omega
  have yl : ys.length ≤ 9 := by rw [← hy, ← zl]; exact List.length_filter_le _ _
  refine Runs.asg (d := .ref h1.length) (h1 := h1 ++ [.lst (ys.map (·.1))]) (by rw [pv_eq, lc1, bind_ok, promote_tl]) ?_
  simp only [List.set_cons_succ, List.set_cons_zero]
  have g2 : (h1 ++ [AO.lst (ys.map (·.1))])[h1.length]? = some (.lst (ys.map (·.1))) := by simp
  have I2 := I1.app [.lst (ys.map (·.1))]
  have F2 := F1.trans (Frame.app 4 h1 [.lst (ys.map (·.1))])
  have y3' : ∀ z ∈ ys, KEnt q (h1 ++ [.lst (ys.map (·.1))]) z.1 z.2 := fun z hz => (y3 z hz).1.frame (Frame.app _ _ _)
  have ll1 := I1.len4
  generalize hx : h1.length = x at *
  generalize h1 ++ [AO.lst (ys.map (·.1))] = h2 at *
  -- the first one
  have lb : bLen h2 [.ref x] = some (.int ys.length) := by rw [bLen_ref g2]; simp
  obtain ⟨a, h3, r3, a0, a1, I3, F3, l3⟩ := draw4 (limit := (ys.length : Int) - 1) I2 (by omega) (by omega) (by omega)
  have al : (1 + a).toNat < ys.length := by omega
  have g3 := F3.at_ ll1 g2
  have ix : opIx h3 (.ref x) (.int (1 + a)) = some (ys[(1 + a).toNat]).1 := by
    rw [opIx_ref g3]; exact atI_get (by omega) (by rw [List.getElem?_map, List.getElem?_eq_getElem al]; rfl)
  have zm := List.getElem_mem al
  have zd : (ys[(1 + a).toNat]).2 ∈ finK.drop 1 := by
    have : (ys[(1 + a).toNat]).2 ∈ (ys.map (·.2)).drop 1 := by
      rw [List.mem_iff_getElem?]
      refine ⟨a.toNat, ?_⟩
      rw [List.getElem?_drop, List.getElem?_map, show 1 + a.toNat = (1 + a).toNat by omega, List.getElem?_eq_getElem al]; rfl
    rw [yd] at this
    exact (List.mem_filter.mp this).1
  generalize hz : ys[(1 + a).toNat] = z at *
  have kz := (y3' z zm).frame F3
  have zmost := (y3 z zm).2.2
  refine Runs.asg (d := z.1) (h1 := h3) (by simp [lb, r3, ix, kz.prom]) ?_
  simp only [List.set_cons_succ, List.set_cons_zero]
  obtain ⟨aL, i0, b0, lz, i1, i2⟩ := kz.len
  -- what fits beside
  have lc2 : evLc (ivSeq (evVar 2)) (Tgt.own (.one 11)) (Tgt.gv (.one 11)) (tvOf (evOp opLe (evOp opAdd (evB bLen [(evOp opIx (evVar 11) (evC (.int 0)))]) (evB bLen [(evOp opIx (evVar 6) (evC (.int 0)))])) (evVar 1))) (evVar 11) [some (.ref 2), some (.int most), some (.ref x), x3, x4, x5, some z.1, none, none, none, none, none, none] h3 = .ok (.tl ((ys.filter fun w => decide ((w.2.1.length : Int) + z.2.1.length ≤ most)).map (·.1))) h3 :=
    evLc_on (some (x, .lst (ys.map (·.1)))) (·.1) _ (·.1) ys (ivSeq_of (d := .ref x) rfl (itsOf_ref g3)) (by omega) (guardOk_some g3) fun w hw => by
      obtain ⟨a, i0', b0', _, _, _⟩ := ((y3' w hw).frame F3).len
      exact ⟨_, rfl, by simp [wipeE, Tgt.own, i0', b0', i0, b0], fun _ => by simp [wipeE, Tgt.own, ((y3' w hw).frame F3).prom]⟩
  generalize hv : ys.filter (fun w => decide ((w.2.1.length : Int) + z.2.1.length ≤ most)) = vs at lc2
  have v3 : ∀ w ∈ vs, KEnt q h3 w.1 w.2 ∧ w.2 ∈ finK ∧ (w.2.1.length : Int) + z.2.1.length ≤ most := fun w hw => by
    rw [← hv] at hw
    obtain ⟨m1, m2⟩ := List.mem_filter.mp hw
    exact ⟨(y3' w m1).frame F3, (y3 w m1).2.1, by simpa using m2⟩
  have v1 : 1 ≤ vs.length := by
    have : (([], 1, 0) : KT) ∈ ys.map (·.2) := by rw [y2]; exact List.mem_filter.mpr ⟨by decide, by simp; omega⟩
    obtain ⟨w, hw, e⟩ := List.mem_map.mp this
    have : w ∈ vs := by rw [← hv]; exact List.mem_filter.mpr ⟨hw, by rw [e]; simpa using zmost⟩
    exact List.length_pos_iff.mpr (List.ne_nil_of_mem this)
  have vl : vs.length ≤ 9 := by rw [← hv]; exact Nat.le_trans (List.length_filter_le _ _) yl
  refine Runs.asg (d := .ref h3.length) (h1 := h3 ++ [.lst (vs.map (·.1))]) (by rw [pv_eq, lc2, bind_ok, promote_tl]) ?_
  simp only [List.set_cons_succ, List.set_cons_zero]
  have g4 : (h3 ++ [AO.lst (vs.map (·.1))])[h3.length]? = some (.lst (vs.map (·.1))) := by simp
  have I4 := I3.app [.lst (vs.map (·.1))]
  have F4 := (F2.trans F3).trans (Frame.app 4 h3 [.lst (vs.map (·.1))])
  have v3' : ∀ w ∈ vs, KEnt q (h3 ++ [.lst (vs.map (·.1))]) w.1 w.2 := fun w hw => (v3 w hw).1.frame (Frame.app _ _ _)
  have kz4 : KEnt q (h3 ++ [.lst (vs.map (·.1))]) z.1 z.2 := kz.frame (Frame.app _ _ _)
  have ll3 := I3.len4
  clear i0 b0 lz i1 i2 aL kz
  generalize hx' : h3.length = x' at *
  generalize h3 ++ [AO.lst (vs.map (·.1))] = h4 at *
  -- the other one
  have lb4 : bLen h4 [.ref x'] = some (.int vs.length) := by rw [bLen_ref g4]; simp
  obtain ⟨c, h5, r5, c0, c1, I5, F5, l5⟩ := draw4 (limit := (vs.length : Int)) I4 (by omega) (by omega) (by omega)
  have cl : c.toNat < vs.length := by omega
  have g5 := F5.at_ ll3 g4
  have ix5 : opIx h5 (.ref x') (.int c) = some (vs[c.toNat]).1 := by
    rw [opIx_ref g5]; exact atI_get (by omega) (by rw [List.getElem?_map, List.getElem?_eq_getElem cl]; rfl)
  have wm := List.getElem_mem cl
  generalize hw : vs[c.toNat] = w at *
  have kw := (v3' w wm).frame F5
  have kz5 := kz4.frame F5
  obtain ⟨_, wK, wz⟩ := v3 w wm
  refine Runs.asg (d := w.1) (h1 := h5) (by simp [lb4, r5, ix5, kw.prom]) ?_
  simp only [List.set_cons_succ, List.set_cons_zero]
  obtain ⟨aL, i0, b0, lz, i1, i2⟩ := kz5.len
  obtain ⟨aR, j0, d0, lw, j1, j2⟩ := kw.len
  refine Runs.par2 (h1 := h5) (h2 := h5) (d := .int z.2.1.length) (d' := .int w.2.1.length) (by simp [i0, b0]) (by simp [j0, d0]) ?_
  simp only [List.set_cons_succ, List.set_cons_zero]
  have hp6 : z.2.1.length + w.2.1.length ≤ 6 := by omega
  obtain ⟨T, fits⟩ := fin_fits zd wK hp6
  rw [joinT_len] at fits
  -- the rows
  have pd1 := pad_is (h := h5) lz (f := evOp opIx (evVar 6) (evC (.int 0))) (elt := evOp opAdd (evB bList [(evVar 12)]) (evOp opMul (evLst [(evC (.int 2))]) (evVar 10))) (e := [some (.ref 2), some (.int most), some (.ref x), x3, x4, x5, some z.1, some (.ref x'), some w.1, some (.int z.2.1.length), some (.int w.2.1.length), none, none]) (fun row => row ++ List.replicate w.2.1.length 2) (by omega) (by simp [i0]) (fun t kk row hr hk => by
    have bl := bList_at hk
    have mu := mul_list (h := h5 ++ t) (v := .int 2) (k := (w.2.1.length : Int)) (by omega) (by omega)
    rw [Int.toNat_natCast] at mu
    have rl : row.length ≤ 6 := by
      have := fits (row ++ List.replicate w.2.1.length 2) (List.mem_append.mpr (.inl (List.mem_map.mpr ⟨row, hr, rfl⟩)))
      rw [List.length_append] at this; omega
    have ad := opAdd_tl (h := h5 ++ t) (xs := row.map D.int) (ys := List.replicate w.2.1.length (.int 2)) (by simp; omega)
    have e1 : (row ++ List.replicate w.2.1.length 2).map D.int = row.map D.int ++ List.replicate w.2.1.length (.int 2) := by simp
    rw [e1]
    simp [wipeE, Tgt.own, bl, mu, ad])
  have lw2 : LL q (h5 ++ z.2.1.map fun row => AO.lst ((row ++ List.replicate w.2.1.length 2).map .int)) aR w.2.1 := lw.app _
  have j0' : opIx (h5 ++ z.2.1.map fun row => AO.lst ((row ++ List.replicate w.2.1.length 2).map .int)) w.1 (.int 0) = some (.ref aR) := by
    obtain ⟨aa, ea, _⟩ := kw
    rw [ea] at j0 ⊢
    exact j0
  generalize hh6 : h5 ++ z.2.1.map (fun row => AO.lst ((row ++ List.replicate w.2.1.length 2).map .int)) = h6 at *
  have pd2 := pad_is (h := h6) lw2 (f := evOp opIx (evVar 8) (evC (.int 0))) (elt := evOp opAdd (evOp opMul (evLst [(evC (.int 2))]) (evVar 9)) (evB bList [(evVar 12)])) (e := [some (.ref 2), some (.int most), some (.ref x), x3, x4, x5, some z.1, some (.ref x'), some w.1, some (.int z.2.1.length), some (.int w.2.1.length), none, none]) (fun row => List.replicate z.2.1.length 2 ++ row) (by omega) (by simp [j0']) (fun t kk row hr hk => by
    have bl := bList_at hk
    have mu := mul_list (h := h6 ++ t) (v := .int 2) (k := (z.2.1.length : Int)) (by omega) (by omega)
    rw [Int.toNat_natCast] at mu
    have rl : row.length ≤ 6 := by
      have := fits (List.replicate z.2.1.length 2 ++ row) (List.mem_append.mpr (.inr (List.mem_map.mpr ⟨row, hr, rfl⟩)))
      rw [List.length_append] at this; omega
    have ad := opAdd_tl (h := h6 ++ t) (xs := List.replicate z.2.1.length (.int 2)) (ys := row.map D.int) (by simp; omega)
    have e1 : (List.replicate z.2.1.length 2 ++ row).map D.int = List.replicate z.2.1.length (.int 2) ++ row.map D.int := by simp
    rw [e1]
    simp [wipeE, Tgt.own, bl, mu, ad])
  have l6 : h6.length = h5.length + z.2.1.length := by rw [← hh6]; simp
  have refs : ((List.range z.2.1.length).map fun i => D.ref (h5.length + i)) ++ ((List.range w.2.1.length).map fun i => .ref (h6.length + i)) = (List.range (z.2.1.length + w.2.1.length)).map fun i => .ref (h5.length + i) := by
    rw [List.range_add, List.map_append, List.map_map, l6]
    congr 1
    apply List.map_congr_left
    intro i _
    simp only [Function.comp, Nat.add_assoc]
  have ad := opAdd_tl (h := h6 ++ w.2.1.map fun row => AO.lst ((List.replicate z.2.1.length 2 ++ row).map .int)) (xs := (List.range z.2.1.length).map fun i => D.ref (h5.length + i)) (ys := (List.range w.2.1.length).map fun i => .ref (h6.length + i)) (by simp; omega)
  rw [refs] at ad
  have hj : h6 ++ (w.2.1.map fun row => AO.lst ((List.replicate z.2.1.length 2 ++ row).map .int)) ++ [.lst ((List.range (z.2.1.length + w.2.1.length)).map fun i => .ref (h5.length + i))] = h5 ++ ((joinT z.2.1 w.2.1).map (fun row => AO.lst (row.map .int)) ++ [.lst ((List.range (z.2.1.length + w.2.1.length)).map fun i => .ref (h5.length + i))]) := by
    rw [← hh6]
    unfold joinT
    rw [List.map_append, List.map_map, List.map_map]
    simp only [List.append_assoc]
    rfl
  have RJ := litRowsF (joinT z.2.1 w.2.1) (n := z.2.1.length + w.2.1.length) h5 (joinT_len _ _) fits
  have l7 : (h6 ++ w.2.1.map fun row => AO.lst ((List.replicate z.2.1.length 2 ++ row).map .int)).length = h5.length + (z.2.1.length + w.2.1.length) := by rw [List.length_append, l6, List.length_map]; omega
  refine Runs.asg (d := .ref (h5.length + (z.2.1.length + w.2.1.length))) (h1 := h5 ++ ((joinT z.2.1 w.2.1).map (fun row => AO.lst (row.map .int)) ++ [.lst ((List.range (z.2.1.length + w.2.1.length)).map fun i => .ref (h5.length + i))])) (by
    rw [pv_eq, evOp_eq, pd1, bind_ok, pd2, bind_ok, ad, ofO_some2, bind_ok, promote_tl, l7, hj]) ?_
  simp only [List.set_cons_succ, List.set_cons_zero]
  have I7 := I5.app ((joinT z.2.1 w.2.1).map (fun row => AO.lst (row.map .int)) ++ [.lst ((List.range (z.2.1.length + w.2.1.length)).map fun i => .ref (h5.length + i))])
  have F7 := (F4.trans F5).trans (Frame.app 4 h5 ((joinT z.2.1 w.2.1).map (fun row => AO.lst (row.map .int)) ++ [.lst ((List.range (z.2.1.length + w.2.1.length)).map fun i => .ref (h5.length + i))]))
  have ll5 := I5.len4
  clear pd1 pd2 ad hj l7 refs lw2 j0' l6 hh6
  generalize h5.length + (z.2.1.length + w.2.1.length) = r7 at *
  generalize h5 ++ ((joinT z.2.1 w.2.1).map (fun row => AO.lst (row.map .int)) ++ [AO.lst ((List.range (z.2.1.length + w.2.1.length)).map fun i => .ref (h5.length + i))]) = h7 at *
  obtain ⟨l, r8, h8, sh, pl, R8, I8, F8⟩ := shuffled_is (RJ.low ll5) I7 (by omega) hp6
  have l78 := F7.len
  obtain ⟨aa, ea, _⟩ := kw
  obtain ⟨ab, eb, _⟩ := kz5
  have u1 : ∀ h' : AH, opIx h' z.1 (.int 1) = some (.int (z.2.2.1 : Nat)) := fun h' => by rw [eb]; rfl
  have u2 : ∀ h' : AH, opIx h' z.1 (.int 2) = some (.int (z.2.2.2 : Nat)) := fun h' => by rw [eb]; rfl
  have u3 : ∀ h' : AH, opIx h' w.1 (.int 1) = some (.int (w.2.2.1 : Nat)) := fun h' => by rw [ea]; rfl
  have u4 : ∀ h' : AH, opIx h' w.1 (.int 2) = some (.int (w.2.2.2 : Nat)) := fun h' => by rw [ea]; rfl
  have small : ∀ p ∈ finK, p.2.1 ≤ 1000 := by decide
  have s1 := small z.2 (List.mem_of_mem_drop zd)
  have mu : opMul h8 (.int (z.2.2.1 : Nat)) (.int (w.2.2.1 : Nat)) = some (.int ((z.2.2.1 : Int) * (w.2.2.1 : Int))) := opMul_at h8 (.inl (smallI_of (by omega) (by omega)))
  refine Runs.last fun Q' hQ => ?_
  have ev : evLst [(evCall d2_law_shuffled [(evVar 0), (evVar 3)]), (evOp opMul (evOp opIx (evVar 6) (evC (.int 1))) (evOp opIx (evVar 8) (evC (.int 1)))), (evOp opAdd (evOp opIx (evVar 6) (evC (.int 2))) (evOp opIx (evVar 8) (evC (.int 2))))] [some (.ref 2), some (.int most), some (.ref x), some (.ref r7), x4, x5, some z.1, some (.ref x'), some w.1, some (.int z.2.1.length), some (.int w.2.1.length), none, none] h7 = .ok (.tl [.ref r8, .int ((z.2.2.1 : Int) * (w.2.2.1 : Int)), .int ((z.2.2.2 : Int) + (w.2.2.2 : Int))]) h8 := by
    simp [sh, u1, u2, u3, u4, mu]
  rw [svRet_eq, ev, toFl_ok]
  subst hQ
  have hl8 : h.length ≤ h8.length := Nat.le_trans F7.len F8.len
  refine ⟨h8.length, r8, h8 ++ [.lst [.ref r8, .int ((z.2.2.1 : Int) * (w.2.2.1 : Int)), .int ((z.2.2.2 : Int) + (w.2.2.2 : Int))]], z.2, w.2, l, ?_, by simp, hl8, zd, wK, by omega, pl, (R8.low F7.len).frame (Frame.app 4 h8 _) l4, (I8.mono (by omega)).app _, (F7.trans F8).trans (Frame.app _ _ _)⟩
  show BW.fin h (.tl _) h8 = _
  unfold BW.fin
  rw [promote_tl]
  have : D.lt h.length (.ref h8.length) = false := by show decide (h8.length < h.length) = false; exact decide_eq_false (by omega)
  simp only [this, Bool.false_and, Bool.false_eq_true, if_false]
end BW

set_option Elab.async false
set_option linter.all false
set_option maxRecDepth 100000
set_option maxHeartbeats 4000000
namespace BW
open PySem Cox
theorem fin_law {p s : KT} {l : List Nat} {n : Nat} {M : Nat → Nat → Int} (hp : p ∈ finK.drop 1) (hs : s ∈ finK) (hn : p.1.length + s.1.length = n) (h6 : n ≤ 6) (pl : l.Perm (List.range n)) (hM : M = shM l (litM (joinT p.1 s.1))) :
    ∃ T : Tab n M, finB' T = true ∧ ∃ t, Top (sysOf T) n t ∧ ell (sysOf T) t = p.2.2 + s.2.2 ∧ p.2.2 + s.2.2 ≤ 18 := by
  subst hM hn
  have l18 : p.2.2 + s.2.2 ≤ 18 := by
    have := List.all_eq_true.mp (List.all_eq_true.mp fin_letters p hp) s hs
    rw [decide_eq_true h6, Bool.not_true, Bool.false_or] at this
    exact of_decide_eq_true this
  have key : ∀ m, m = (joinT p.1 s.1).length → ∃ T : Tab m (litM (joinT p.1 s.1)), ∃ t, Top (sysOf T) m t ∧ ell (sysOf T) t = p.2.2 + s.2.2 := by
    rintro m rfl
    obtain ⟨T0, _, tt⟩ := finB_top (finK_ok hp hs h6)
    exact ⟨T0, tt (by omega)⟩
  obtain ⟨T1, t, h1, h2⟩ := key _ (joinT_len p.1 s.1).symm
  have T := shM_tab pl T1
  refine ⟨T, ?_, _, (shM_top pl T1 h1).1, by rw [(shM_top pl T1 h1).2, h2], l18⟩
  obtain ⟨x, mm⟩ := fin_mm hp hs h6 pl T
  unfold finB'
  have : endCh T = none := by
    unfold endCh
    rw [List.find?_eq_none]
    intro c hc
    have C := mem_chs.mp hc
    have := mm.part_pos C.nodup C.lts
    unfold endB
    have e : chM T c = fun i j => strM (sysOf T).w (ordF c i) (ordF c j) := rfl
    rw [e]
    simp only [Bool.and_eq_true, decide_eq_true_eq, not_and]
    omega
  rw [this]
  rfl
theorem intsOf_ints : ∀ l : List Int, intsOf (l.map D.int) = some l
  | [] => rfl
  | a :: l => by simp [intsOf, intsOf_ints l]
end BW

set_option Elab.async false
set_option linter.all false
namespace Cox
def sh (f : Nat → Int) : Nat → Int := fun i => f (i + 1)
def conv : Nat → (Nat → Int) → (Nat → Int) → Int
  | 0, f, g => f 0 * g 0
  | k + 1, f, g => f 0 * g (k + 1) + conv k (sh f) g
def del (k : Nat) : Int := if k = 0 then 1 else 0
theorem nodup_le {α : Type} : ∀ (l D : List α), l.Nodup → (∀ x ∈ l, x ∈ D) → l.length ≤ D.length
  | [], _, _, _ => Nat.zero_le _
  | x :: l, D, hn, hs => by
    obtain ⟨h1, h2⟩ := List.nodup_cons.mp hn
    obtain ⟨D1, D2, rfl⟩ := List.append_of_mem (hs x List.mem_cons_self)
    have ih := nodup_le l (D1 ++ D2) h2 fun y hy => by
      rcases List.mem_append.mp (hs y (List.mem_cons_of_mem _ hy)) with q | q
      · exact List.mem_append.mpr (.inl q)
      · rcases List.mem_cons.mp q with q | q
        · subst q; exact absurd hy h1
        · exact List.mem_append.mpr (.inr q)
    simp only [List.length_append, List.length_cons] at *
    omega
def allW (c : Wd) : Nat → List Wd
  | 0 => [[]]
  | k + 1 => (allW c k).flatMap fun u => c.map fun a => u ++ [a]
theorem mem_allW {c : Wd} : ∀ {k : Nat} {u : Wd}, u ∈ allW c k ↔ (∀ a ∈ u, a ∈ c) ∧ u.length = k
  | 0, u => by
    simp only [allW, List.mem_singleton]
    constructor
    · rintro rfl; exact ⟨fun _ h => (nomatch h), rfl⟩
    · rintro ⟨_, h⟩; exact List.length_eq_zero_iff.mp h
  | k + 1, u => by
    simp only [allW, List.mem_flatMap, List.mem_map, mem_allW (k := k)]
    constructor
    · rintro ⟨v, ⟨h1, h2⟩, a, ha, rfl⟩
      refine ⟨fun x hx => ?_, by simp [h2]⟩
      rcases List.mem_append.mp hx with q | q
      · exact h1 x q
      · rw [List.mem_singleton.mp q]; exact ha
    · rintro ⟨h1, h2⟩
      rcases List.eq_nil_or_concat u with rfl | ⟨v, a, rfl⟩
      · simp at h2
      · rw [List.concat_eq_append] at *
        exact ⟨v, ⟨fun x hx => h1 x (by simp [hx]), by simpa using h2⟩, a, h1 a (by simp), rfl⟩
section
open Sys
variable {S : Sys} {n : Nat}
end
end Cox

set_option Elab.async false
set_option linter.all false
namespace Cox
section
open Sys
variable {S : Sys} {n : Nat}
end
end Cox

set_option Elab.async false
set_option linter.all false
namespace Cox
section
open Sys
variable {S : Sys} {n : Nat}
end
end Cox

set_option Elab.async false
set_option linter.all false
set_option maxRecDepth 100000
set_option maxHeartbeats 4000000
namespace BW
open PySem Cox
def detM (M : Nat → Nat → Int) (d : Wd) : Int := det d.length fun i j => - wM M (ordF d j) (ordF d i)
def tabOf (l : List Int) (i j : Nat) : Int := if i = j then 1 else if i < j then l.getD (j * (j - 1) / 2 + i) 2 else l.getD (i * (i - 1) / 2 + j) 2
def kinds5 : List Int := [2, 3, 4, 6, 0]
def longK (k : Nat) : Nat := if k = 2 then 13 else if k = 3 then 8 else 6
def okB (k : Nat) (M : Nat → Nat → Int) : Bool := !((upS k).all fun d => decide (d.length = k) || decide (0 < detM M d)) ||
  (if 0 < detM M (List.range k) then decide (groW k (wM M) 61 (List.replicate k 1) < 61) else groW k (wM M) (longK k) (List.replicate k 1) == longK k)
theorem ok1 : okB 1 (tabOf []) = true := by decide +kernel
theorem ok2 : (kinds5.all fun a => okB 2 (tabOf [a])) = true := by decide +kernel
theorem ok3 : (kinds5.all fun a => kinds5.all fun b => kinds5.all fun c => okB 3 (tabOf [a, b, c])) = true := by decide +kernel
def P4 (a b : Int) : Bool := kinds5.all fun c => !((upS 3).all fun d => decide (0 < detM (tabOf [a, b, c]) d)) ||
  kinds5.all fun x => kinds5.all fun y => kinds5.all fun z => okB 4 (tabOf [a, b, c, x, y, z])
theorem P4_2_2 : P4 2 2 = true := by decide +kernel
theorem P4_2_3 : P4 2 3 = true := by decide +kernel
theorem P4_2_4 : P4 2 4 = true := by decide +kernel
theorem P4_2_6 : P4 2 6 = true := by decide +kernel
theorem P4_2_0 : P4 2 0 = true := by decide +kernel
theorem P4_3_2 : P4 3 2 = true := by decide +kernel
theorem P4_3_3 : P4 3 3 = true := by decide +kernel
theorem P4_3_4 : P4 3 4 = true := by decide +kernel
theorem P4_3_6 : P4 3 6 = true := by decide +kernel
theorem P4_3_0 : P4 3 0 = true := by decide +kernel
theorem P4_4_2 : P4 4 2 = true := by decide +kernel
theorem P4_4_3 : P4 4 3 = true := by decide +kernel
theorem P4_4_4 : P4 4 4 = true := by decide +kernel
theorem P4_4_6 : P4 4 6 = true := by decide +kernel
theorem P4_4_0 : P4 4 0 = true := by decide +kernel
theorem P4_6_2 : P4 6 2 = true := by decide +kernel
theorem P4_6_3 : P4 6 3 = true := by decide +kernel
theorem P4_6_4 : P4 6 4 = true := by decide +kernel
theorem P4_6_6 : P4 6 6 = true := by decide +kernel
theorem P4_6_0 : P4 6 0 = true := by decide +kernel
theorem P4_0_2 : P4 0 2 = true := by decide +kernel
theorem P4_0_3 : P4 0 3 = true := by decide +kernel
theorem P4_0_4 : P4 0 4 = true := by decide +kernel
theorem P4_0_6 : P4 0 6 = true := by decide +kernel
theorem P4_0_0 : P4 0 0 = true := by decide +kernel
theorem ok4 : (kinds5.all fun a => kinds5.all fun b => kinds5.all fun c => !((upS 3).all fun d => decide (0 < detM (tabOf [a, b, c]) d)) ||
  kinds5.all fun x => kinds5.all fun y => kinds5.all fun z => okB 4 (tabOf [a, b, c, x, y, z])) = true := by
  show (kinds5.all fun a => kinds5.all fun b => P4 a b) = true
  simp only [kinds5, List.all_cons, List.all_nil, P4_2_2, P4_2_3, P4_2_4, P4_2_6, P4_2_0, P4_3_2, P4_3_3, P4_3_4, P4_3_6, P4_3_0, P4_4_2, P4_4_3, P4_4_4, P4_4_6, P4_4_0, P4_6_2, P4_6_3, P4_6_4, P4_6_6, P4_6_0, P4_0_2, P4_0_3, P4_0_4, P4_0_6, P4_0_0, Bool.and_self]
end BW

set_option Elab.async false
set_option linter.all false
set_option maxRecDepth 100000
set_option maxHeartbeats 4000000
namespace BW
open PySem Cox
section
variable {n : Nat} {M : Nat → Nat → Int}
end
end BW

set_option Elab.async false
set_option linter.all false
set_option maxRecDepth 100000
set_option maxHeartbeats 4000000
namespace BW
open PySem Cox
def tbl (m : Nat) (f : Nat → Int) : List Int := (List.range (m + 1)).map f
section
variable {n : Nat} {M : Nat → Nat → Int}
end
end BW

set_option Elab.async false
set_option linter.all false
set_option maxRecDepth 100000
set_option maxHeartbeats 4000000
namespace Cox
end Cox
namespace BW
open PySem Cox
section
variable {n : Nat} {M : Nat → Nat → Int}
end
end BW

set_option Elab.async false
set_option linter.all false
set_option maxRecDepth 100000
set_option maxHeartbeats 4000000
namespace BW
open PySem Cox
section
variable {S : Sys}
end
section
variable {h : AH} {b r n : Nat} {M : Nat → Nat → Int}
end
end BW

set_option Elab.async false
set_option linter.all false
set_option maxRecDepth 100000
set_option maxHeartbeats 4000000
namespace BW
open PySem Cox
section
variable {S : Sys} {n : Nat}
def rwL (S : Sys) (n : Nat) (z : Wd) : List Int := lst n (row S z)
theorem rwL_tup (z : Wd) : rowT n (row S z) = tupI (rwL S n z) := rfl
end
section
variable {h : AH} {b r n : Nat} {M : Nat → Nat → Int}
theorem Lts.sub {z w : Wd} (s : z.Sublist w) (h : Lts n w) : Lts n z := fun a ha => h a (s.subset ha)
end
end BW

set_option Elab.async false
set_option linter.all false
set_option maxRecDepth 100000
set_option maxHeartbeats 4000000
namespace BW
open PySem Cox
def keyI (x : List Int) : List L2.Key := x.map Sum.inl
theorem keyI_inj {x y : List Int} : keyI x = keyI y ↔ x = y := by
  constructor
  · intro e
    unfold keyI at e
    exact List.map_inj_right (fun a b h => by cases h; rfl) |>.mp e
  · intro e; rw [e]
theorem keysD_tupI (x : List Int) : keysD (tupI x) = some (keyI x) := by
  show allK keyD (x.map .int) = _
  induction x with
  | nil => rfl
  | cons a x ih => simp only [List.map_cons, allK, keyD, ih]; rfl
theorem keyT_keyI (x : List Int) : keyT (keyI x) = tupI x := by
  unfold keyT keyI tupI
  rw [List.map_map]
  rfl
theorem dputT_at {fo fi fv : Ev} {e : Env} {h h1 h2 h3 : AH} {d k : D} {n : Nat} {kvs : List (List L2.Key × D)} {q : List L2.Key} (hv : pv fv e h = .ok d h1) (ho : fo e h1 = .ok (.ref n) h2) (hi : fi e h2 = .ok k h3) (g : h3[n]? = some (.dt kvs)) (hk : keysD k = some q) (hl : kvs.length < 16777216) :
    svDputT fo fi fv e h = .nx e (h3.set n (.dt (putD kvs q d))) := by
  unfold svDputT
  rw [hv, toFl_ok, ho, toFl_ok, hi, toFl_ok]
  simp only [g, hk, if_pos hl]
section
variable {S : Sys} {n : Nat}
theorem press_rwL {z : Wd} {a : Nat} (ha : a < n) : pressL S n (rwL S n z) a = rwL S n (z ++ [a]) := by
  unfold rwL
  rw [pressL_is ha, row_snoc]
end
section
variable {h : AH} {b n : Nat} {M : Nat → Nat → Int}
end
end BW

set_option Elab.async false
set_option linter.all false
set_option maxRecDepth 100000
set_option maxHeartbeats 4000000
namespace BW
open PySem Cox
end BW

set_option Elab.async false
set_option linter.all false
set_option maxRecDepth 100000
set_option maxHeartbeats 4000000
namespace BW
open PySem Cox
section
variable {n : Nat} {M : Nat → Nat → Int}
end
end BW

set_option Elab.async false
set_option linter.all false
set_option maxRecDepth 100000
set_option maxHeartbeats 4000000
namespace BW
open PySem Cox
section
variable {L : Lv} {h t : AH} {c w : Str} {x : D}
end
section
variable {fb : Ev} {e : Env} {h t : AH} {x : D} (ix : List Nat)
end
end BW

set_option Elab.async false
set_option linter.all false
set_option maxRecDepth 100000
set_option maxHeartbeats 4000000
namespace BW
open PySem Cox
mutual
theorem ltD_mono {n m : Nat} (h : n ≤ m) : ∀ d : D, d.lt n = true → d.lt m = true
  | .tup xs, q => by simp only [D.lt] at q ⊢; exact ltsD_mono h xs q
  | .rl xs, q => by simp only [D.lt] at q ⊢; exact ltsD_mono h xs q
  | .exc _ xs, q => by simp only [D.lt] at q ⊢; exact ltsD_mono h xs q
  | .tl xs, q => by simp [D.lt] at q
  | .ref k, q => by simp only [D.lt, decide_eq_true_eq] at q ⊢; omega
  | .non, _ => rfl
  | .bl _, _ => rfl
  | .int _, _ => rfl
  | .str _, _ => rfl
  | .kt _, _ => rfl
theorem ltsD_mono {n m : Nat} (h : n ≤ m) : ∀ xs : List D, D.lts n xs = true → D.lts m xs = true
  | [], _ => rfl
  | x :: xs, q => by
    simp only [D.lts, Bool.and_eq_true] at q ⊢
    exact ⟨ltD_mono h x q.1, ltsD_mono h xs q.2⟩
end
section
variable {h : AH} {b r n : Nat} {M : Nat → Nat → Int}
section
variable {d v u : D} {c : Str} {x : D}
variable (hp : promote d h = .ok d h) (nw : d_need_word [.ref b, d] h = .ok .non h) (pv : promote v h = .ok v h) (nc : d_need_choice [.ref b, v] h = .exc (.exc "BadChoice" [v]) h) (lv : v.lt h.length = true)
include hp nw pv nc lv
end
end
end BW

set_option Elab.async false
set_option linter.all false
set_option maxRecDepth 100000
set_option maxHeartbeats 4000000
namespace BW
open PySem Cox
section
variable {n : Nat} {M : Nat → Nat → Int}
end
end BW

set_option Elab.async false
set_option linter.all false
set_option maxRecDepth 100000
set_option maxHeartbeats 4000000
namespace BW
open PySem Cox
section
variable {n : Nat} {M : Nat → Nat → Int}
end
end BW

set_option Elab.async false
set_option linter.all false
set_option maxRecDepth 100000
set_option maxHeartbeats 4000000
namespace BW
open PySem Cox
section
variable {h : AH} {b r n : Nat} {M : Nat → Nat → Int} {v x : D} {c : Str}
end
end BW

set_option Elab.async false
set_option linter.all false
set_option maxRecDepth 100000
set_option maxHeartbeats 4000000
namespace BW
open PySem Cox
section
variable {h : AH} {b n : Nat} {M : Nat → Nat → Int} {d o x : D} {c : Str}
end
end BW

set_option Elab.async false
set_option linter.all false
set_option maxRecDepth 100000
set_option maxHeartbeats 4000000
namespace BW
open PySem Cox
section
variable {h : AH} {b n p : Nat} {M : Nat → Nat → Int} {w : List Int} {hs ls : List (D × List Int)}
end
end BW

set_option Elab.async false
set_option linter.all false
set_option maxRecDepth 100000
set_option maxHeartbeats 4000000
namespace BW
open PySem Cox
section
variable {n : Nat} {M : Nat → Nat → Int}
end
end BW

set_option Elab.async false
set_option linter.all false
set_option maxRecDepth 100000
set_option maxHeartbeats 4000000
namespace BW
open PySem Cox
section
variable {n : Nat} {M : Nat → Nat → Int}
end
end BW

set_option Elab.async false
set_option linter.all false
set_option maxRecDepth 100000
set_option maxHeartbeats 4000000
namespace BW
open PySem Cox
section
variable {n : Nat} {M : Nat → Nat → Int} {h : AH} {b : Nat}
end
end BW

set_option Elab.async false
set_option linter.all false
set_option maxRecDepth 100000
set_option maxHeartbeats 4000000
namespace BW
open PySem Cox
section
variable {S : Sys} {n : Nat}
theorem rwL_alike (F : S.Fin n) {u v : Wd} (hu : Lts n u) (hv : Lts n v) : rwL S n u = rwL S n v ↔ Alike S u v := by
  unfold rwL
  rw [lst_inj1 (Out1.row F hu) (Out1.row F hv), alike_iff]
def lsum (n : Nat) : Nat → Nat
  | 0 => 1
  | k + 1 => lsum n k + n ^ (k + 1)
theorem lsum_mono {n j : Nat} : ∀ {k : Nat}, j ≤ k → lsum n j ≤ lsum n k
  | 0, h => by rw [Nat.le_zero.mp h]; exact Nat.le_refl _
  | k + 1, h => by
    rcases Nat.eq_or_lt_of_le h with rfl | z
    · exact Nat.le_refl _
    · have := lsum_mono (n := n) (show j ≤ k by omega)
      show lsum n j ≤ lsum n k + n ^ (k + 1)
      omega
theorem allW_len (c : Wd) : ∀ k, (allW c k).length = c.length ^ k
  | 0 => rfl
  | k + 1 => by
    have ih := allW_len c k
    have : ∀ l : List Wd, (l.flatMap fun u => c.map fun a => u ++ [a]).length = l.length * c.length := by
      intro l
      induction l with
      | nil => simp
      | cons x l ih => simp [List.flatMap_cons, ih, Nat.add_mul]; omega
    first
      | (show ((allW c k).flatMap fun u => c.map fun a => u ++ [a]).length = _
         rw [this, ih, Nat.pow_succ])
      | (unfold allW
         simp [List.length_flatMap, ih, Nat.pow_succ, Nat.mul_comm])
section
variable {k : Nat} {K fr la : List (List Int)} {i j : Nat}
end
end
end BW

set_option Elab.async false
set_option linter.all false
set_option maxRecDepth 100000
set_option maxHeartbeats 4000000
namespace BW
open PySem Cox
section
variable {S : Sys} {n : Nat} {c : Wd}
abbrev Wi (c u : Wd) : Prop := ∀ a ∈ u, a ∈ c
theorem Wi.lts {u : Wd} (hc : Lts n c) (h : Wi c u) : Lts n u := fun a ha => hc a (h a ha)
theorem Wi.snoc {u : Wd} {a : Nat} (h : Wi c u) (ha : a ∈ c) : Wi c (u ++ [a]) := fun b hb => by
  rcases List.mem_append.mp hb with z | z
  · exact h b z
  · rw [List.mem_singleton.mp z]; exact ha
structure LcOk (S : Sys) (n : Nat) (c : Wd) (k : Nat) (K fr : List Wd) : Prop where
  nk : (K.map (rwL S n)).Nodup
  nf : (fr.map (rwL S n)).Nodup
  wk : ∀ w ∈ K, Wi c w ∧ Short S w ∧ w.length ≤ k
  wf : ∀ w ∈ fr, w ∈ K ∧ w.length = k
  kal : ∀ u, Wi c u → ell S u ≤ k → rwL S n u ∈ K.map (rwL S n)
  fal : ∀ u, Wi c u → ell S u = k → rwL S n u ∈ fr.map (rwL S n)
structure LcMid (S : Sys) (n : Nat) (c : Wd) (k : Nat) (K fr : List Wd) (i : Nat) (L : Wd) (la : List Wd) : Prop where
  nk : ((K ++ la).map (rwL S n)).Nodup
  wl : ∀ w ∈ la, Wi c w ∧ Short S w ∧ w.length = k + 1
  done : ∀ i' x, i' < i → fr[i']? = some x → ∀ a ∈ c, rwL S n (x ++ [a]) ∈ (K ++ la).map (rwL S n)
  part : ∀ x, fr[i]? = some x → ∀ a ∈ L, rwL S n (x ++ [a]) ∈ (K ++ la).map (rwL S n)
theorem LcOk.zero : LcOk S n c 0 [[]] [[]] := by
  have z : ∀ u, ell S u = 0 → rwL S n u ∈ ([[]] : List Wd).map (rwL S n) := fun u h => by
    obtain ⟨v, _, sv, av⟩ := ex_red (S := S) u
    have l0 : v.length = 0 := by rw [← ell_short sv, ell_congr av]; exact h
    rw [List.length_eq_zero_iff.mp l0] at av
    have : rwL S n u = rwL S n [] := by unfold rwL; rw [av.symm.row]
    rw [this]; simp
  exact ⟨by simp, by simp, fun w hw => by rw [List.mem_singleton.mp hw]; exact ⟨fun _ h => (nomatch h), fun _ _ => Nat.zero_le _, Nat.le_refl _⟩,
    fun w hw => by rw [List.mem_singleton.mp hw]; exact ⟨by simp, rfl⟩, fun u _ h => z u (by omega), fun u _ h => z u h⟩
section
variable {k i : Nat} {K fr la : List Wd} {L : Wd}
theorem LcMid.start (o : LcOk S n c k K fr) : LcMid S n c k K fr 0 [] [] := ⟨by simpa using o.nk, (fun _ h => nomatch h), (fun _ _ h => absurd h (Nat.not_lt_zero _)), (fun _ _ _ h => nomatch h)⟩
theorem LcMid.add (F : S.Fin n) (hc : Lts n c) (o : LcOk S n c k K fr) (m : LcMid S n c k K fr i L la) {x : Wd} (hx : fr[i]? = some x) {a : Nat} (ha : a ∈ c) (nin : rwL S n (x ++ [a]) ∉ (K ++ la).map (rwL S n)) : LcMid S n c k K fr i (L ++ [a]) (la ++ [x ++ [a]]) := by
  obtain ⟨xK, xl⟩ := o.wf x (List.mem_of_getElem? hx)
  obtain ⟨wx, sx, _⟩ := o.wk x xK
  have wxa := wx.snoc ha
  have ex : ell S x = k := by rw [ell_short sx, xl]
  have e1 : ell S (x ++ [a]) = k + 1 := by
    rcases ell_step (S := S) x a with z | z
    · omega
    · exfalso
      have := o.kal (x ++ [a]) wxa (by omega)
      exact nin (by rw [List.map_append]; exact List.mem_append_left _ this)
  have sxa : Short S (x ++ [a]) := short_of_ell (by rw [e1, List.length_append, xl]; rfl)
  refine ⟨?_, fun w hw => ?_, fun i' y hi hy b hb => ?_, fun y hy b hb => ?_⟩
  · rw [← List.append_assoc, List.map_append]
    exact List.nodup_append.mpr ⟨m.nk, by simp, fun p hp q hq e => nin (by
      rw [List.map_singleton, List.mem_singleton] at hq
      rw [← hq, ← e]; exact hp)⟩
  · rcases List.mem_append.mp hw with z | z
    · exact m.wl w z
    · rw [List.mem_singleton.mp z]
      exact ⟨wxa, sxa, by rw [List.length_append, xl]; rfl⟩
  · rw [← List.append_assoc, List.map_append]; exact List.mem_append_left _ (m.done i' y hi hy b hb)
  · rw [← List.append_assoc, List.map_append]
    rcases List.mem_append.mp hb with z | z
    · exact List.mem_append_left _ (m.part y hy b z)
    · rw [List.mem_singleton.mp z]
      rw [hx] at hy; cases hy
      exact List.mem_append_right _ (by simp)
theorem LcMid.skip (m : LcMid S n c k K fr i L la) {x : Wd} (hx : fr[i]? = some x) {a : Nat} (isin : rwL S n (x ++ [a]) ∈ (K ++ la).map (rwL S n)) : LcMid S n c k K fr i (L ++ [a]) la := ⟨m.nk, m.wl, m.done, fun y hy b hb => by
  rcases List.mem_append.mp hb with z | z
  · exact m.part y hy b z
  · rw [List.mem_singleton.mp z]
    rw [hx] at hy; cases hy
    exact isin⟩
theorem LcMid.next (m : LcMid S n c k K fr i c la) : LcMid S n c k K fr (i + 1) [] la := ⟨m.nk, m.wl, (fun i' x hi hx a ha => by
  rcases Nat.lt_succ_iff_lt_or_eq.mp hi with z | z
  · exact m.done i' x z hx a ha
  · subst z
    exact m.part x hx a ha), (fun _ _ _ h => nomatch h)⟩
theorem LcMid.fin (F : S.Fin n) (hc : Lts n c) (o : LcOk S n c k K fr) (m : LcMid S n c k K fr fr.length [] la) : LcOk S n c (k + 1) (K ++ la) la := by
  have nl : (la.map (rwL S n)).Nodup := by
    have := m.nk
    rw [List.map_append] at this
    exact (List.nodup_append.mp this).2.1
  have key : ∀ v, Wi c v → ell S v = k + 1 → rwL S n v ∈ (K ++ la).map (rwL S n) := fun v hv e => by
    obtain ⟨z, sz, shz, az⟩ := ex_red (S := S) v
    have lz : z.length = k + 1 := by rw [← ell_short shz, ell_congr az]; exact e
    obtain ⟨w, a, rfl⟩ : ∃ w a, z = w ++ [a] := by
      rcases List.eq_nil_or_concat z with rfl | ⟨w, a, rfl⟩
      · simp at lz
      · exact ⟨w, a, List.concat_eq_append ..⟩
    have hz : Wi c (w ++ [a]) := fun x hx => hv x (sz.subset hx)
    have sw : Short S w := shz.pre
    have ew : ell S w = k := by rw [ell_short sw]; simp at lz; omega
    have hw : Wi c w := fun x hx => hz x (List.mem_append_left _ hx)
    have ac : a ∈ c := hz a (by simp)
    obtain ⟨x, xf, ex⟩ := List.mem_map.mp (o.fal w hw ew)
    obtain ⟨i', hi'⟩ := List.getElem?_of_mem xf
    have il := (List.getElem?_eq_some_iff.mp hi').1
    have d := m.done i' _ il hi' a ac
    have xw : Lts n x := (o.wk x (o.wf x xf).1).1.lts hc
    have e2 : rwL S n (x ++ [a]) = rwL S n (w ++ [a]) := by rw [← press_rwL (hc a ac), ← press_rwL (hc a ac), ex]
    rw [(rwL_alike F (hv.lts hc) (hz.lts hc)).mpr az.symm, ← e2]
    exact d
  have up : ∀ u, Wi c u → ell S u = k + 1 → rwL S n u ∈ la.map (rwL S n) := fun u hu e => by
    have := key u hu e
    rw [List.map_append] at this
    rcases List.mem_append.mp this with z | z
    · exfalso
      obtain ⟨v, hv, q⟩ := List.mem_map.mp z
      obtain ⟨w1, w2, w3⟩ := o.wk v hv
      have := ell_congr ((rwL_alike F (w1.lts hc) (hu.lts hc)).mp q)
      rw [ell_short w2] at this
      omega
    · exact z
  refine ⟨m.nk, nl, fun w hw => ?_, fun w hw => ⟨List.mem_append_right _ hw, (m.wl w hw).2.2⟩, fun u hu e => ?_, up⟩
  · rcases List.mem_append.mp hw with z | z
    · obtain ⟨a, b, d⟩ := o.wk w z
      exact ⟨a, b, by omega⟩
    · obtain ⟨a, b, d⟩ := m.wl w z
      exact ⟨a, b, by omega⟩
  · rcases Nat.lt_succ_iff_lt_or_eq.mp (Nat.lt_succ_of_le e) with z | z
    · rw [List.map_append]; exact List.mem_append_left _ (o.kal u hu (by omega))
    · exact key u hu z
end
end
end BW

set_option Elab.async false
set_option linter.all false
set_option maxRecDepth 100000
set_option maxHeartbeats 4000000
namespace BW
open PySem Cox
def upToW (n : Nat) : Nat → List Wd
  | 0 => [[]]
  | k + 1 => upToW n k ++ allW (List.range n) (k + 1)
theorem upToW_len (n : Nat) : ∀ k, (upToW n k).length = lsum n k
  | 0 => rfl
  | k + 1 => by
    show (upToW n k ++ allW (List.range n) (k + 1)).length = lsum n k + n ^ (k + 1)
    rw [List.length_append, upToW_len n k, allW_len, List.length_range]
theorem mem_upToW {n : Nat} {u : Wd} (hu : Lts n u) : ∀ {k}, u.length ≤ k → u ∈ upToW n k
  | 0, h => by
    rw [List.length_eq_zero_iff.mp (Nat.le_zero.mp h)]
    exact List.mem_singleton.mpr rfl
  | k + 1, h => by
    show u ∈ upToW n k ++ allW (List.range n) (k + 1)
    rcases Nat.lt_or_ge k u.length with z | z
    · exact List.mem_append_right _ (mem_allW.mpr ⟨fun a ha => List.mem_range.mpr (hu a ha), by omega⟩)
    · exact List.mem_append_left _ (mem_upToW hu z)
theorem nodup_ofMap {α β : Type} {f : α → β} {l : List α} (h : (l.map f).Nodup) : l.Nodup :=
  (List.pairwise_map.mp h).imp fun hne e => hne (by rw [e])
section
variable {S : Sys} {n : Nat} {c : Wd}
theorem few_words {l : List Wd} {k : Nat} (nd : (l.map (rwL S n)).Nodup) (h : ∀ w ∈ l, Lts n w ∧ w.length ≤ k) : l.length ≤ lsum n k := by
  rw [← upToW_len]
  exact nodup_le _ _ (nodup_ofMap nd) fun w hw => mem_upToW (h w hw).1 (h w hw).2
structure AllWi (S : Sys) (n : Nat) (c : Wd) (K : List Wd) : Prop where
  nd : (K.map (rwL S n)).Nodup
  wi : ∀ w ∈ K, Wi c w ∧ Short S w
  al : ∀ u, Wi c u → rwL S n u ∈ K.map (rwL S n)
theorem LcOk.done {k : Nat} {K : List Wd} (o : LcOk S n c k K []) : AllWi S n c K := by
  refine ⟨o.nk, fun w hw => ⟨(o.wk w hw).1, (o.wk w hw).2.1⟩, fun u hu => ?_⟩
  rcases Nat.lt_or_ge k (ell S u) with z | z
  · exfalso
    obtain ⟨v, sv, shv, av⟩ := ex_red (S := S) u
    have lv : v.length = ell S u := by rw [← ell_short shv, ell_congr av]
    have e : v = v.take k ++ v.drop k := (List.take_append_drop k v).symm
    have sh : Short S (v.take k) := by rw [e] at shv; exact shv.pre
    have hv : Wi c (v.take k) := fun a ha => hu a (sv.subset (List.mem_of_mem_take ha))
    have := o.fal _ hv (by rw [ell_short sh, List.length_take]; omega)
    exact absurd this (by simp)
  · exact o.kal u hu z
theorem AllWi.len_le {K K' : List Wd} (A : AllWi S n c K) (B : AllWi S n c K') : K.length ≤ K'.length := by
  have := nodup_le _ _ A.nd fun y hy => by
    obtain ⟨w, hw, rfl⟩ := List.mem_map.mp hy
    exact B.al w (A.wi w hw).1
  simpa using this
def entK (S : Sys) (n : Nat) (w : Wd) : List L2.Key × D := (keyI (rwL S n w), upT w)
theorem has_entK (K : List Wd) (y : List Int) : (valD (K.map (entK S n)) (keyI y)).isSome = decide (y ∈ K.map (rwL S n)) := by
  unfold valD
  rw [Option.isSome_map]
  by_cases z : y ∈ K.map (rwL S n)
  · rw [decide_eq_true z, List.find?_isSome]
    obtain ⟨w, hw, rfl⟩ := List.mem_map.mp z
    exact ⟨entK S n w, List.mem_map.mpr ⟨w, hw, rfl⟩, by simp [entK]⟩
  · rw [decide_eq_false z]
    have : (K.map (entK S n)).find? (fun kv => decide (kv.1 = keyI y)) = none := by
      rw [List.find?_eq_none]
      intro kv hkv
      obtain ⟨w, hw, rfl⟩ := List.mem_map.mp hkv
      intro e
      have : keyI (rwL S n w) = keyI y := of_decide_eq_true e
      exact z (List.mem_map.mpr ⟨w, hw, keyI_inj.mp this⟩)
    rw [this]
    rfl
theorem get_entK : ∀ {K : List Wd}, (K.map (rwL S n)).Nodup → ∀ {w}, w ∈ K → valD (K.map (entK S n)) (keyI (rwL S n w)) = some (upT w)
  | [], _, _, hw => nomatch hw
  | y :: K, nd, w, hw => by
    rw [List.map_cons] at nd
    obtain ⟨n1, n2⟩ := List.nodup_cons.mp nd
    unfold valD
    rcases List.mem_cons.mp hw with rfl | hk
    · simp [entK]
    · have ne : ¬ (keyI (rwL S n y) = keyI (rwL S n w)) := fun e => n1 (by
        rw [keyI_inj.mp e]
        exact List.mem_map.mpr ⟨w, hk, rfl⟩)
      rw [List.map_cons, List.find?_cons_of_neg (p := fun kv => decide (kv.1 = keyI (rwL S n w))) (a := entK S n y) (fun hd => ne (of_decide_eq_true hd))]
      exact get_entK n2 hk
theorem put_entK (K : List Wd) (w : Wd) (nin : rwL S n w ∉ K.map (rwL S n)) : putD (K.map (entK S n)) (keyI (rwL S n w)) (upT w) = (K ++ [w]).map (entK S n) := by
  have an : ((K.map (entK S n)).any fun kv => decide (kv.1 = keyI (rwL S n w))) = false := by
    rw [Bool.eq_false_iff]
    intro z
    obtain ⟨y, hy, e⟩ := List.any_eq_true.mp z
    obtain ⟨v, hv, rfl⟩ := List.mem_map.mp hy
    have e1 : keyI (rwL S n v) = keyI (rwL S n w) := of_decide_eq_true e
    exact nin (List.mem_map.mpr ⟨v, hv, keyI_inj.mp e1⟩)
  unfold putD
  rw [an]
  simp [entK]
theorem keysOf_entK (K : List Wd) : keysOf (K.map (entK S n)) = (K.map (rwL S n)).map tupI := by
  unfold keysOf
  rw [List.map_map, List.map_map]
  exact List.map_congr_left fun x _ => keyT_keyI _
theorem inT_entK (hh : AH) (k : Nat) (K : List Wd) (y : List Int) (g : hh[k]? = some (.dt (K.map (entK S n)))) (neg : Bool) : inT neg hh (tupI y) (.ref k) = some (.bl (neg ^^ decide (y ∈ K.map (rwL S n)))) := by
  have d : dtOf hh (.ref k) = some (K.map (entK S n)) := by unfold dtOf; simp only [g]
  unfold inT
  rw [d, Option.bind_some, keysD_tupI, Option.bind_some, has_entK]
theorem dgT_entK {hh : AH} {k : Nat} {K : List Wd} (g : dtOf hh (.ref k) = some (K.map (entK S n))) (nd : (K.map (rwL S n)).Nodup) {w : Wd} (hw : w ∈ K) : dgT hh (.ref k) (tupI (rwL S n w)) = some (upT w) := by
  unfold dgT
  rw [g, Option.bind_some, keysD_tupI, Option.bind_some, get_entK nd hw]
end
section
variable {h : AH} {b r n : Nat} {M : Nat → Nat → Int}
theorem ne_rows {hh : AH} {q : Nat} {l : List (List Int)} (g : hh[q]? = some (.lst (l.map tupI))) : opNe hh (.ref q) (.tl []) = some (.bl (!decide (l = []))) := by
  have e1 : ∃ ps, dataK hh 9 (.ref q) = some (.list ps) ∧ (ps = [] ↔ l = []) := by
    have : ∃ ps, allK (dataK hh 8) (l.map tupI) = some ps ∧ (ps = [] ↔ l = []) := by
      clear g
      induction l with
      | nil => exact ⟨[], rfl, by simp⟩
      | cons x l ih =>
        obtain ⟨ps, e, _⟩ := ih
        refine ⟨.tuple (x.map .int) :: ps, ?_, by simp⟩
        have dx : dataK hh 8 (tupI x) = some (.tuple (x.map .int)) := dataK_word hh 7 x
        simp only [List.map_cons, allK, dx, e]
    obtain ⟨ps, e, z⟩ := this
    exact ⟨ps, dataK_ref 8 g e, z⟩
  obtain ⟨ps, e1, z⟩ := e1
  have e2 : dataK hh 9 (.tl []) = some (.list []) := rfl
  unfold opNe eqD
  rw [e1, e2]
  cases l with
  | nil => rw [z.mpr rfl]; rfl
  | cons x l =>
    cases ps with
    | nil => exact absurd (z.mp rfl) (by simp)
    | cons p ps => rfl
theorem set_tail2 {h t : AH} {k : Nat} {o : AO} (hk : h.length ≤ k) : ∃ t', (h ++ t).set k o = h ++ t' := ⟨_, List.set_append_right _ _ hk⟩
abbrev rwT (T : Tab n M) (w : Wd) : D := tupI (rwL (sysOf T) n w)
theorem within_is (T : Tab n M) (R : RowsAt h r n M) {c : Wd} (C : Chosen n c) (n3 : n ≤ 3) (le9 : ∀ u, Lts n u → ell (sysOf T) u ≤ 9) :
    ∃ K t q, AllWi (sysOf T) n c K ∧ (∀ w ∈ K, w.length ≤ 9) ∧ K.length ≤ 100000 ∧ d2_law_within [.ref r, upT c] h = .ok (.ref q) (h ++ t) ∧ h.length ≤ q ∧ (h ++ t)[q]? = some (.lst (K.map upT)) := by
  have n1 := T.n1
  have n6 := T.n6
  have F := sysOf_fin T
  have cl := asc_len c C.lts C.asc
  have rl0 : bLen h [.ref r] = some (.int n) := R.len
  have few : ∀ {l : List Wd} {k : Nat}, k ≤ 10 → (l.map (rwL (sysOf T) n)).Nodup → (∀ w ∈ l, Wi c w ∧ w.length ≤ k) → l.length ≤ 100000 := fun {l k} hk nd hl => by
    have a1 := few_words nd (k := k) fun w hw => ⟨(hl w hw).1.lts C.lts, (hl w hw).2⟩
    have a2 := lsum_mono (n := n) hk
    have a3 : lsum n 10 ≤ 100000 := by
      have : n = 1 ∨ n = 2 ∨ n = 3 := by omega
      rcases this with rfl | rfl | rfl <;> decide
    omega
  unfold d2_law_within
  refine Runs.callE (P := fun out => ∃ K t q, AllWi (sysOf T) n c K ∧ (∀ w ∈ K, w.length ≤ 9) ∧ K.length ≤ 100000 ∧ out = .ok (.ref q) (h ++ t) ∧ h.length ≤ q ∧ (h ++ t)[q]? = some (.lst (K.map upT))) ?_
  (simp only [startE_eq, List.map_cons, List.map_nil, List.length_cons, List.length_nil, List.replicate, List.cons_append, List.nil_append])
  have ro := rep_one (h := h) n1 n6
  have eo : (D.tup ((List.replicate n (1 : Int)).map .int)) = rwT T [] := by
    show _ = tupI (lst n ones)
    unfold tupI lst ones
    rw [List.map_const', List.length_range]
  have pt : ∀ (z : List Int) h', promote (tupI z) h' = .ok (tupI z) h' := fun _ _ => rfl
  refine Runs.asg (d := rwT T []) (h1 := h) (by
    rw [pv_eq, evOp_eq, evTup_eq, evsV_cons, pv_eq, evC_eq, bind_ok, promote_int, bind_ok, evsV_nil, bind_ok, bind_ok]
    simp only [List.length_cons, List.length_nil]
    rw [if_pos (by decide), bind_ok, evB_eq, evs_cons, evVar_eq]
    simp only [List.getElem?_cons_zero, List.getElem?_cons_succ, ofV_some, bind_ok, evs_nil, rl0, ofO_some2, ro]
    rw [eo, pt]) ?_
  simp only [List.set_cons_succ, List.set_cons_zero]
  have big : (1 : Nat) ≤ 16777216 := by decide
  refine Runs.par2 (h1 := h ++ [.dt ([[]].map (entK (sysOf T) n))]) (h2 := h ++ [.dt ([[]].map (entK (sysOf T) n))] ++ [.lst ([[]].map (rwT T))]) (d := .ref h.length) (d' := .ref (h.length + 1)) (by
      rw [pv_eq]
      unfold evDispT
      rw [evVar_eq]
      simp only [List.getElem?_cons_zero, List.getElem?_cons_succ, ofV_some, bind_ok, pv_eq, evTup_eq, evsV_nil, List.length_nil, Nat.zero_le, if_true, promote_tup, rwT, keysD_tupI, promote_ref]
      rfl) (by
      rw [pv_eq, evLst_eq, evsV_cons, pv_eq, evVar_eq]
      simp only [List.getElem?_cons_zero, List.getElem?_cons_succ, ofV_some, bind_ok, evsV_nil]
      rw [pt, bind_ok, bind_ok]
      simp only [List.length_cons, List.length_nil, Nat.zero_add, if_pos big, bind_ok, promote_tl, List.length_append]
      rfl) ?_
  simp only [List.set_cons_succ, List.set_cons_zero]
  have eh : h ++ [.dt ([[]].map (entK (sysOf T) n))] ++ [.lst ([[]].map (rwT T))] = h ++ [.dt ([[]].map (entK (sysOf T) n)), .lst ([[]].map (rwT T))] := by simp
  rw [eh]
  clear eh
  have rwmap : ∀ l : List Wd, l.map (rwT T) = (l.map (rwL (sysOf T) n)).map tupI := fun l => by rw [List.map_map]; rfl
  refine Runs.while (fun i e hh => ∃ k t K fr qf x5 x6 x7 x8, k + i = 10 ∧ e = [some (.ref r), some (upT c), some (rwT T []), some (.ref h.length), some (.ref qf), x5, x6, x7, x8] ∧ hh = h ++ t ∧ LcOk (sysOf T) n c k K fr ∧ hh[h.length]? = some (.dt (K.map (entK (sysOf T) n))) ∧ hh[qf]? = some (.lst (fr.map (rwT T))) ∧ h.length < qf) ?_ 100000 10 _ _ (by omega)
    ⟨0, [.dt ([[]].map (entK (sysOf T) n)), .lst ([[]].map (rwT T))], [[]], [[]], h.length + 1, none, none, none, none, rfl, rfl, rfl, LcOk.zero, by simp, by simp, by omega⟩
  rintro i e hh ⟨k, t, K, fr, qf, x5, x6, x7, x8, ki, rfl, rfl, L, gk, gf, hq⟩
  have kl := (List.getElem?_eq_some_iff.mp gk).1
  have fl := (List.getElem?_eq_some_iff.mp gf).1
  have gf' := gf
  rw [rwmap] at gf'
  have ne := ne_rows gf'
  by_cases fe : fr = []
  · -- the end
    left
    subst fe
    rw [List.map_nil, decide_eq_true rfl] at ne
    refine ⟨h ++ t, by
      rw [tvOf_eq, evOp_eq, evVar_eq]
      simp only [List.getElem?_cons_zero, List.getElem?_cons_succ, ofV_some, bind_ok, evLst_eq, evsV_nil, List.length_nil, Nat.zero_le, if_true, ne, ofO_some2, tv_bl]
      rfl, ?_⟩
    have A := L.done
    have k9 : ∀ w ∈ K, w.length ≤ 9 := fun w hw => by
      have := le9 w ((A.wi w hw).1.lts C.lts)
      rwa [ell_short (A.wi w hw).2] at this
    have Kf := few (l := K) (k := 9) (by omega) A.nd fun w hw => ⟨(A.wi w hw).1, k9 w hw⟩
    obtain ⟨t2, e2⟩ := set_tail2 (h := h) (t := t) (k := h.length) (o := .fz (K.map (entK (sysOf T) n))) (Nat.le_refl _)
    have dt : dtOf (h ++ t2) (.ref h.length) = some (K.map (entK (sysOf T) n)) := by
      rw [← e2]
      unfold dtOf
      simp only [List.getElem?_set_self kl]
    have iv : ivKeys (evVar 3) [some (.ref r), some (upT c), some (rwT T []), some (.ref h.length), some (.ref qf), x5, x6, x7, x8] (h ++ t) = .ok { xs := (K.map (rwL (sysOf T) n)).map tupI } (h ++ t2) := by
      unfold ivKeys
      rw [evVar_eq]
      simp only [List.getElem?_cons_zero, List.getElem?_cons_succ, ofV_some, bind_ok, gk, keysOf_entK, e2]
    have lcg := lcGo_onM (g := none) (gv := Tgt.gv (.one 6)) (elt := evDgT (evVar 3) (evVar 6)) (e := wipeE [some (.ref r), some (upT c), some (rwT T []), some (.ref h.length), some (.ref qf), x5, x6, x7, x8] (Tgt.own (.one 6))) (h := h ++ t2) (fun w => rwT T w) upT K rfl (fun w hw => by
      have dg := dgT_entK dt A.nd hw
      refine ⟨_, rfl, ?_⟩
      show pv _ [some (.ref r), some (upT c), some (rwT T []), some (.ref h.length), some (.ref qf), x5, some (rwT T w), x7, x8] (h ++ t2) = _
      rw [pv_eq]
      unfold evDgT
      rw [evVar_eq]
      simp only [List.getElem?_cons_zero, List.getElem?_cons_succ, ofV_some, bind_ok, evVar_eq, dg, ofO_some2, promote_upT])
    rw [rwmap] at lcg
    refine Runs.last fun Q' hQ => ?_
    rw [svRet_eq, evLc_eq, iv, bind_ok]
    simp only
    rw [if_pos (by rw [List.length_map, List.length_map]; omega), lcg, bind_ok, toFl_ok]
    subst hQ
    dsimp only
    rw [fin_ret, fin_tl]
    exact ⟨K, t2 ++ [.lst (K.map upT)], (h ++ t2).length, A, k9, Kf, by rw [List.append_assoc], by simp, by rw [← List.append_assoc]; simp⟩
  · -- a level
    right
    rw [decide_eq_false (by simpa using fe)] at ne
    have k9 : k ≤ 9 := by
      obtain ⟨w, hw⟩ := List.exists_mem_of_ne_nil fr fe
      obtain ⟨wK, wl⟩ := L.wf w hw
      obtain ⟨w1, w2, w3⟩ := L.wk w wK
      have := le9 w (w1.lts C.lts)
      rw [ell_short w2] at this
      omega
    refine ⟨h ++ t, i - 1, by omega, by
      rw [tvOf_eq, evOp_eq, evVar_eq]
      simp only [List.getElem?_cons_zero, List.getElem?_cons_succ, ofV_some, bind_ok, evLst_eq, evsV_nil, List.length_nil, Nat.zero_le, if_true, ne, ofO_some2, tv_bl]
      rfl, ?_⟩
    refine Runs.asg (d := .ref (h ++ t).length) (h1 := h ++ (t ++ [.lst (([] : List Wd).map (rwT T))])) (by
      rw [pv_eq, evLst_eq, evsV_nil, bind_ok]
      simp only [List.length_nil, Nat.zero_le, if_true, bind_ok, promote_tl, List.append_assoc, List.map_nil]) ?_
    simp only [List.set_cons_succ, List.set_cons_zero]
    have gk1 : (h ++ (t ++ [AO.lst (([] : List Wd).map (rwT T))]))[h.length]? = some (.dt ((K ++ []).map (entK (sysOf T) n))) := by rw [← List.append_assoc, List.getElem?_append_left kl, List.append_nil]; exact gk
    have gq1 : (h ++ (t ++ [AO.lst (([] : List Wd).map (rwT T))]))[qf]? = some (.lst (fr.map (rwT T))) := by rw [← List.append_assoc, List.getElem?_append_left fl]; exact gf
    have ga1 : (h ++ (t ++ [AO.lst (([] : List Wd).map (rwT T))]))[(h ++ t).length]? = some (.lst (([] : List Wd).map (rwT T))) := by rw [← List.append_assoc, List.getElem?_concat_length]
    have a1 : h.length < (h ++ t).length := by omega
    have a3 : (h ++ t).length ≠ qf := by omega
    generalize (h ++ t).length = ql at *
    generalize (t ++ [AO.lst (([] : List Wd).map (rwT T))]) = t1 at *
    have fewM : ∀ {i2 : Nat} {J : Wd} {la : List Wd}, LcMid (sysOf T) n c k K fr i2 J la → (K ++ la).length ≤ 100000 := fun m => few (k := k + 1) (by omega) m.nk fun w hw => by
      rcases List.mem_append.mp hw with z | z
      · obtain ⟨w1, _, w3⟩ := L.wk w z
        exact ⟨w1, by omega⟩
      · obtain ⟨w1, _, w3⟩ := m.wl w z
        exact ⟨w1, by omega⟩
    clear gk gf gf' kl fl
    -- the rows
    refine Runs.loop (it := { xs := fr.map (rwT T), g := some (qf, .lst (fr.map (rwT T))) }) (h1 := h ++ t1)
      (fun i2 e hh => ∃ t la x6 x7 x8, e = [some (.ref r), some (upT c), some (rwT T []), some (.ref h.length), some (.ref qf), some (.ref ql), x6, x7, x8] ∧ hh = h ++ t ∧ LcMid (sysOf T) n c k K fr i2 [] la ∧ hh[h.length]? = some (.dt ((K ++ la).map (entK (sysOf T) n))) ∧ hh[qf]? = some (.lst (fr.map (rwT T))) ∧ hh[ql]? = some (.lst (la.map (rwT T))))
      (ivSeq_of (d := .ref qf) rfl (itsOf_ref gq1)) ⟨t1, [], _, _, _, rfl, rfl, LcMid.start L, gk1, gq1, ga1⟩ (fun _ _ _ _ ⟨_, _, _, _, _, _, _, _, _, g, _⟩ => guardOk_some g) ?_ ?_
    · rintro i2 d e hh hd ⟨t2, la, x6, x7, x8, rfl, rfl, m, gk, gf, ga⟩
      rw [List.getElem?_map] at hd
      obtain ⟨x, hx, rfl⟩ := Option.map_eq_some_iff.mp hd
      refine ⟨_, _, rfl, ?_⟩
      simp only [List.set_cons_succ, List.set_cons_zero]
      obtain ⟨xK, xl⟩ := L.wf x (List.mem_of_getElem? hx)
      obtain ⟨xw, xs, _⟩ := L.wk x xK
      -- the letters
      refine Runs.loop1 (it := { xs := (up c).map .int }) (h1 := h ++ t2)
        (fun j e hh => ∃ t la x7 x8, e = [some (.ref r), some (upT c), some (rwT T []), some (.ref h.length), some (.ref qf), some (.ref ql), some (rwT T x), x7, x8] ∧ hh = h ++ t ∧ LcMid (sysOf T) n c k K fr i2 (c.take j) la ∧ hh[h.length]? = some (.dt ((K ++ la).map (entK (sysOf T) n))) ∧ hh[qf]? = some (.lst (fr.map (rwT T))) ∧ hh[ql]? = some (.lst (la.map (rwT T))))
        (ivSeq_of (d := upT c) rfl (itsOf_tup _ _)) ⟨t2, la, _, _, rfl, rfl, by rw [List.take_zero]; exact m, gk, gf, ga⟩ (fun _ _ _ _ _ => rfl) ?_ ?_
      · rintro j d e hh hd ⟨t3, la3, y7, y8, rfl, rfl, m3, gk3, gf3, ga3⟩
        have hd2 : ∃ a, c[j]? = some a ∧ d = .int ((a : Int) + 1) := by
          unfold up at hd
          rw [List.getElem?_map, List.getElem?_map] at hd
          cases hc : c[j]? with
          | none => rw [hc] at hd; cases hd
          | some a => rw [hc] at hd; cases hd; exact ⟨a, rfl, rfl⟩
        obtain ⟨a, hc, rfl⟩ := hd2
        have ac := List.mem_of_getElem? hc
        have an := C.lts a ac
        refine ⟨_, _, rfl, ?_⟩
        simp only [List.set_cons_succ, List.set_cons_zero]
        have tk : c.take (j + 1) = c.take j ++ [a] := by rw [List.take_add_one, hc]; rfl
        have pr := pressed2_is T (R.app t3) (row (sysOf T) x) (a := (a : Int) + 1) (by omega) (by omega)
        rw [show ((a : Int) + 1).toNat - 1 = a by omega, ← row_snoc, rwL_tup, rwL_tup] at pr
        refine Runs.asg (d := rwT T (x ++ [a])) (h1 := h ++ t3) (by
          rw [pv_eq, evCall_eq]
          simp only [evsV_cons, evsV_nil, pv_eq, evVar_eq, List.getElem?_cons_zero, List.getElem?_cons_succ, ofV_some, bind_ok, promote_ref, promote_int]
          rw [pt, bind_ok, bind_ok, bind_ok, pr, bind_ok, pt]) ?_
        simp only [List.set_cons_succ, List.set_cons_zero]
        have it := inT_entK (S := sysOf T) (n := n) (h ++ t3) h.length (K ++ la3) (rwL (sysOf T) n (x ++ [a])) gk3 true
        have te : ∀ (e : Env), e[8]? = some (some (rwT T (x ++ [a]))) → e[3]? = some (some (.ref h.length)) → tvOf (evOp (inT true) (evVar 8) (evVar 3)) e (h ++ t3) = .ok (!decide (rwL (sysOf T) n (x ++ [a]) ∈ (K ++ la3).map (rwL (sysOf T) n))) (h ++ t3) := fun e e1 e2 => by
          rw [tvOf_eq, evOp_eq, evVar_eq, e1, ofV_some, bind_ok, evVar_eq, e2, ofV_some, bind_ok, it, ofO_some2, bind_ok, tv_bl, Bool.true_xor]
        refine Runs.last fun Q' hQ => ?_
        rw [svIf_eq, te _ rfl rfl, toFl_ok]
        by_cases isin : rwL (sysOf T) n (x ++ [a]) ∈ (K ++ la3).map (rwL (sysOf T) n)
        · rw [decide_eq_true isin, if_neg (by simp), svNil_eq]
          subst hQ
          exact ⟨_, _, rfl, t3, la3, _, _, rfl, rfl, by rw [tk]; exact m3.skip hx isin, gk3, gf3, ga3⟩
        · rw [decide_eq_false isin, if_pos (by simp)]
          have dtf : dtOf (h ++ t3) (.ref h.length) = some ((K ++ la3).map (entK (sysOf T) n)) := by unfold dtOf; simp only [gk3]
          have dg := dgT_entK dtf m3.nk (w := x) (List.mem_append_left _ xK)
          have x60 : x.length ≤ 900 := by omega
          have ad := add_upT (h ++ t3) x a x60
          have few3 := fewM m3
          have pw := put_entK (K ++ la3) (x ++ [a]) isin
          have dp := dputT_at (fo := evVar 3) (fi := evVar 8) (fv := evOp opAdd (evDgT (evVar 3) (evVar 6)) (evTup [(evVar 7)])) (e := [some (.ref r), some (upT c), some (rwT T []), some (.ref h.length), some (.ref qf), some (.ref ql), some (rwT T x), some (.int ((a : Int) + 1)), some (rwT T (x ++ [a]))]) (h := h ++ t3) (h1 := h ++ t3) (h2 := h ++ t3) (h3 := h ++ t3) (d := upT (x ++ [a])) (by
            rw [pv_eq, evOp_eq]
            unfold evDgT
            rw [evVar_eq]
            simp only [List.getElem?_cons_zero, List.getElem?_cons_succ, ofV_some, bind_ok, evVar_eq, dg, ofO_some2, evTup_eq, evsV_cons, evsV_nil, pv_eq, promote_int, List.length_cons, List.length_nil, Nat.zero_add, if_pos big, ad, promote_upT]) rfl rfl gk3 (keysD_tupI _) (by rw [List.length_map]; omega)
          rw [pw, List.append_assoc] at dp
          have kl3 := (List.getElem?_eq_some_iff.mp gk3).1
          have al3 := (List.getElem?_eq_some_iff.mp ga3).1
          have ga4 : ((h ++ t3).set h.length (.dt ((K ++ (la3 ++ [x ++ [a]])).map (entK (sysOf T) n))))[ql]? = some (.lst (la3.map (rwT T))) := by rw [List.getElem?_set_ne (by omega)]; exact ga3
          have ap := append_big (f := evVar 5) (g := evVar 8) (e := [some (.ref r), some (upT c), some (rwT T []), some (.ref h.length), some (.ref qf), some (.ref ql), some (rwT T x), some (.int ((a : Int) + 1)), some (rwT T (x ++ [a]))]) (h := (h ++ t3).set h.length (.dt ((K ++ (la3 ++ [x ++ [a]])).map (entK (sysOf T) n)))) (d := rwT T (x ++ [a])) rfl ga4 rfl ga4 (by rw [List.length_map]; rw [List.length_append] at few3; omega)
          rw [svSeq_eq, dp, seq_nx, svExpr_eq, ap, toFl_ok]
          subst hQ
          obtain ⟨t4, e4⟩ := set_tail2 (h := h) (t := t3) (k := h.length) (o := .dt ((K ++ (la3 ++ [x ++ [a]])).map (entK (sysOf T) n))) (Nat.le_refl _)
          obtain ⟨t5, e5⟩ := set_tail2 (h := h) (t := t4) (k := ql) (o := .lst (la3.map (rwT T) ++ [rwT T (x ++ [a])])) (by omega)
          rw [← e4] at e5
          refine ⟨_, _, rfl, t5, la3 ++ [x ++ [a]], _, _, rfl, e5, by rw [tk]; exact m3.add F C.lts L hx ac isin, ?_, ?_, ?_⟩
          · rw [List.getElem?_set_ne (by omega), List.getElem?_set_self kl3]
          · rw [List.getElem?_set_ne (by omega), List.getElem?_set_ne (by omega)]; exact gf3
          · rw [List.getElem?_set_self (by rw [List.length_set]; exact al3)]
            simp
      · rintro e hh ⟨t3, la3, y7, y8, rfl, rfl, m3, gk3, gf3, ga3⟩
        rw [List.length_map, up_length, List.take_length] at m3
        exact ⟨_, _, rfl, t3, la3, _, _, _, rfl, rfl, m3.next, gk3, gf3, ga3⟩
    · rintro e hh ⟨t2, la, x6, x7, x8, rfl, rfl, m, gk, gf, ga⟩
      rw [List.length_map] at m
      have L' := m.fin F C.lts L
      refine Runs.last fun Q' hQ => ?_
      rw [svAsg_eq, pv_eq, evVar_eq]
      simp only [List.getElem?_cons_zero, List.getElem?_cons_succ, ofV_some, bind_ok, promote_ref, toFl_ok, gvName_eq, nxE_ok]
      subst hQ
      exact ⟨_, _, rfl, k + 1, t2, K ++ la, la, ql, _, _, _, _, by omega, rfl, rfl, L', gk, ga, a1⟩
end
end BW

set_option Elab.async false
set_option linter.all false
namespace Cox
section
variable {S : Sys} {I J : Nat → Prop}
def Dbl (S : Sys) (I J : Nat → Prop) (d x : Wd) : Prop := ∃ a b, In I a ∧ In J b ∧ Alike S x (a ++ d ++ b)
theorem Dbl.refl (d : Wd) : Dbl S I J d d := ⟨[], [], In.nil I, In.nil J, by simpa using Alike.refl d⟩
theorem In.sub {u v : Wd} (h : In I v) (s : u.Sublist v) : In I u := fun a ha => h a (s.subset ha)
theorem undo_both {a d b x : Wd} (h : Alike S x (a ++ d ++ b)) : Alike S d (a.reverse ++ x ++ b.reverse) := by
  have h1 := (h.left a.reverse).right b.reverse
  have h2 : Alike S (a.reverse ++ (a ++ d ++ b) ++ b.reverse) d := by
    have e : a.reverse ++ (a ++ d ++ b) ++ b.reverse = (a.reverse ++ a) ++ d ++ (b ++ b.reverse) := by simp
    rw [e]
    have z1 := ((undo_left (S := S) a).right d).right (b ++ b.reverse)
    have z2 := (undo_right (S := S) b).left d
    simp only [List.nil_append, List.append_nil] at z1 z2
    exact z1.trans z2
  exact (h1.trans h2).symm
theorem Dbl.symm {d x : Wd} (h : Dbl S I J d x) : Dbl S I J x d := by
  obtain ⟨a, b, ha, hb, e⟩ := h
  exact ⟨a.reverse, b.reverse, ha.rev, hb.rev, undo_both e⟩
theorem Dbl.trans {d x y : Wd} (h : Dbl S I J d x) (g : Dbl S I J x y) : Dbl S I J d y := by
  obtain ⟨a, b, ha, hb, e⟩ := h
  obtain ⟨a', b', ha', hb', e'⟩ := g
  refine ⟨a' ++ a, b ++ b', ha'.app ha, hb.app hb', e'.trans ?_⟩
  have := (e.left a').right b'
  simpa [List.append_assoc] using this
theorem Dbl.congr {d x y : Wd} (h : Dbl S I J d x) (e : Alike S x y) : Dbl S I J d y := by
  obtain ⟨a, b, ha, hb, z⟩ := h
  exact ⟨a, b, ha, hb, e.symm.trans z⟩
theorem dbl_least (d : Wd) : ∃ m, Short S m ∧ Dbl S I J d m ∧ ∀ x, Dbl S I J d x → m.length ≤ ell S x := by
  have : ∀ k, ∀ y, Dbl S I J d y → ell S y ≤ k → ∃ m, Short S m ∧ Dbl S I J d m ∧ ∀ x, Dbl S I J d x → m.length ≤ ell S x := by
    intro k
    induction k with
    | zero =>
      intro y hy h0
      obtain ⟨z, _, sz, az⟩ := ex_red (S := S) y
      have lz : z.length = ell S y := by rw [← ell_short sz, ell_congr az]
      exact ⟨z, sz, hy.congr az.symm, fun x _ => by omega⟩
    | succ k ih =>
      intro y hy hk
      by_cases h : ∃ x, Dbl S I J d x ∧ ell S x ≤ k
      · obtain ⟨x, hx, hl⟩ := h
        exact ih x hx hl
      · obtain ⟨z, _, sz, az⟩ := ex_red (S := S) y
        have lz : z.length = ell S y := by rw [← ell_short sz, ell_congr az]
        refine ⟨z, sz, hy.congr az.symm, fun x hx => ?_⟩
        have : ¬ ell S x ≤ k := fun q => h ⟨x, hx, q⟩
        omega
  exact this (ell S d) d (Dbl.refl d) (Nat.le_refl _)
theorem dbl_add {m x : Wd} (sm : Short S m) (least : ∀ y, Dbl S I J m y → m.length ≤ ell S y) (h : Dbl S I J m x) : ∃ a b, In I a ∧ In J b ∧ Alike S x (a ++ m ++ b) ∧ Short S (a ++ m ++ b) := by
  obtain ⟨a, b, ha, hb, e⟩ := h
  obtain ⟨z, sz, shz, az⟩ := ex_red (S := S) (a ++ m ++ b)
  obtain ⟨z1, z2, rfl, s12, s3⟩ := List.sublist_append_iff.mp sz
  obtain ⟨y1, y2, rfl, s1, s2⟩ := List.sublist_append_iff.mp s12
  have i1 : In I y1 := ha.sub s1
  have i3 : In J z2 := hb.sub s3
  have hx : Dbl S I J m x := ⟨a, b, ha, hb, e⟩
  have e2 : Alike S x (y1 ++ y2 ++ z2) := e.trans az.symm
  have hy : Dbl S I J m y2 := hx.trans ⟨y1.reverse, z2.reverse, i1.rev, i3.rev, undo_both e2⟩
  have l := least _ hy
  have l2 : ell S y2 ≤ y2.length := ell_le y2
  have ey : y2 = m := s2.eq_of_length_le (by omega)
  rw [ey] at e2 shz
  exact ⟨y1, z2, i1, i3, e2, shz⟩
theorem dbl_uniq {d x : Wd} (nI : ∀ c, I c → ell S (c :: d) = ell S d + 1) (nJ : ∀ c, J c → ell S (d ++ [c]) = ell S d + 1) (h : Dbl S I J d x) : ell S d ≤ ell S x ∧ (ell S x = ell S d → Alike S x d) := by
  obtain ⟨m, sm, hm, least⟩ := dbl_least (S := S) (I := I) (J := J) d
  have least' : ∀ y, Dbl S I J m y → m.length ≤ ell S y := fun y hy => least y (hm.trans hy)
  -- d is m
  have dm : Alike S d m := by
    obtain ⟨a, b, ia, ib, e, sh⟩ := dbl_add sm least' hm.symm
    have ld : ell S d = (a ++ m ++ b).length := by rw [ell_congr e, ell_short sh]
    cases a with
    | cons c a =>
      exfalso
      have := nI c (ia c List.mem_cons_self)
      have z : Alike S (c :: d) (a ++ m ++ b) := (e.left [c]).trans (twoL c (a ++ m ++ b))
      have l1 := ell_le (S := S) (a ++ m ++ b)
      rw [ell_congr z] at this
      simp at ld l1 this
      omega
    | nil =>
      rcases List.eq_nil_or_concat b with rfl | ⟨b', c, rfl⟩
      · simpa using e
      · exfalso
        rw [List.concat_eq_append] at *
        have := nJ c (ib c (by simp))
        have z : Alike S (d ++ [c]) ([] ++ m ++ b') := by
          have z1 := e.right [c]
          have e1 : ([] ++ m ++ (b' ++ [c])) ++ [c] = ([] ++ m ++ b') ++ [c] ++ [c] := by simp
          rw [e1] at z1
          exact z1.trans (out_end _ c)
        have l1 := ell_le (S := S) ([] ++ m ++ b')
        rw [ell_congr z] at this
        simp at ld l1 this
        omega
  have lm : ell S d = m.length := by rw [ell_congr dm, ell_short sm]
  refine ⟨by rw [lm]; exact least x h, fun el => ?_⟩
  obtain ⟨a, b, ia, ib, e, sh⟩ := dbl_add sm least' (hm.symm.trans h)
  have lx : ell S x = (a ++ m ++ b).length := by rw [ell_congr e, ell_short sh]
  have la : a = [] := by
    simp at lx
    exact List.length_eq_zero_iff.mp (by omega)
  have lb : b = [] := by
    simp at lx
    exact List.length_eq_zero_iff.mp (by omega)
  rw [la, lb] at e
  exact (by simpa using e : Alike S x m).trans dm.symm
end
end Cox

set_option Elab.async false
set_option linter.all false
namespace Cox
section
variable {S : Sys} {n : Nat} {I J : Wd}
def dbF (S : Sys) (n : Nat) (I J u : Wd) : Wd := front S n I (front S n J u).reverse
def dbW (S : Sys) (n : Nat) (I J u : Wd) : Wd := least S n (dbF S n I J u).reverse
structure DbOk (S : Sys) (n : Nat) (I J u d : Wd) : Prop where
  lts : Lts n d
  lst : least S n d = d
  len : d.length ≤ ell S u
  sh : Short S d
  dbl : Dbl S (· ∈ I) (· ∈ J) d u
  nI : ∀ c ∈ I, ell S (c :: d) = ell S d + 1
  nJ : ∀ c ∈ J, ell S (d ++ [c]) = ell S d + 1
theorem no_end {u c : Wd} (h : endsN c (row S u) = []) {a : Nat} (ha : a ∈ c) : ell S (u ++ [a]) = ell S u + 1 := by
  rcases ell_step (S := S) u a with z | z
  · exact z
  · exfalso
    have : a ∈ endsN c (row S u) := mem_endsN.mpr ⟨ha, (row_neg_iff u a).mpr (by omega)⟩
    rw [h] at this
    exact nomatch this
theorem no_end' {u c : Wd} (h : ∀ a ∈ c, ell S (u ++ [a]) = ell S u + 1) : endsN c (row S u) = [] := by
  unfold endsN
  rw [List.filter_eq_nil_iff]
  intro a ha z
  have z1 := of_decide_eq_true z
  have z2 := (row_neg_iff u a).mp z1
  have := h a ha
  omega
theorem dbW_ok (F : S.Fin n) (hI : Lts n I) (hJ : Lts n J) {u : Wd} (hu : Lts n u) (hl : ell S u ≤ 60) : DbOk S n I J u (dbW S n I J u) := by
  obtain ⟨P, lg, lr, _, _⟩ := parts F hJ hu hl
  unfold dbW dbF
  generalize front S n J u = g at *
  generalize rest S n J u = r2 at *
  have eg : ell S g.reverse = g.length := by rw [ell_rev, ell_short P.sf]
  have pl := P.len
  obtain ⟨P2, lf, lr1, _, _⟩ := parts F hI lg.rev (by omega)
  generalize front S n I g.reverse = f at *
  generalize rest S n I g.reverse = r1 at *
  have pl2 := P2.len
  rw [eg] at pl2
  have ef : ell S f.reverse = f.length := by rw [ell_rev, ell_short P2.sf]
  obtain ⟨al, sl, ll, Ll⟩ := least_facts (S := S) (n := n) F (u := f.reverse) (Lts.rev lf) (by omega)
  have ed : ell S (least S n f.reverse) = f.length := by rw [ell_congr al, ef]
  have lls := least_congr (S := S) (n := n) al
  generalize least S n f.reverse = d at *
  have ag : Alike S g (r1.reverse ++ f.reverse) := by
    have := P2.al.rev
    rwa [List.reverse_reverse, List.reverse_append] at this
  have agd : Alike S g (r1.reverse ++ d) := ag.trans (al.symm.left _)
  refine ⟨Ll, lls, by omega, sl, ⟨r1.reverse, r2, fun a ha => P2.within a (List.mem_reverse.mp ha), P.within, P.al.trans (agd.right _)⟩, fun c hc => ?_, fun c hc => ?_⟩
  · have h1 := no_end P2.ahead hc
    have h2 : ell S (c :: d) = ell S (f ++ [c]) := by
      have : Alike S (c :: d) ([c] ++ f.reverse) := al.left [c]
      rw [ell_congr this, ← ell_rev]
      simp
    rw [h2, h1, ed, ell_short P2.sf]
  · rcases ell_step (S := S) d c with z | z
    · exact z
    · exfalso
      have h1 := no_end P.ahead hc
      have h2 : ell S (g ++ [c]) ≤ r1.length + ell S (d ++ [c]) := by
        have a : Alike S (g ++ [c]) (r1.reverse ++ (d ++ [c])) := by
          have := agd.right [c]
          rwa [List.append_assoc] at this
        have b := ell_app (S := S) r1.reverse (d ++ [c])
        have b2 := ell_le (S := S) r1.reverse
        rw [List.length_reverse] at b2
        rw [ell_congr a]; omega
      rw [ell_short P.sf] at h1
      omega
theorem dbW_same (F : S.Fin n) (hI : Lts n I) (hJ : Lts n J) {u v : Wd} (hu : Lts n u) (hl : ell S u ≤ 60) (hv : Lts n v) (kl : ell S v ≤ 60) (h : Dbl S (· ∈ I) (· ∈ J) u v) : dbW S n I J v = dbW S n I J u := by
  have A := dbW_ok F hI hJ hu hl
  have B := dbW_ok F hI hJ hv kl
  generalize dbW S n I J u = d at *
  generalize dbW S n I J v = e at *
  have z : Dbl S (· ∈ I) (· ∈ J) d e := (A.dbl.trans h).trans B.dbl.symm
  obtain ⟨a1, a2⟩ := dbl_uniq A.nI A.nJ z
  obtain ⟨b1, _⟩ := dbl_uniq B.nI B.nJ z.symm
  have := a2 (by omega)
  rw [← A.lst, ← B.lst]
  exact least_congr this
end
end Cox

set_option Elab.async false
set_option linter.all false
set_option maxRecDepth 100000
set_option maxHeartbeats 4000000
namespace BW
open PySem Cox
section
variable {h : AH} {b r n : Nat} {M : Nat → Nat → Int}
theorem leastBetween_is (T : Tab n M) (B : BondsAt h b n M) {I J : Wd} (CI : Chosen n I) (CJ : Chosen n J) {d : D} {w : List Int} (W : WordAt h d w) (hw : Letters n w) (hl : w.length ≤ 60) : d_least_between [.ref b, upT I, d, upT J] h = .ok (upT (dbW (sysOf T) n I J (wd w))) h := by
  have n6 := T.n6
  have F := sysOf_fin T
  have he := ell60 T hl
  have p1 := partedBy_is T B CJ W hw hl
  obtain ⟨P, lg, lr, _, _⟩ := parts F CJ.lts (wd_lts hw) he
  have pl := P.len
  have wl := ell_le (S := sysOf T) (wd w)
  rw [wd_length] at wl
  have p2 := partedBy_is T B CI (wordU h (front (sysOf T) n J (wd w)).reverse) (up_letters (Lts.rev lg)) (by rw [up_length, List.length_reverse]; omega)
  rw [wd_up] at p2
  have eg : ell (sysOf T) (front (sysOf T) n J (wd w)).reverse = (front (sysOf T) n J (wd w)).length := by rw [ell_rev, ell_short P.sf]
  obtain ⟨P2, lf, lr2, _, _⟩ := parts F CI.lts (Lts.rev lg) (by omega)
  have pl2 := P2.len
  rw [eg] at pl2
  have s1 := shortestBy_is T B (wordU h (front (sysOf T) n I (front (sysOf T) n J (wd w)).reverse).reverse) (up_letters (Lts.rev lf)) (by rw [wd_up]; exact Nat.le_trans (ell_le _) (by rw [List.length_reverse]; omega))
  rw [wd_up] at s1
  unfold d_least_between
  refine Runs.call ?_
  (simp only [startE_eq, List.map_cons, List.map_nil, List.length_cons, List.length_nil, List.replicate, List.cons_append, List.nil_append])
  (refine Runs.step fun K Q' hK hQ => ?_; simp [W.prom, needWord B (by omega) W hw hl]; subst hK hQ)
  (refine Runs.step fun K Q' hK hQ => ?_; simp [needChoice_is B n6 CI]; subst hK hQ)
  (refine Runs.step fun K Q' hK hQ => ?_; simp [needChoice_is B n6 CJ]; subst hK hQ)
  (refine Runs.step fun K Q' hK hQ => ?_; simp [W.prom, p1]; subst hK hQ)
  (refine Runs.last fun Q' hQ => ?_; simp [p2, s1]; subst hQ; try dsimp only)
  unfold dbW dbF
  simp
theorem front2_is (T : Tab n M) (R : RowsAt h r n M) {c : Wd} (C : Chosen n c) {d : D} {w : List Int} (W : WordAt h d w) (hw : Letters n w) (hl : w.length ≤ 60) :
    ∃ t, d2_law_front [.ref r, d, upT c] h = .ok (.ref h.length) (h ++ .lst ((w ++ up (prt (sysOf T) c 60 (row (sysOf T) (wd w))).1).map .int) :: t) := by
  have n1 := T.n1
  have n6 := T.n6
  have F := sysOf_fin T
  have he := ell60 T hl
  have cl := asc_len c C.lts C.asc
  have rw1 := row2_is T R W hw
  have wl := W.list
  have fu := prt_fuel F C.lts 70 60 (wd w) (wd_lts hw) (by omega) he
  unfold d2_law_front
  refine Runs.callE (P := fun out => ∃ t, out = .ok (.ref h.length) (h ++ .lst ((w ++ up (prt (sysOf T) c 60 (row (sysOf T) (wd w))).1).map .int) :: t)) ?_
  (simp only [startE_eq, List.map_cons, List.map_nil, List.length_cons, List.length_nil, List.replicate, List.cons_append, List.nil_append])
  refine Runs.par2 (h1 := h) (h2 := h ++ [.lst (w.map .int)]) (d := rowT n (row (sysOf T) (wd w))) (d' := .ref h.length) (by simp [W.prom, rw1]) (by simp [wl]) ?_
  simp only [List.set_cons_succ, List.set_cons_zero]
  refine Runs.loop (it := { xs := rangeD 0 70 }) (h1 := h ++ [.lst (w.map .int)]) (fun i e hh => ∃ (x : Wd) (t : AH) (x5 x6 x7 : Option D), e = [some (.ref r), some d, some (upT c), some (rowT n (row (sysOf T) (wd w ++ x))), some (.ref h.length), x5, x6, x7] ∧ hh = h ++ AO.lst ((w ++ up x).map .int) :: t ∧ (prt (sysOf T) c 70 (row (sysOf T) (wd w))).1 = x ++ (prt (sysOf T) c (70 - i) (row (sysOf T) (wd w ++ x))).1 ∧ Lts n x ∧ x.length ≤ i)
    (ivR1_of (n := 70) rfl (by omega)) ⟨[], [], none, none, none, by simp, by simp [up], by simp, Cox.lts_nil n, by simp⟩ (fun _ _ _ _ _ => rfl) ?_ ?_
  · rintro i d0 e hh hd ⟨x, t, x5, x6, x7, rfl, rfl, hp, lx, xl⟩
    obtain ⟨hi, rfl⟩ := rangeD_get hd
    refine ⟨_, _, rfl, ?_⟩
    simp only [List.set_cons_succ, List.set_cons_zero]
    have lc := evLc_on (iv := ivSeq (evVar 2)) (own := Tgt.own (.one 7)) (gv := Tgt.gv (.one 7)) (tt := tvOf (evOp opLt (evOp opIx (evVar 3) (evOp opSub (evVar 7) (evC (.int 1)))) (evC (.int 0)))) (elt := evVar 7) (e := [some (.ref r), some d, some (upT c), some (rowT n (row (sysOf T) (wd w ++ x))), some (.ref h.length), some (.int (0 + (i : Int))), x6, x7]) (h := h ++ AO.lst ((w ++ up x).map .int) :: t) none (fun (a : Nat) => D.int ((a : Int) + 1)) (fun a => decide (row (sysOf T) (wd w ++ x) a < 0)) (fun (a : Nat) => D.int ((a : Int) + 1)) c (by rw [up_map]; exact ivSeq_of (d := upT c) rfl (itsOf_tup _ _)) (by omega) rfl (fun a ha => by
      have ix := ix_let (row (sysOf T) (wd w ++ x)) (C.lts a ha) (h ++ AO.lst ((w ++ up x).map .int) :: t)
      refine ⟨_, rfl, ?_, fun _ => by simp [wipeE, Tgt.own]⟩
      generalize h ++ AO.lst ((w ++ up x).map .int) :: t = h2 at *
      simp only [tvOf_eq, evOp_eq, evVar_eq, evC_eq]
      simp only [wipeE, Tgt.own, List.foldl_cons, List.foldl_nil, List.set_cons_succ, List.set_cons_zero, List.getElem?_cons_zero, List.getElem?_cons_succ, ofV_some, bind_ok, opSub_int, ofO_some2, ix, opLt_int]
      simp)
    rw [up_filter] at lc
    have e1 : (c.filter fun a => decide (row (sysOf T) (wd w ++ x) a < 0)) = endsN c (row (sysOf T) (wd w ++ x)) := rfl
    rw [e1] at lc
    have he1 : h ++ AO.lst ((w ++ up x).map .int) :: t ++ [.lst ((up (endsN c (row (sysOf T) (wd w ++ x)))).map .int)] = h ++ AO.lst ((w ++ up x).map .int) :: (t ++ [.lst ((up (endsN c (row (sysOf T) (wd w ++ x)))).map .int)]) := by simp
    refine Runs.asg (d := .ref (h ++ AO.lst ((w ++ up x).map .int) :: t).length) (h1 := h ++ AO.lst ((w ++ up x).map .int) :: (t ++ [.lst ((up (endsN c (row (sysOf T) (wd w ++ x)))).map .int)])) (by rw [pv_eq, lc, bind_ok, promote_tl, he1]) ?_
    simp only [List.set_cons_succ, List.set_cons_zero]
    have gq : (h ++ AO.lst ((w ++ up x).map .int) :: (t ++ [.lst ((up (endsN c (row (sysOf T) (wd w ++ x)))).map .int)]))[(h ++ AO.lst ((w ++ up x).map .int) :: t).length]? = some (.lst ((up (endsN c (row (sysOf T) (wd w ++ x)))).map .int)) := by rw [← he1, List.getElem?_concat_length]
    have hq : h.length < (h ++ AO.lst ((w ++ up x).map .int) :: t).length := by simp
    generalize (h ++ AO.lst ((w ++ up x).map .int) :: t).length = q at *
    clear lc he1
    generalize t ++ [.lst ((up (endsN c (row (sysOf T) (wd w ++ x)))).map .int)] = t1 at *
    have g0 : (h ++ AO.lst ((w ++ up x).map .int) :: t1)[h.length]? = some (.lst ((w ++ up x).map .int)) := by simp
    have ne := ne_lstW gq
    have te : tvOf (evOp opNe (evVar 6) (evLst [])) [some (.ref r), some d, some (upT c), some (rowT n (row (sysOf T) (wd w ++ x))), some (.ref h.length), some (.int (0 + (i : Int))), some (.ref q), x7] (h ++ AO.lst ((w ++ up x).map .int) :: t1) = .ok (!decide (endsN c (row (sysOf T) (wd w ++ x)) = [])) (h ++ AO.lst ((w ++ up x).map .int) :: t1) := by
      rw [tvOf_eq, evOp_eq, evVar_eq]
      simp only [List.getElem?_cons_zero, List.getElem?_cons_succ, ofV_some, bind_ok, evLst_eq, evsV_nil, List.length_nil, Nat.zero_le, if_true, ne, ofO_some2, tv_bl]
    obtain ⟨m, hm⟩ : ∃ m, 70 - i = m + 1 := ⟨69 - i, by omega⟩
    have hm2 : 70 - (i + 1) = m := by omega
    rw [hm] at hp
    cases hE : endsN c (row (sysOf T) (wd w ++ x)) with
    | nil =>
      rw [hE, decide_eq_true rfl] at te
      refine Runs.ifF te ?_
      refine Runs.last fun Q' hQ => ?_
      rw [svNil_eq]
      subst hQ
      refine ⟨_, _, rfl, x, t1, _, _, _, rfl, rfl, ?_, lx, by omega⟩
      rw [hp, hm2]
      have z : ∀ k, (prt (sysOf T) c k (row (sysOf T) (wd w ++ x))).1 = [] := fun k => by
        cases k with
        | zero => rfl
        | succ k => unfold prt; rw [hE]
      rw [z, z]
    | cons a z =>
      have mm := mem_endsN.mp (show a ∈ endsN c (row (sysOf T) (wd w ++ x)) by rw [hE]; exact List.mem_cons_self)
      have an := C.lts a mm.1
      rw [hE, decide_eq_false (by simp)] at te
      rw [hE] at gq
      refine Runs.ifT te ?_
      have ix0 : ∀ h' : AH, h'[q]? = some (.lst ((up (a :: z)).map .int)) → opIx h' (.ref q) (.int 0) = some (.int ((a : Int) + 1)) := fun h' g => by
        rw [opIx_ref g]; exact atI_0 _ _
      have pr := pressed2_is T (R.app (AO.lst ((w ++ up x).map .int) :: t1)) (row (sysOf T) (wd w ++ x)) (a := (a : Int) + 1) (by omega) (by omega)
      rw [show ((a : Int) + 1).toNat - 1 = a by omega, ← row_snoc, List.append_assoc] at pr
      have i0 := ix0 _ gq
      refine Runs.asg (d := rowT n (row (sysOf T) (wd w ++ (x ++ [a])))) (h1 := h ++ AO.lst ((w ++ up x).map .int) :: t1) (by
        generalize h ++ AO.lst ((w ++ up x).map .int) :: t1 = h2 at *
        simp [i0, pr]) ?_
      simp only [List.set_cons_succ, List.set_cons_zero]
      have ap := append_eq (f := evVar 4) (g := evOp opIx (evVar 6) (evC (.int 0))) (e := [some (.ref r), some d, some (upT c), some (rowT n (row (sysOf T) (wd w ++ (x ++ [a])))), some (.ref h.length), some (.int (0 + (i : Int))), some (.ref q), x7]) (h := h ++ AO.lst ((w ++ up x).map .int) :: t1) (n := h.length) (d := .int ((a : Int) + 1)) rfl g0 (by
        generalize h ++ AO.lst ((w ++ up x).map .int) :: t1 = h2 at *
        simp [i0]) g0 (by rw [List.length_map, List.length_append, up_length]; omega)
      have se : (h ++ AO.lst ((w ++ up x).map .int) :: t1).set h.length (.lst ((w ++ up x).map .int ++ [.int ((a : Int) + 1)])) = h ++ .lst ((w ++ up (x ++ [a])).map .int) :: t1 := by
        rw [List.set_append_right _ _ (Nat.le_refl _), Nat.sub_self]; simp [up]
      rw [se] at ap
      refine Runs.last fun Q' hQ => ?_
      rw [svExpr_eq, ap, toFl_ok]
      subst hQ
      refine ⟨_, _, rfl, x ++ [a], t1, _, _, _, rfl, rfl, ?_, lx.app (fun b hb => by rw [List.mem_singleton.mp hb]; exact an), by rw [List.length_append]; simp; omega⟩
      rw [hp, hm2]
      conv => lhs; unfold prt
      rw [hE]
      simp only
      rw [← row_snoc, List.append_assoc]
      simp
  · rintro e hh ⟨x, t, x5, x6, x7, rfl, rfl, hp, lx, xl⟩
    rw [rangeD_length, Nat.sub_self] at hp
    have hx : x = (prt (sysOf T) c 60 (row (sysOf T) (wd w))).1 := by
      rw [← fu, hp]
      show x = x ++ []
      rw [List.append_nil]
    refine Runs.last fun Q' hQ => ?_
    rw [svRet_eq, evVar_eq]
    simp only [List.getElem?_cons_zero, List.getElem?_cons_succ, ofV_some, toFl_ok]
    subst hQ
    dsimp only
    rw [← hx]
    exact ⟨t, fin_new (Nat.le_refl _)⟩
end
end BW

set_option Elab.async false
set_option linter.all false
set_option maxRecDepth 100000
set_option maxHeartbeats 4000000
namespace BW
open PySem Cox
section
variable {h : AH} {b r n : Nat} {M : Nat → Nat → Int}
theorem opAdd_rr {h : AH} {q q' : Nat} {xs ys : List D} (e : h[q]? = some (.lst xs)) (e' : h[q']? = some (.lst ys)) (hl : xs.length + ys.length ≤ 1000) : opAdd h (.ref q) (.ref q') = some (.tl (xs ++ ys)) := by
  have z : opAdd h (.ref q) (.ref q') = (match lstOf h (.ref q), lstOf h (.ref q') with
    | some xs, some ys => if xs.length + ys.length ≤ sizeLine then some (.tl (xs ++ ys)) else none
    | _, _ => none) := rfl
  rw [z, lstOf_ref e, lstOf_ref e']
  exact if_pos (small_of hl)
theorem opAdd_tr {h : AH} {q : Nat} {xs ys : List D} (e : h[q]? = some (.lst ys)) (hl : xs.length + ys.length ≤ 1000) : opAdd h (.tl xs) (.ref q) = some (.tl (xs ++ ys)) := by
  have z : opAdd h (.tl xs) (.ref q) = (match lstOf h (.tl xs), lstOf h (.ref q) with
    | some xs, some ys => if xs.length + ys.length ≤ sizeLine then some (.tl (xs ++ ys)) else none
    | _, _ => none) := rfl
  rw [z, lstOf_ref e, lstOf_tl]
  exact if_pos (small_of hl)
theorem bLenUp (h : AH) (u : Wd) : bLen h [upT u] = some (.int u.length) := by
  show some (D.int _) = _
  rw [List.length_map, up_length]
theorem ix_upC (h : AH) (c : Wd) {k : Int} (h0 : 0 ≤ k) (h1 : k < c.length) : ∃ a, a ∈ c ∧ opIx h (upT c) (.int k) = some (.int ((a : Int) + 1)) := by
  obtain ⟨j, rfl⟩ : ∃ j : Nat, k = j := ⟨k.toNat, by omega⟩
  have hj : j < c.length := by omega
  refine ⟨c[j], List.getElem_mem hj, ?_⟩
  unfold upT
  rw [opIx_tup]
  refine atI_get h0 ?_
  unfold up
  simp
  exact ⟨c[j], by simp [hj], rfl⟩
theorem picks_is {N : Int} {h : AH} {e : Env} {a : Nat} {c : Wd} (I : MInv 2 0 3 N h) (hN : N ≤ 900000) (cl : c.length ≤ 6) (hm : e[0]? = some (some (.ref 2))) (ha : e[a]? = some (some (upT c))) (el : e.length = 12) (a11 : a < 11) :
    ∃ p h', evLc (ivBy [(evIf (tvOf (evOp opNe (evVar a) (evTup []))) (evC (.int 4)) (evC (.int 0)))] kR1) (Tgt.own (.one 11)) (Tgt.gv (.one 11)) tvYes (evOp opIx (evVar a) (evCall d__law_draw [(evVar 0), (evB bLen [(evVar a)])])) e h = .ok (.tl ((up p).map .int)) h' ∧ (∀ x ∈ p, x ∈ c) ∧ p.length ≤ 4 ∧ MInv 2 0 3 (N + 4) h' ∧ Frame 4 h h' := by
  have ne := ne_upT c h
  have iv : ∃ k : Nat, k ≤ 4 ∧ (c = [] → k = 0) ∧ ivBy [(evIf (tvOf (evOp opNe (evVar a) (evTup []))) (evC (.int 4)) (evC (.int 0)))] kR1 e h = .ok { xs := rangeD 0 k } h := by
    have te : tvOf (evOp opNe (evVar a) (evTup [])) e h = .ok (!decide (c = [])) h := by
      rw [tvOf_eq, evOp_eq, evVar_eq, ha, ofV_some, bind_ok]
      simp only [evTup_eq, evsV_nil, bind_ok, List.length_nil, Nat.zero_le, if_true, ne, ofO_some2, tv_bl]
    by_cases z : c = []
    · refine ⟨0, by omega, fun _ => rfl, ivR1_of (n := 0) ?_ (by omega)⟩
      rw [evIf_eq, te, decide_eq_true z, bind_ok, if_neg (by decide), evC_eq]; rfl
    · refine ⟨4, by omega, fun w => absurd w z, ivR1_of (n := 4) ?_ (by omega)⟩
      rw [evIf_eq, te, decide_eq_false z, bind_ok, if_pos (by decide), evC_eq]; rfl
  obtain ⟨k, k4, kc, iv⟩ := iv
  have w0 : (wipeE e (Tgt.own (.one 11)))[0]? = some (some (.ref 2)) := by
    show (e.set 11 none)[0]? = _
    rw [List.getElem?_set_ne (by omega)]; exact hm
  have wa : (wipeE e (Tgt.own (.one 11)))[a]? = some (some (upT c)) := by
    show (e.set 11 none)[a]? = _
    rw [List.getElem?_set_ne (by omega)]; exact ha
  generalize hw : wipeE e (Tgt.own (.one 11)) = e0 at *
  obtain ⟨ys, h', r1, p, rfl, p1, p2, I', F'⟩ := lcGo_inv (g := none) (gv := Tgt.gv (.one 11)) (tt := tvYes) (elt := evOp opIx (evVar a) (evCall d__law_draw [(evVar 0), (evB bLen [(evVar a)])])) (e := e0) (h := h)
    (fun i l h' => ∃ p : Wd, l = (up p).map .int ∧ (∀ x ∈ p, x ∈ c) ∧ p.length ≤ i ∧ MInv 2 0 3 (N + i) h' ∧ Frame 4 h h') (rangeD 0 k) (fun _ _ _ _ _ => rfl) (fun i d l h' hd ⟨p, z1, z2, z3, z4, z5⟩ => by
      obtain ⟨hi, rfl⟩ := rangeD_get hd
      have cpos : 0 < c.length := by
        rcases Nat.eq_zero_or_pos c.length with z | z
        · have := kc (List.length_eq_zero_iff.mp z); omega
        · exact z
      obtain ⟨k1, h2, r2, a0, a1, I2, F2, l2⟩ := draw4 (limit := (c.length : Int)) z4 (by omega) (by omega) (by omega)
      obtain ⟨x, xc, ox⟩ := ix_upC h2 c a0 a1
      refine ⟨e0.set 11 (some (.int (0 + (i : Int)))), h', rfl, .inr ⟨h', .int ((x : Int) + 1), h2, rfl, ?_, p ++ [x], by simp [z1, up], ?_, by rw [List.length_append]; simp; omega, by rw [show N + ((i + 1 : Nat) : Int) = N + i + 1 by omega]; exact I2, z5.trans F2⟩⟩
      · have s0 : (e0.set 11 (some (D.int (0 + (i : Int)))))[0]? = some (some (.ref 2)) := by rw [List.getElem?_set_ne (by omega)]; exact w0
        have sa : (e0.set 11 (some (D.int (0 + (i : Int)))))[a]? = some (some (upT c)) := by rw [List.getElem?_set_ne (by omega)]; exact wa
        have bl := bLenUp h' c
        rw [pv_eq, evOp_eq, evVar_eq, sa, ofV_some, bind_ok, evCall_eq, evsV_cons, pv_eq, evVar_eq, s0, ofV_some, bind_ok, promote_ref, bind_ok, evsV_cons, pv_eq, evB_eq, evs_cons, evVar_eq, sa, ofV_some, bind_ok, evs_nil, bind_ok, bind_ok, bl, ofO_some2, bind_ok, promote_int, bind_ok, evsV_nil, bind_ok, bind_ok, bind_ok, r2, bind_ok, ox, ofO_some2, bind_ok, promote_int]
      · intro y hy
        rcases List.mem_append.mp hy with q | q
        · exact z2 y q
        · rw [List.mem_singleton.mp q]; exact xc) ⟨[], rfl, (fun _ h => nomatch h), by simp, by simpa using I, Frame.refl _ _⟩
  rw [rangeD_length] at p2 I'
  refine ⟨p, h', ?_, p1, by omega, I'.mono (by omega), F'⟩
  rw [evLc_eq, iv, bind_ok]
  simp only
  rw [if_pos (by rw [rangeD_length]; omega), hw, r1, bind_ok]
def sixK : List Int := [2, 3, 3, 4, 6, 0]
theorem six_kd : ∀ v ∈ sixK, Kd v := by
  intro v hv
  simp only [sixK, List.mem_cons, List.not_mem_nil, or_false] at hv
  unfold Kd
  omega
theorem Runs.asgR {f : Ev} {i : Nat} {b : Sv} {e : Env} {h h1 : AH} {xs : List D} {Q : Fl → Prop} (hf : f e h = .ok (.tl xs) h1) (k : Runs b (e.set i (some (.ref h1.length))) (h1 ++ [.lst xs]) Q) : Runs (svSeq (svAsg f (gvName i)) b) e h Q :=
  Runs.asg (by rw [pv_eq, hf, bind_ok, promote_tl]) k
theorem endlessR_is {N : Int} (I : MInv 2 0 3 N h) (hN : N ≤ 500000) : ∃ h', d2_law_endless_right [.ref 2] h = .ok (.bl true) h' := by
  unfold d2_law_endless_right
  refine Runs.callE (P := fun o => ∃ h', o = .ok (.bl true) h') ?_
  (simp only [startE_eq, List.map_cons, List.map_nil, List.length_cons, List.length_nil, List.replicate, List.cons_append, List.nil_append])
  have l4 := I.len4
  obtain ⟨a, h1, r1, a0, a1, I1, F1, l1⟩ := draw4 (limit := 6) I (by omega) (by omega) (by omega)
  obtain ⟨n, hnn⟩ : ∃ n : Nat, 1 + a = n := ⟨(1 + a).toNat, by omega⟩
  have n1 : 1 ≤ n := by omega
  have n6 : n ≤ 6 := by omega
  refine Runs.asg (d := .int n) (h1 := h1) (by simp [r1, hnn]) ?_
  simp only [List.set_cons_succ, List.set_cons_zero]
  have I2 := I1.app [.lst (sixK.map .int)]
  have g2 : (h1 ++ [AO.lst (sixK.map .int)])[h1.length]? = some (.lst (sixK.map .int)) := by simp
  have l1' : 4 ≤ h1.length := by omega
  obtain ⟨r, M, h3, r3, T, R, I3, F3, F3'⟩ := table2_is I2 (by omega) n1 (by omega) l1' g2 six_kd (by decide) (by decide)
  refine Runs.asg (d := .ref r) (h1 := h3) ?_ ?_
  · have ev : evsV [(evVar 0), (evVar 1), (evLst [(evC (.int 2)), (evC (.int 3)), (evC (.int 3)), (evC (.int 4)), (evC (.int 6)), (evC (.int 0))])] [some (.ref 2), some (.int n), none, none, none, none, none, none, none, none, none, none] h1 = .ok [.ref 2, .int n, .ref h1.length] (h1 ++ [.lst (sixK.map .int)]) := by simp [sixK]
    exact pv_call ev r3 rfl
  simp only [List.set_cons_succ, List.set_cons_zero]
  have R4 : RowsF 4 h3 r n M := R.low (by simp; omega)
  have l3 := I3.len4
  have mk := make_is R4.at_ T (f := evVar 2) (e := [some (.ref 2), some (.int n), some (.ref r), none, none, none, none, none, none, none, none, none]) (h0 := h3) (by simp)
  have I4 := I3.app [.sins "Bonds" [some (.tup (tabL n M))]]
  have F4 : Frame 4 h3 (h3 ++ [.sins "Bonds" [some (.tup (tabL n M))]]) := Frame.app _ _ _
  have B4 : BondsAt (h3 ++ [.sins "Bonds" [some (.tup (tabL n M))]]) h3.length n M := by unfold BondsAt; simp
  generalize hb : h3.length = b at *
  generalize h3 ++ [AO.sins "Bonds" [some (.tup (tabL n M))]] = h4 at *
  obtain ⟨w, q, h5, r5, g5, q4, Lw, wl, I5, F5⟩ := word2_is (most := 12) I4 (by omega) n1 n6 (by omega) (by omega)
  refine Runs.par2 (h1 := h4) (h2 := h5) (d := .ref b) (d' := .ref q) (by rw [pv_eq, mk, bind_ok]; rfl) (by simp [r5]) ?_
  simp only [List.set_cons_succ, List.set_cons_zero]
  obtain ⟨ci, h6, r6, CI, I6, F6⟩ := choice2_is (n := n) I5 (by omega) n6
  obtain ⟨cj, h7, r7, CJ, I7, F7⟩ := choice2_is (n := n) I6 (by omega) n6
  refine Runs.par2 (h1 := h6) (h2 := h7) (d := upT ci) (d' := upT cj) (by simp [r6]) (by simp [r7]) ?_
  simp only [List.set_cons_succ, List.set_cons_zero]
  have F67 := F6.trans F7
  have g7 := F67.at_ q4 g5
  have B7 : BondsAt h7 b n M := F67.at_ (by omega) (F5.at_ (by omega) B4)
  have R7 := ((R4.frame F4 (Nat.le_refl _)).frame F5 (Nat.le_refl _)).frame F67 (Nat.le_refl _)
  clear mk r1 r3 r5 r6 r7 g5 g2
  have W7 : WordAt h7 (.ref q) w := .inr ⟨q, rfl, g7⟩
  have FF := sysOf_fin T
  have wl60 : w.length ≤ 60 := by omega
  have he := ell60 T wl60 (w := w)
  have el12 := ell_le (S := sysOf T) (wd w)
  rw [wd_length] at el12
  -- what is due
  obtain ⟨t1, f1⟩ := front2_is T R7.at_ CJ W7 Lw wl60
  obtain ⟨x1, p1, p2, p3, p4, p5⟩ := prt_facts FF CJ.lts 60 (wd w) (wd_lts Lw) he
  rw [p1] at f1
  have lx1 : Lts n x1 := fun a ha => CJ.lts a (p5 a ha)
  have fr1 : front (sysOf T) n cj (wd w) = least (sysOf T) n (wd w ++ x1) := by unfold front; rw [p1]
  generalize hh8 : h7 ++ AO.lst ((w ++ up x1).map .int) :: t1 = h8 at *
  have g8 : h8[h7.length]? = some (.lst ((w ++ up x1).map .int)) := by rw [← hh8]; simp
  have rv8 := revD_ref g8
  rw [← List.map_reverse] at rv8
  have R9 : RowsAt (h8 ++ [.lst ((w ++ up x1).reverse.map .int)]) r n M := by rw [← hh8]; exact (R7.at_.app _).app _
  have W9 : WordAt (h8 ++ [.lst ((w ++ up x1).reverse.map .int)]) (.ref h8.length) (w ++ up x1).reverse := .inr ⟨_, rfl, by simp⟩
  have L9 : Letters n (w ++ up x1).reverse := Letters.rev (Lw.app (up_letters lx1))
  have len9 : (w ++ up x1).reverse.length ≤ 24 := by rw [List.length_reverse, List.length_append, up_length]; omega
  have we9 : wd (w ++ up x1).reverse = (wd w ++ x1).reverse := by rw [wd_reverse, wd_append, wd_up]
  obtain ⟨t2, f2⟩ := front2_is T R9 CI W9 L9 (by omega)
  have he2 : ell (sysOf T) (wd w ++ x1).reverse ≤ 24 := by rw [ell_rev]; omega
  have l9 : Lts n (wd w ++ x1).reverse := Lts.rev ((wd_lts Lw).app lx1)
  rw [we9] at f2
  obtain ⟨x2, s1, s2, s3, s4, s5⟩ := prt_facts FF CI.lts 60 (wd w ++ x1).reverse l9 (by omega)
  rw [s1] at f2
  have lx2 : Lts n x2 := fun a ha => CI.lts a (s5 a ha)
  generalize hh9 : h8 ++ [AO.lst ((w ++ up x1).reverse.map .int)] = h9 at *
  generalize hh10 : h9 ++ AO.lst (((w ++ up x1).reverse ++ up x2).map .int) :: t2 = h10 at *
  have g10 : h10[h9.length]? = some (.lst (((w ++ up x1).reverse ++ up x2).map .int)) := by rw [← hh10]; simp
  have rv10 := revD_ref g10
  rw [← List.map_reverse] at rv10
  have ev1 : evRev (evCall d2_law_front [(evVar 2), (evVar 4), (evVar 6)]) [some (.ref 2), some (.int n), some (.ref r), some (.ref b), some (.ref q), some (upT ci), some (upT cj), none, none, none, none, none] h7 = .ok (.tl ((w ++ up x1).reverse.map .int)) h8 := by
    rw [evRev_eq, evCall_eq]
    simp only [evsV_cons, evsV_nil, pv_eq, evVar_eq, List.getElem?_cons_zero, List.getElem?_cons_succ, ofV_some, bind_ok, promote_ref, promote_upT, f1, rv8, ofO_some2]
  refine Runs.asgR (xs := ((w ++ up x1).reverse ++ up x2).reverse.map .int) (h1 := h10) (by
    rw [evRev_eq, evCall_eq, evsV_cons, pv_eq, evVar_eq]
    simp only [List.getElem?_cons_zero, List.getElem?_cons_succ, ofV_some, bind_ok, promote_ref]
    rw [evsV_cons, pv_eq, ev1, bind_ok, promote_tl, hh9, bind_ok]
    simp only [evsV_cons, evsV_nil, pv_eq, evVar_eq, List.getElem?_cons_zero, List.getElem?_cons_succ, ofV_some, bind_ok, promote_upT, f2, rv10, ofO_some2]) ?_
  simp only [List.set_cons_succ, List.set_cons_zero]
  have I10 : MInv 2 0 3 (N + 300) h10 := by
    rw [← hh10, ← hh9, ← hh8]
    exact (((I7.app _).app _).app _).mono (by omega)
  have F10 : Frame 4 h7 h10 := by
    rw [← hh10, ← hh9, ← hh8]
    exact ((Frame.app _ _ _).trans (Frame.app _ _ _)).trans (Frame.app _ _ _)
  clear f1 f2 rv8 rv10 ev1
  have gD : (h10 ++ [AO.lst (((w ++ up x1).reverse ++ up x2).reverse.map .int)])[h10.length]? = some (.lst (((w ++ up x1).reverse ++ up x2).reverse.map .int)) := by simp
  have F11 : Frame 4 h10 (h10 ++ [AO.lst (((w ++ up x1).reverse ++ up x2).reverse.map .int)]) := Frame.app _ _ _
  have I11 := I10.app [AO.lst (((w ++ up x1).reverse ++ up x2).reverse.map .int)]
  have l10 := I10.len4
  generalize h10 ++ [AO.lst (((w ++ up x1).reverse ++ up x2).reverse.map .int)] = h11 at *
  generalize h10.length = qd at *
  have F711 := F10.trans F11
  have B11 : BondsAt h11 b n M := F711.at_ (by omega) B7
  have W11 : WordAt h11 (.ref q) w := .inr ⟨q, rfl, F711.at_ q4 g7⟩
  have lb := leastBetween_is T B11 CI CJ W11 Lw wl60
  have dk := dbW_ok (I := ci) (J := cj) FF CI.lts CJ.lts (wd_lts Lw) he
  -- it is the least word of what is due
  have due : least (sysOf T) n (wd (((w ++ up x1).reverse ++ up x2).reverse)) = dbW (sysOf T) n ci cj (wd w) := by
    rw [wd_reverse, wd_append, we9, wd_up]
    unfold dbW dbF
    obtain ⟨fa, fs, fl, fL⟩ := least_facts (S := sysOf T) (n := n) FF (u := wd w ++ x1) ((wd_lts Lw).app lx1) (by omega)
    have z1 : Alike (sysOf T) (front (sysOf T) n cj (wd w)).reverse (wd w ++ x1).reverse := by rw [fr1]; exact fa.rev
    rw [front_congr z1]
    have z2 : front (sysOf T) n ci (wd w ++ x1).reverse = least (sysOf T) n ((wd w ++ x1).reverse ++ x2) := by unfold front; rw [s1]
    rw [z2]
    obtain ⟨ga, _, _, _⟩ := least_facts (S := sysOf T) (n := n) FF (u := (wd w ++ x1).reverse ++ x2) (l9.app lx2) (by omega)
    exact least_congr ga.rev.symm
  refine Runs.asg (d := upT (dbW (sysOf T) n ci cj (wd w))) (h1 := h11) (by
    rw [pv_eq, evCall_eq]
    simp only [evsV_cons, evsV_nil, pv_eq, evVar_eq, List.getElem?_cons_zero, List.getElem?_cons_succ, ofV_some, bind_ok, promote_ref, promote_upT, lb]) ?_
  simp only [List.set_cons_succ, List.set_cons_zero]
  have cil := asc_len ci CI.lts CI.asc
  have cjl := asc_len cj CJ.lts CJ.asc
  obtain ⟨pa, h12, ra, pa1, pa2, I12, F12⟩ := picks_is (a := 5) (c := ci) (e := [some (.ref 2), some (.int n), some (.ref r), some (.ref b), some (.ref q), some (upT ci), some (upT cj), some (.ref qd), some (upT (dbW (sysOf T) n ci cj (wd w))), none, none, none]) I11 (by omega) (by omega) rfl rfl rfl (by omega)
  refine Runs.asgR ra ?_
  simp only [List.set_cons_succ, List.set_cons_zero]
  have I13 := I12.app [.lst ((up pa).map .int)]
  have F13 : Frame 4 h12 (h12 ++ [.lst ((up pa).map .int)]) := Frame.app _ _ _
  have g13 : (h12 ++ [AO.lst ((up pa).map .int)])[h12.length]? = some (.lst ((up pa).map .int)) := by simp
  have l12 := I12.len4
  generalize h12 ++ [AO.lst ((up pa).map .int)] = h13 at *
  generalize h12.length = qa at *
  obtain ⟨pb, h14, rb, pb1, pb2, I14, F14⟩ := picks_is (a := 6) (c := cj) (e := [some (.ref 2), some (.int n), some (.ref r), some (.ref b), some (.ref q), some (upT ci), some (upT cj), some (.ref qd), some (upT (dbW (sysOf T) n ci cj (wd w))), some (.ref qa), none, none]) I13 (by omega) (by omega) rfl rfl rfl (by omega)
  refine Runs.asgR rb ?_
  simp only [List.set_cons_succ, List.set_cons_zero]
  have I15 := I14.app [.lst ((up pb).map .int)]
  have F15 : Frame 4 h14 (h14 ++ [.lst ((up pb).map .int)]) := Frame.app _ _ _
  have g15 : (h14 ++ [AO.lst ((up pb).map .int)])[h14.length]? = some (.lst ((up pb).map .int)) := by simp
  have l14 := I14.len4
  generalize h14 ++ [AO.lst ((up pb).map .int)] = h15 at *
  generalize h14.length = qb at *
  have FA := (F12.trans F13).trans (F14.trans F15)
  have FB := F14.trans F15
  have gw := FA.at_ q4 (F711.at_ q4 g7)
  have gd := FA.at_ l10 gD
  have ga := FB.at_ l12 g13
  have B15 : BondsAt h15 b n M := FA.at_ (by omega) B11
  have R15 := ((R7.frame F711 (Nat.le_refl _)).frame FA (Nat.le_refl _)).at_
  have len10 : (((w ++ up x1).reverse ++ up x2).reverse).length ≤ 48 := by rw [List.length_reverse, List.length_append, up_length]; omega
  have L10 : Letters n (((w ++ up x1).reverse ++ up x2).reverse) := Letters.rev (L9.app (up_letters lx2))
  have WD : WordAt h15 (.ref qd) (((w ++ up x1).reverse ++ up x2).reverse) := .inr ⟨qd, rfl, gd⟩
  have ls := least2_is T R15 WD L10 (Nat.le_trans (ell_le _) (by rw [wd_length]; omega))
  rw [due] at ls
  have lpa : Lts n pa := fun a ha => CI.lts a (pa1 a ha)
  have lpb : Lts n pb := fun a ha => CJ.lts a (pb1 a ha)
  have ad1 := opAdd_rr (h := h15) ga gw (by rw [List.length_map, List.length_map, up_length]; omega)
  have ad2 := opAdd_tr (h := h15) (xs := (up pa).map D.int ++ w.map D.int) g15 (by rw [List.length_append, List.length_map, List.length_map, List.length_map, up_length, up_length]; omega)
  have e3 : (up pa).map D.int ++ w.map D.int ++ (up pb).map D.int = (up pa ++ w ++ up pb).map .int := by simp
  rw [e3] at ad2
  have W16 : WordAt (h15 ++ [.lst ((up pa ++ w ++ up pb).map .int)]) (.ref h15.length) (up pa ++ w ++ up pb) := .inr ⟨_, rfl, by simp⟩
  have L16 : Letters n (up pa ++ w ++ up pb) := ((up_letters lpa).app Lw).app (up_letters lpb)
  have len16 : (up pa ++ w ++ up pb).length ≤ 20 := by rw [List.length_append, List.length_append, up_length, up_length]; omega
  have lb2 := leastBetween_is T (B15.app [.lst ((up pa ++ w ++ up pb).map .int)]) CI CJ W16 L16 (by omega)
  have we16 : wd (up pa ++ w ++ up pb) = pa ++ wd w ++ pb := by rw [wd_append, wd_append, wd_up, wd_up]
  rw [we16, dbW_same FF CI.lts CJ.lts (wd_lts Lw) he ((lpa.app (wd_lts Lw)).app lpb) (Nat.le_trans (ell_le _) (by rw [List.length_append, List.length_append, wd_length]; omega)) ⟨pa, pb, pa1, pb1, Alike.refl _⟩] at lb2
  have eq1 : ∀ h', opEq h' (upT (dbW (sysOf T) n ci cj (wd w))) (upT (dbW (sysOf T) n ci cj (wd w))) = some (.bl true) := fun h' => by
    unfold upT
    rw [opEq_ints, decide_eq_true rfl]
  refine Runs.last fun Q' hQ => ?_
  rw [svRet_eq]
  have left : evOp opEq (evVar 8) (evCall d2_law_least [(evVar 2), (evVar 7)]) [some (.ref 2), some (.int n), some (.ref r), some (.ref b), some (.ref q), some (upT ci), some (upT cj), some (.ref qd), some (upT (dbW (sysOf T) n ci cj (wd w))), some (.ref qa), some (.ref qb), none] h15 = .ok (.bl true) h15 := by
    rw [evOp_eq, evVar_eq]
    simp only [evCall_eq, evsV_cons, evsV_nil, pv_eq, evVar_eq, List.getElem?_cons_zero, List.getElem?_cons_succ, ofV_some, bind_ok, promote_ref, ls, eq1, ofO_some2]
  have right : evOp opEq (evCall d_least_between [(evVar 3), (evVar 5), (evOp opAdd (evOp opAdd (evVar 9) (evVar 4)) (evVar 10)), (evVar 6)]) (evVar 8) [some (.ref 2), some (.int n), some (.ref r), some (.ref b), some (.ref q), some (upT ci), some (upT cj), some (.ref qd), some (upT (dbW (sysOf T) n ci cj (wd w))), some (.ref qa), some (.ref qb), none] h15 = .ok (.bl true) (h15 ++ [.lst ((up pa ++ w ++ up pb).map .int)]) := by
    rw [evOp_eq, evCall_eq]
    simp only [evsV_cons, evsV_nil, pv_eq, evVar_eq, evOp_eq, List.getElem?_cons_zero, List.getElem?_cons_succ, ofV_some, bind_ok, promote_ref, promote_upT, ad1, ad2, ofO_some2, promote_tl, lb2, eq1]
  have both : evAnd (evOp opEq (evVar 8) (evCall d2_law_least [(evVar 2), (evVar 7)])) (evOp opEq (evCall d_least_between [(evVar 3), (evVar 5), (evOp opAdd (evOp opAdd (evVar 9) (evVar 4)) (evVar 10)), (evVar 6)]) (evVar 8)) [some (.ref 2), some (.int n), some (.ref r), some (.ref b), some (.ref q), some (upT ci), some (upT cj), some (.ref qd), some (upT (dbW (sysOf T) n ci cj (wd w))), some (.ref qa), some (.ref qb), none] h15 = .ok (.bl true) (h15 ++ [.lst ((up pa ++ w ++ up pb).map .int)]) := by
    rw [evAnd_eq, left, bind_ok, tv_bl, bind_ok, if_pos rfl, right]
  rw [both, toFl_ok]
  subst hQ
  dsimp only
  rw [fin_ret]
  rcases fin_or (h := h) (h2 := h15 ++ [.lst ((up pa ++ w ++ up pb).map .int)]) (d := .bl true) rfl with z | z
  · exact ⟨_, z⟩
  · exact ⟨_, z⟩
end
end BW

set_option Elab.async false
set_option linter.all false
set_option maxRecDepth 100000
set_option maxHeartbeats 4000000
namespace BW
open PySem Cox
section
variable {S : Sys} {n : Nat} {I J u : Wd}
noncomputable def entL (S : Sys) (n : Nat) (w : Wd) : List L2.Key × D := (keyI (rwL S n w), .int (ell S w))
def addE (S : Sys) (n : Nat) (E : List Wd) (v : Wd) : List Wd := if rwL S n v ∈ E.map (rwL S n) then E else E ++ [v]
theorem put_entL (F : S.Fin n) {E : List Wd} (hE : ∀ w ∈ E, Lts n w) {v : Wd} (hv : Lts n v) : putD (E.map (entL S n)) (keyI (rwL S n v)) (.int (ell S v)) = (addE S n E v).map (entL S n) := by
  have an : ((E.map (entL S n)).any fun kv => decide (kv.1 = keyI (rwL S n v))) = decide (rwL S n v ∈ E.map (rwL S n)) := by
    rw [List.any_map]
    by_cases c : rwL S n v ∈ E.map (rwL S n)
    · rw [decide_eq_true c]
      obtain ⟨y, hy, e⟩ := List.mem_map.mp c
      exact List.any_eq_true.mpr ⟨y, hy, by simp [entL, e]⟩
    · rw [decide_eq_false c, Bool.eq_false_iff]
      intro z
      obtain ⟨y, hy, e⟩ := List.any_eq_true.mp z
      have : keyI (rwL S n y) = keyI (rwL S n v) := of_decide_eq_true e
      exact c (List.mem_map.mpr ⟨y, hy, keyI_inj.mp this⟩)
  unfold putD addE
  rw [an]
  by_cases c : rwL S n v ∈ E.map (rwL S n)
  · rw [decide_eq_true c, if_pos rfl, if_pos c, List.map_map]
    refine List.map_congr_left fun y hy => ?_
    show (if (entL S n y).1 = keyI (rwL S n v) then ((entL S n y).1, D.int (ell S v)) else entL S n y) = entL S n y
    by_cases z : (entL S n y).1 = keyI (rwL S n v)
    · rw [if_pos z]
      have e1 : rwL S n y = rwL S n v := keyI_inj.mp z
      have e2 := ell_congr ((rwL_alike F (hE y hy) hv).mp e1)
      unfold entL
      rw [e2]
    · rw [if_neg z]
  · rw [decide_eq_false c, if_neg (by decide), if_neg c, List.map_append]
    rfl
theorem mem_addE {E : List Wd} {v : Wd} : rwL S n v ∈ (addE S n E v).map (rwL S n) := by
  unfold addE
  split
  · assumption
  · simp
theorem sub_addE {E : List Wd} {v : Wd} {y : List Int} (h : y ∈ E.map (rwL S n)) : y ∈ (addE S n E v).map (rwL S n) := by
  unfold addE
  split
  · exact h
  · rw [List.map_append]; exact List.mem_append_left _ h
theorem nodup_addE {E : List Wd} {v : Wd} (h : (E.map (rwL S n)).Nodup) : ((addE S n E v).map (rwL S n)).Nodup := by
  unfold addE
  split
  · exact h
  · rename_i z
    rw [List.map_append, List.map_singleton]
    exact List.nodup_append.mpr ⟨h, by simp, fun a ha b hb e => z (by rw [List.mem_singleton.mp hb] at e; exact e ▸ ha)⟩
theorem of_addE {E : List Wd} {v w : Wd} (h : w ∈ addE S n E v) : w ∈ E ∨ w = v := by
  unfold addE at h
  split at h
  · exact .inl h
  · rcases List.mem_append.mp h with z | z
    · exact .inl z
    · exact .inr (List.mem_singleton.mp z)
structure DueMid (S : Sys) (n : Nat) (K1 K2 : List Wd) (u : Wd) (i j : Nat) (E : List Wd) : Prop where
  nd : (E.map (rwL S n)).Nodup
  of : ∀ v ∈ E, ∃ a ∈ K1, ∃ b ∈ K2, v = a ++ u ++ b
  done : ∀ i' a, i' < i → K1[i']? = some a → ∀ b ∈ K2, rwL S n (a ++ u ++ b) ∈ E.map (rwL S n)
  part : ∀ a, K1[i]? = some a → ∀ j' b, j' < j → K2[j']? = some b → rwL S n (a ++ u ++ b) ∈ E.map (rwL S n)
section
variable {K1 K2 : List Wd} {i j : Nat} {E : List Wd}
theorem DueMid.zero : DueMid S n K1 K2 u 0 0 [] := ⟨by simp, (fun _ h => nomatch h), (fun _ _ h => absurd h (Nat.not_lt_zero _)), (fun _ _ _ _ h => absurd h (Nat.not_lt_zero _))⟩
theorem DueMid.add (m : DueMid S n K1 K2 u i j E) {a b : Wd} (ha : K1[i]? = some a) (hb : K2[j]? = some b) : DueMid S n K1 K2 u i (j + 1) (addE S n E (a ++ u ++ b)) := by
  refine ⟨nodup_addE m.nd, fun v hv => ?_, fun i' x hi hx y hy => sub_addE (m.done i' x hi hx y hy), fun x hx j' y hj hy => ?_⟩
  · rcases of_addE hv with z | z
    · exact m.of v z
    · exact ⟨a, List.mem_of_getElem? ha, b, List.mem_of_getElem? hb, z⟩
  · rw [ha] at hx; cases hx
    rcases Nat.lt_succ_iff_lt_or_eq.mp hj with z | z
    · exact sub_addE (m.part a ha j' y z hy)
    · subst z
      rw [hb] at hy; cases hy
      exact mem_addE
theorem DueMid.next (m : DueMid S n K1 K2 u i K2.length E) : DueMid S n K1 K2 u (i + 1) 0 E := ⟨m.nd, m.of, (fun i' x hi hx y hy => by
  rcases Nat.lt_succ_iff_lt_or_eq.mp hi with z | z
  · exact m.done i' x z hx y hy
  · subst z
    obtain ⟨j', hj⟩ := List.getElem?_of_mem hy
    exact m.part x hx j' y (List.getElem?_eq_some_iff.mp hj).1 hj), (fun _ _ _ _ h => absurd h (Nat.not_lt_zero _))⟩
end
structure DueAll (S : Sys) (n : Nat) (I J u : Wd) (E : List Wd) : Prop where
  nd : (E.map (rwL S n)).Nodup
  lts : ∀ v ∈ E, Lts n v
  of : ∀ v ∈ E, Dbl S (· ∈ I) (· ∈ J) u v
  al : ∀ v, Lts n v → Dbl S (· ∈ I) (· ∈ J) u v → rwL S n v ∈ E.map (rwL S n)
theorem DueMid.all (F : S.Fin n) (hI : Lts n I) (hJ : Lts n J) (hu : Lts n u) {K1 K2 E : List Wd} (A : AllWi S n I K1) (B : AllWi S n J K2) (m : DueMid S n K1 K2 u K1.length 0 E) : DueAll S n I J u E := by
  have lt3 : ∀ {a b : Wd}, Wi I a → Wi J b → Lts n (a ++ u ++ b) := fun ha hb => ((ha.lts hI).app hu).app (hb.lts hJ)
  refine ⟨m.nd, fun v hv => ?_, fun v hv => ?_, fun v hv ⟨a, b, ha, hb, e⟩ => ?_⟩
  · obtain ⟨a, ha, b, hb, rfl⟩ := m.of v hv
    exact lt3 (A.wi a ha).1 (B.wi b hb).1
  · obtain ⟨a, ha, b, hb, rfl⟩ := m.of v hv
    exact ⟨a, b, (A.wi a ha).1, (B.wi b hb).1, Alike.refl _⟩
  · obtain ⟨a', ha', ea⟩ := List.mem_map.mp (A.al a ha)
    obtain ⟨b', hb', eb⟩ := List.mem_map.mp (B.al b hb)
    have wa := (A.wi a' ha').1
    have wb := (B.wi b' hb').1
    have za := (rwL_alike F (wa.lts hI) (Wi.lts hI ha)).mp ea
    have zb := (rwL_alike F (wb.lts hJ) (Wi.lts hJ hb)).mp eb
    have z : Alike S v (a' ++ u ++ b') := e.trans ((za.symm.right u).app zb.symm)
    rw [(rwL_alike F hv (lt3 wa wb)).mpr z]
    obtain ⟨i', hi⟩ := List.getElem?_of_mem ha'
    exact m.done i' a' (List.getElem?_eq_some_iff.mp hi).1 hi b' hb'
theorem few_rows (F : S.Fin n) (le9 : ∀ u, Lts n u → ell S u ≤ 9) {E : List Wd} (nd : (E.map (rwL S n)).Nodup) (lts : ∀ w ∈ E, Lts n w) : E.length ≤ lsum n 9 := by
  have := nodup_le _ ((upToW n 9).map (rwL S n)) nd fun y hy => by
    obtain ⟨w, hw, rfl⟩ := List.mem_map.mp hy
    have lw := lts w hw
    obtain ⟨al, _, ll, Ll⟩ := least_facts F lw (by have := le9 w lw; omega)
    refine List.mem_map.mpr ⟨least S n w, mem_upToW Ll (by rw [ll]; exact le9 w lw), ?_⟩
    exact (rwL_alike F Ll lw).mpr al
  rw [List.length_map, List.length_map, upToW_len] at this
  exact this
theorem lsum9 {n : Nat} (n1 : 1 ≤ n) (n3 : n ≤ 3) : lsum n 9 ≤ 100000 := by
  have : n = 1 ∨ n = 2 ∨ n = 3 := by omega
  rcases this with rfl | rfl | rfl <;> decide
end
section
variable {h : AH} {b r n : Nat} {M : Nat → Nat → Int}
theorem add_upU (h : AH) (u v : Wd) (hl : u.length + v.length ≤ 900) : opAdd h (upT u) (upT v) = some (upT (u ++ v)) := by
  have s : ∀ a b : List D, a.length + b.length ≤ 900 → opAdd h (.tup a) (.tup b) = some (.tup (a ++ b)) := fun a b z => by
    rw [opAdd_tup, if_pos]
    exact small_of (by omega)
  unfold upT
  rw [s _ _ (by simp; omega), ← List.map_append, up_append]
theorem take_upA (b : Wd) (j : Nat) {d : D} (hd : (((up b).map D.int))[j]? = some d) : ∃ a, b[j]? = some a ∧ d = .int ((a : Int) + 1) := by
  unfold up at hd
  rw [List.getElem?_map, List.getElem?_map] at hd
  cases hc : b[j]? with
  | none => rw [hc] at hd; cases hd
  | some a => rw [hc] at hd; cases hd; exact ⟨a, rfl, rfl⟩
theorem between_is (T : Tab n M) (R : RowsAt h r n M) {I J u : Wd} (CI : Chosen n I) (CJ : Chosen n J) (hu : Lts n u) (ul : u.length ≤ 30) (n3 : n ≤ 3) (le9 : ∀ u, Lts n u → ell (sysOf T) u ≤ 9) :
    ∃ E t, DueAll (sysOf T) n I J u E ∧ E.length ≤ 100000 ∧ d2_law_between [.ref r, upT I, upT u, upT J] h = .ok (.ref h.length) (h ++ t) ∧ (h ++ t)[h.length]? = some (.dt (E.map (entL (sysOf T) n))) := by
  have n1 := T.n1
  have n6 := T.n6
  have F := sysOf_fin T
  have l9 := lsum9 n1 n3
  obtain ⟨K2, t2, q2, A2, k2, f2, w2, hq2, g2⟩ := within_is T (R.app [.dt []]) CJ n3 le9
  obtain ⟨K1, t1, q1, A1, k1, f1, w1, hq1, g1⟩ := within_is T ((R.app [.dt []]).app t2) CI n3 le9
  rw [List.length_append, List.length_append] at hq1
  rw [List.length_append] at hq2
  simp only [List.length_cons, List.length_nil] at hq1 hq2
  unfold d2_law_between
  refine Runs.callE (P := fun out => ∃ E t, DueAll (sysOf T) n I J u E ∧ E.length ≤ 100000 ∧ out = .ok (.ref h.length) (h ++ t) ∧ (h ++ t)[h.length]? = some (.dt (E.map (entL (sysOf T) n)))) ?_
  (simp only [startE_eq, List.map_cons, List.map_nil, List.length_cons, List.length_nil, List.replicate, List.cons_append, List.nil_append])
  refine Runs.par2 (h1 := h ++ [.dt []]) (h2 := h ++ [.dt []] ++ t2) (d := .ref h.length) (d' := .ref q2) rfl (by
    rw [pv_eq, evCall_eq]
    simp only [evsV_cons, evsV_nil, pv_eq, evVar_eq, List.getElem?_cons_zero, List.getElem?_cons_succ, ofV_some, bind_ok, promote_ref, promote_upT, w2]) ?_
  simp only [List.set_cons_succ, List.set_cons_zero]
  have gd : (h ++ [AO.dt []] ++ t2 ++ t1)[h.length]? = some (.dt (([] : List Wd).map (entL (sysOf T) n))) := by simp
  have g2' : (h ++ [AO.dt []] ++ t2 ++ t1)[q2]? = some (.lst (K2.map upT)) := by rw [List.getElem?_append_left (List.getElem?_eq_some_iff.mp g2).1]; exact g2
  have eh : h ++ [AO.dt []] ++ t2 ++ t1 = h ++ (AO.dt [] :: (t2 ++ t1)) := by simp
  have iv1 : ivSeq (evCall d2_law_within [(evVar 0), (evVar 1)]) [some (.ref r), some (upT I), some (upT u), some (upT J), some (.ref h.length), some (.ref q2), none, none, none, none, none] (h ++ [.dt []] ++ t2) = .ok { xs := K1.map upT, g := some (q1, .lst (K1.map upT)) } (h ++ (AO.dt [] :: (t2 ++ t1))) := by
    rw [← eh]
    refine ivSeq_of (d := .ref q1) ?_ (itsOf_ref g1)
    rw [evCall_eq]
    simp only [evsV_cons, evsV_nil, pv_eq, evVar_eq, List.getElem?_cons_zero, List.getElem?_cons_succ, ofV_some, bind_ok, promote_ref, promote_upT, w1]
  rw [eh] at gd g2' g1
  generalize AO.dt [] :: (t2 ++ t1) = t0 at *
  clear w1 w2 g2 eh
  have hl60 : ∀ {v : Wd}, v.length ≤ 60 → Lts n v → ell (sysOf T) v ≤ 60 := fun hv hw => Nat.le_trans (ell_le _) hv
  have fewE : ∀ {i j : Nat} {E : List Wd}, DueMid (sysOf T) n K1 K2 u i j E → (∀ v ∈ E, Lts n v) ∧ E.length ≤ 100000 := fun m => by
    have lt : ∀ v ∈ _, Lts n v := fun v hv => by
      obtain ⟨a, ha, b, hb, rfl⟩ := m.of v hv
      exact (((A1.wi a ha).1.lts CI.lts).app hu).app ((A2.wi b hb).1.lts CJ.lts)
    exact ⟨lt, by have := few_rows F le9 m.nd lt; omega⟩
  -- the left ones
  refine Runs.loop (it := { xs := K1.map upT, g := some (q1, .lst (K1.map upT)) }) (h1 := h ++ t0)
    (fun i e hh => ∃ t E x6 x7 x8 x9 x10, e = [some (.ref r), some (upT I), some (upT u), some (upT J), some (.ref h.length), some (.ref q2), x6, x7, x8, x9, x10] ∧ hh = h ++ t ∧ DueMid (sysOf T) n K1 K2 u i 0 E ∧ hh[h.length]? = some (.dt (E.map (entL (sysOf T) n))) ∧ hh[q1]? = some (.lst (K1.map upT)) ∧ hh[q2]? = some (.lst (K2.map upT)))
    iv1 ⟨t0, [], none, none, none, none, none, rfl, rfl, DueMid.zero, gd, g1, g2'⟩ (fun _ _ _ _ ⟨_, _, _, _, _, _, _, _, _, _, _, g, _⟩ => guardOk_some g) ?_ ?_
  · rintro i d e hh hd ⟨t, E, x6, x7, x8, x9, x10, rfl, rfl, m, gk, ga, gb⟩
    rw [List.getElem?_map] at hd
    obtain ⟨a, ha, rfl⟩ := Option.map_eq_some_iff.mp hd
    have aK := List.mem_of_getElem? ha
    have la := (A1.wi a aK).1.lts CI.lts
    have a9 := k1 a aK
    refine ⟨_, _, rfl, ?_⟩
    simp only [List.set_cons_succ, List.set_cons_zero]
    have ad := add_upU (h ++ t) a u (by omega)
    have r1 := row2_is T (R.app t) (wordU (h ++ t) (a ++ u)) (up_letters (la.app hu))
    rw [wd_up] at r1
    refine Runs.asg (d := rowT n (row (sysOf T) (a ++ u))) (h1 := h ++ t) (by
      rw [pv_eq, evCall_eq]
      simp only [evsV_cons, evsV_nil, pv_eq, evVar_eq, evOp_eq, List.getElem?_cons_zero, List.getElem?_cons_succ, ofV_some, bind_ok, promote_ref, ad, ofO_some2, promote_upT, r1, promote_rowT]) ?_
    simp only [List.set_cons_succ, List.set_cons_zero]
    -- the right ones
    refine Runs.loop1 (it := { xs := K2.map upT, g := some (q2, .lst (K2.map upT)) }) (h1 := h ++ t)
      (fun j e hh => ∃ t E x8 x9 x10, e = [some (.ref r), some (upT I), some (upT u), some (upT J), some (.ref h.length), some (.ref q2), some (upT a), some (rowT n (row (sysOf T) (a ++ u))), x8, x9, x10] ∧ hh = h ++ t ∧ DueMid (sysOf T) n K1 K2 u i j E ∧ hh[h.length]? = some (.dt (E.map (entL (sysOf T) n))) ∧ hh[q1]? = some (.lst (K1.map upT)) ∧ hh[q2]? = some (.lst (K2.map upT)))
      (ivSeq_of (d := .ref q2) rfl (itsOf_ref gb)) ⟨t, E, _, _, _, rfl, rfl, m, gk, ga, gb⟩ (fun _ _ _ _ ⟨_, _, _, _, _, _, _, _, _, _, g⟩ => guardOk_some g) ?_ ?_
    · rintro j d e hh hd ⟨t, E, x8, x9, x10, rfl, rfl, m, gk, ga, gb⟩
      rw [List.getElem?_map] at hd
      obtain ⟨b, hb, rfl⟩ := Option.map_eq_some_iff.mp hd
      have bK := List.mem_of_getElem? hb
      have lb := (A2.wi b bK).1.lts CJ.lts
      have b9 := k2 b bK
      have lab := (la.app hu).app lb
      refine ⟨_, _, rfl, ?_⟩
      simp only [List.set_cons_succ, List.set_cons_zero]
      refine Runs.asg (d := rowT n (row (sysOf T) (a ++ u))) (h1 := h ++ t) (by
        rw [pv_eq, evVar_eq]
        simp only [List.getElem?_cons_zero, List.getElem?_cons_succ, ofV_some, bind_ok, promote_rowT]) ?_
      simp only [List.set_cons_succ, List.set_cons_zero]
      -- its letters
      refine Runs.loop (it := { xs := (up b).map .int }) (h1 := h ++ t)
        (fun l e hh => ∃ x10, e = [some (.ref r), some (upT I), some (upT u), some (upT J), some (.ref h.length), some (.ref q2), some (upT a), some (rowT n (row (sysOf T) (a ++ u))), some (upT b), some (rowT n (row (sysOf T) (a ++ u ++ b.take l))), x10] ∧ hh = h ++ t)
        (ivSeq_of (d := upT b) rfl (itsOf_tup _ _)) ⟨_, by rw [List.take_zero, List.append_nil], rfl⟩ (fun _ _ _ _ _ => rfl) ?_ ?_
      · rintro l d e hh hd ⟨x10, rfl, rfl⟩
        obtain ⟨c, hc, rfl⟩ := take_upA b l hd
        have cb := List.mem_of_getElem? hc
        have cn := lb c cb
        refine ⟨_, _, rfl, ?_⟩
        simp only [List.set_cons_succ, List.set_cons_zero]
        have tk : b.take (l + 1) = b.take l ++ [c] := by rw [List.take_add_one, hc]; rfl
        have pr := pressed2_is T (R.app t) (row (sysOf T) (a ++ u ++ b.take l)) (a := (c : Int) + 1) (by omega) (by omega)
        rw [show ((c : Int) + 1).toNat - 1 = c by omega, ← row_snoc, List.append_assoc (a ++ u), ← tk] at pr
        refine Runs.last fun Q' hQ => ?_
        rw [svAsg_eq, pv_eq, evCall_eq]
        simp only [evsV_cons, evsV_nil, pv_eq, evVar_eq, List.getElem?_cons_zero, List.getElem?_cons_succ, ofV_some, bind_ok, promote_ref, promote_rowT, promote_int, pr, toFl_ok, gvName_eq, nxE_ok]
        subst hQ
        exact ⟨_, _, rfl, _, rfl, rfl⟩
      · rintro e hh ⟨x10, rfl, rfl⟩
        rw [List.length_map, up_length, List.take_length]
        have hb60 : ell (sysOf T) (a ++ u ++ b) ≤ 60 := by
          refine Nat.le_trans (ell_le _) ?_
          rw [List.length_append, List.length_append]; omega
        have bk := back2_is T (R.app t) lab hb60
        have ur := (und_row (S := sysOf T) F pick_hd 60 (a ++ u ++ b) lab hb60).1
        generalize (und (sysOf T) n Cox.hd 60 (row (sysOf T) (a ++ u ++ b))).1 = bw at *
        have gw : (h ++ t ++ [AO.lst ((up bw).map .int)])[(h ++ t).length]? = some (.lst ((up bw).map .int)) := by rw [List.getElem?_concat_length]
        have bl := bLen_ref gw
        rw [List.length_map, up_length, ur] at bl
        have kl := (List.getElem?_eq_some_iff.mp gk).1
        have al := (List.getElem?_eq_some_iff.mp ga).1
        have bL := (List.getElem?_eq_some_iff.mp gb).1
        have gk' : (h ++ t ++ [AO.lst ((up bw).map .int)])[h.length]? = some (.dt (E.map (entL (sysOf T) n))) := by rw [List.getElem?_append_left kl]; exact gk
        obtain ⟨lE, fE⟩ := fewE m
        have dp := dputT_at (fo := evVar 4) (fi := evVar 9) (fv := evB bLen [(evCall d2_law_back [(evVar 0), (evVar 9)])]) (e := [some (.ref r), some (upT I), some (upT u), some (upT J), some (.ref h.length), some (.ref q2), some (upT a), some (rowT n (row (sysOf T) (a ++ u))), some (upT b), some (rowT n (row (sysOf T) (a ++ u ++ b))), x10]) (h := h ++ t) (h1 := h ++ t ++ [AO.lst ((up bw).map .int)]) (h2 := h ++ t ++ [AO.lst ((up bw).map .int)]) (h3 := h ++ t ++ [AO.lst ((up bw).map .int)]) (d := .int (ell (sysOf T) (a ++ u ++ b))) (by
          rw [pv_eq, evB_eq, evs_cons, evCall_eq]
          simp only [evsV_cons, evsV_nil, pv_eq, evVar_eq, List.getElem?_cons_zero, List.getElem?_cons_succ, ofV_some, bind_ok, promote_ref, promote_rowT, bk, evs_nil, bl, ofO_some2, promote_int]) rfl rfl gk' (by rw [rwL_tup]; exact keysD_tupI _) (by rw [List.length_map]; omega)
        rw [put_entL F lE lab] at dp
        refine Runs.last fun Q' hQ => ?_
        rw [dp]
        subst hQ
        have eh2 : h ++ t ++ [AO.lst ((up bw).map .int)] = h ++ (t ++ [AO.lst ((up bw).map .int)]) := by simp
        obtain ⟨t4, e4⟩ := set_tail2 (h := h) (t := t ++ [AO.lst ((up bw).map .int)]) (k := h.length) (o := .dt ((addE (sysOf T) n E (a ++ u ++ b)).map (entL (sysOf T) n))) (Nat.le_refl _)
        rw [← eh2] at e4
        refine ⟨_, _, rfl, t4, addE (sysOf T) n E (a ++ u ++ b), _, _, _, rfl, e4, m.add ha hb, ?_, ?_, ?_⟩
        · rw [List.getElem?_set_self (by rw [List.length_append]; omega)]
        · rw [List.getElem?_set_ne (by omega), List.getElem?_append_left al]; exact ga
        · rw [List.getElem?_set_ne (by omega), List.getElem?_append_left bL]; exact gb
    · rintro e hh ⟨t, E, x8, x9, x10, rfl, rfl, m, gk, ga, gb⟩
      rw [List.length_map] at m
      exact ⟨_, _, rfl, t, E, _, _, _, _, _, rfl, rfl, m.next, gk, ga, gb⟩
  · rintro e hh ⟨t, E, x6, x7, x8, x9, x10, rfl, rfl, m, gk, ga, gb⟩
    rw [List.length_map] at m
    obtain ⟨lE, fE⟩ := fewE m
    refine Runs.last fun Q' hQ => ?_
    rw [svRet_eq, evVar_eq]
    simp only [List.getElem?_cons_zero, List.getElem?_cons_succ, ofV_some, toFl_ok]
    subst hQ
    exact ⟨E, t, m.all F CI.lts CJ.lts hu A1 A2, fE, fin_new (Nat.le_refl _), gk⟩
end
end BW

set_option Elab.async false
set_option linter.all false
set_option maxRecDepth 100000
set_option maxHeartbeats 4000000
namespace BW
open PySem Cox
theorem filter_one {α β : Type} {f : α → β} {p : α → Bool} : ∀ {l : List α}, (l.map f).Nodup → ∀ {v0}, v0 ∈ l → (∀ v ∈ l, p v = true ↔ f v = f v0) → l.filter p = [v0]
  | [], _, _, h, _ => nomatch h
  | y :: l, nd, v0, h0, hp => by
    rw [List.map_cons] at nd
    obtain ⟨n1, n2⟩ := List.nodup_cons.mp nd
    rcases List.mem_cons.mp h0 with rfl | h0
    · rw [List.filter_cons, if_pos ((hp v0 List.mem_cons_self).mpr rfl)]
      congr 1
      rw [List.filter_eq_nil_iff]
      intro v hv z
      exact n1 (List.mem_map.mpr ⟨v, hv, (hp v (List.mem_cons_of_mem _ hv)).mp z⟩)
    · have ne : ¬ p y = true := fun z => n1 (by
        rw [(hp y List.mem_cons_self).mp z]
        exact List.mem_map.mpr ⟨v0, h0, rfl⟩)
      rw [List.filter_cons, if_neg ne]
      exact filter_one n2 h0 fun v hv => hp v (List.mem_cons_of_mem _ hv)
section
variable {S : Sys} {n : Nat} {I J u d : Wd} {E : List Wd}
theorem get_entL : ∀ {K : List Wd}, (K.map (rwL S n)).Nodup → ∀ {w}, w ∈ K → valD (K.map (entL S n)) (keyI (rwL S n w)) = some (.int (ell S w))
  | [], _, _, hw => nomatch hw
  | y :: K, nd, w, hw => by
    rw [List.map_cons] at nd
    obtain ⟨n1, n2⟩ := List.nodup_cons.mp nd
    unfold valD
    rcases List.mem_cons.mp hw with rfl | hk
    · simp [entL]
    · have ne : ¬ (keyI (rwL S n y) = keyI (rwL S n w)) := fun e => n1 (by
        rw [keyI_inj.mp e]
        exact List.mem_map.mpr ⟨w, hk, rfl⟩)
      rw [List.map_cons, List.find?_cons_of_neg (p := fun kv => decide (kv.1 = keyI (rwL S n w))) (a := entL S n y) (fun hd => ne (of_decide_eq_true hd))]
      exact get_entL n2 hk
theorem keysOf_entL (K : List Wd) : keysOf (K.map (entL S n)) = (K.map (rwL S n)).map tupI := by
  unfold keysOf
  rw [List.map_map, List.map_map]
  exact List.map_congr_left fun x _ => keyT_keyI _
theorem dgT_entL {hh : AH} {k : Nat} {K : List Wd} (g : dtOf hh (.ref k) = some (K.map (entL S n))) (nd : (K.map (rwL S n)).Nodup) {w : Wd} (hw : w ∈ K) : dgT hh (.ref k) (tupI (rwL S n w)) = some (.int (ell S w)) := by
  unfold dgT
  rw [g, Option.bind_some, keysD_tupI, Option.bind_some, get_entL nd hw]
theorem DueAll.one (F : S.Fin n) (A : DueAll S n I J u E) (D : DbOk S n I J u d) : ∃ v0, v0 ∈ E ∧ rwL S n v0 = rwL S n d ∧ ell S v0 = ell S d ∧ (∀ v ∈ E, ell S d ≤ ell S v) ∧ E.filter (fun v => decide (ell S v = ell S d)) = [v0] := by
  obtain ⟨v0, h0, e0⟩ := List.mem_map.mp (A.al d D.lts D.dbl.symm)
  have a0 := (rwL_alike F (A.lts v0 h0) D.lts).mp e0
  refine ⟨v0, h0, e0, ell_congr a0, fun v hv => (dbl_uniq D.nI D.nJ (D.dbl.trans (A.of v hv))).1, filter_one A.nd h0 fun v hv => ?_⟩
  rw [decide_eq_true_iff, e0]
  constructor
  · intro z
    exact (rwL_alike F (A.lts v hv) D.lts).mpr ((dbl_uniq D.nI D.nJ (D.dbl.trans (A.of v hv))).2 z)
  · intro z
    exact ell_congr ((rwL_alike F (A.lts v hv) D.lts).mp z)
theorem minVals_is {hh : AH} {k : Nat} {e : Env} {a : Nat} (ha : e[a]? = some (some (.ref k))) (g : dtOf hh (.ref k) = some (E.map (entL S n))) {m : Nat} {v0 : Wd} (h0 : v0 ∈ E) (e0 : ell S v0 = m) (le : ∀ v ∈ E, m ≤ ell S v) : evMinValsT (evVar a) e hh = .ok (.int m) hh := by
  have vs : (E.map (entL S n)).map (·.2) = (E.map fun v => ((ell S v : Nat) : Int)).map .int := by rw [List.map_map, List.map_map]; rfl
  unfold evMinValsT
  rw [evVar_eq, ha, ofV_some, bind_ok, g]
  simp only
  rw [vs, intsOf_ints]
  cases hE : E with
  | nil => rw [hE] at h0; exact nomatch h0
  | cons y l =>
    simp only [List.map_cons]
    rw [minL_uniq (m := (m : Int)) ?_ ?_]
    · have : ((m : Nat) : Int) ∈ (E.map fun v => ((ell S v : Nat) : Int)) := List.mem_map.mpr ⟨v0, h0, by rw [e0]⟩
      rw [hE] at this
      exact this
    · intro j hj
      have : j ∈ (E.map fun v => ((ell S v : Nat) : Int)) := by rw [hE]; exact hj
      obtain ⟨v, hv, rfl⟩ := List.mem_map.mp this
      have := le v hv
      omega
end
end BW

set_option Elab.async false
set_option linter.all false
set_option maxRecDepth 100000
set_option maxHeartbeats 4000000
namespace BW
open PySem Cox
theorem Runs.pass {t : Tv} {a b : Sv} {e : Env} {h h1 : AH} {Q : Fl → Prop} (ht : t e h = .ok false h1) (k : Runs b e h1 Q) : Runs (svSeq (svIf t a svNil) b) e h Q :=
  Runs.seq (by rw [svIf_eq, ht, toFl_ok]; rfl) k
theorem fin_let3 : ((finK.drop 1).all fun p => finK.all fun q => !decide (p.1.length + q.1.length ≤ 3) || decide (p.2.2 + q.2.2 ≤ 9)) = true := by decide +kernel
def pathL : List (List Int) := [[1, 3], [3, 1]]
theorem pathT : Tab 2 (litM pathL) := .lit (by decide) (by decide) (by decide)
theorem dbl_mid {S : Sys} {I J a b u : Wd} (ha : Wi I a) (hb : Wi J b) : Dbl S (· ∈ I) (· ∈ J) u (a ++ u ++ b) := ⟨a, b, ha, hb, Alike.refl _⟩
theorem plain (ns : List Int) (hn : ns.length ≤ 63) (_ : ∀ z ∈ ns, Builtin.Int.intBits z ≤ 1048576) : ∃ h, d_law [.rl (ns.map .int)] [] = .ok (.bl true) h := by
  unfold d_law
  refine Runs.lawR 1000 (K := 3) hn (by omega) rfl (by omega) ?_ ?_
  · intro i ys h hi hy I
    match ys, hy with
    | [x3, x4, x5, x6, x7, x8, x9, x10, x11, x12, x13, x14], _ =>
    have l4 := I.len4
    -- the table
    obtain ⟨q8, r, h1, pk, sk, l, rr, g8, ql8, hp, hs, hn', pl, R1, I1, F1⟩ := finite_is (most := 3) I (by omega) (by omega) (by omega)
    obtain ⟨n, hn2⟩ : ∃ n, pk.1.length + sk.1.length = n := ⟨_, rfl⟩
    rw [hn2] at hn' pl R1
    have n3 : n ≤ 3 := by omega
    have n6 : n ≤ 6 := by omega
    obtain ⟨M, hM⟩ : ∃ M, M = shM l (litM (joinT pk.1 sk.1)) := ⟨_, rfl⟩
    rw [← hM] at R1
    obtain ⟨T, _, t, Tp, et, _⟩ := fin_law hp hs hn2 n6 pl hM
    have wb : pk.2.2 + sk.2.2 ≤ 9 := by
      have := List.all_eq_true.mp (List.all_eq_true.mp fin_let3 pk hp) sk hs
      rw [hn2, decide_eq_true n3, Bool.not_true, Bool.false_or] at this
      exact of_decide_eq_true this
    have le9 : ∀ u, Lts n u → ell (sysOf T) u ≤ 9 := fun u hu => by have := Tp.le hu; omega
    clear wb Tp et hM
    generalize ((pk.2.1 : Int) * (sk.2.1 : Int)) = c1 at *
    generalize ((pk.2.2 : Int) + (sk.2.2 : Int)) = c2 at *
    clear hp hs hn2 pl hn'
    have n1 := T.n1
    have FF := sysOf_fin T
    have i0 : opIx h1 (.ref q8) (.int 0) = some (.ref r) := by rw [opIx_ref g8]; exact atI_0 _ _
    refine Runs.asg (d := .ref r) (h1 := h1) (by
      rw [pv_eq, evOp_eq, evCall_eq]
      simp only [evsV_cons, evsV_nil, pv_eq, evVar_eq, List.getElem?_cons_zero, List.getElem?_cons_succ, ofV_some, bind_ok, promote_ref, evC_eq, promote_int, rr, i0, ofO_some2]) ?_
    simp only [List.set_cons_succ, List.set_cons_zero]
    have R3 : RowsF 4 h1 r n M := R1.low (by omega)
    have l1 := I1.len4
    have bl := R3.at_.len
    refine Runs.asg (d := .int n) (h1 := h1) (by
      rw [pv_eq, evB_eq, evs_cons, evVar_eq]
      simp only [List.getElem?_cons_zero, List.getElem?_cons_succ, ofV_some, bind_ok, evs_nil, bl, ofO_some2, promote_int]) ?_
    simp only [List.set_cons_succ, List.set_cons_zero]
    clear rr bl i0
    -- bonds, word
    have mk := make_is R3.at_ T (f := evVar 3) (e := [some (.rl (ns.map .int)), some (.ref 2), some (.int i), some (.ref r), some (.int n), x5, x6, x7, x8, x9, x10, x11, x12, x13, x14]) (h0 := h1) (by simp)
    have I4 := I1.app [.sins "Bonds" [some (.tup (tabL n M))]]
    have F4 : Frame 4 h1 (h1 ++ [.sins "Bonds" [some (.tup (tabL n M))]]) := Frame.app _ _ _
    have B4 : BondsAt (h1 ++ [.sins "Bonds" [some (.tup (tabL n M))]]) h1.length n M := by unfold BondsAt; simp
    generalize hb : h1.length = b at *
    generalize h1 ++ [AO.sins "Bonds" [some (.tup (tabL n M))]] = h4 at *
    obtain ⟨w, q, h5, r5, g5, q4, Lw, wl, I5, F5⟩ := word2_is (most := 10) I4 (by omega) n1 n6 (by omega) (by omega)
    have bt := bTuple_ref g5
    have ew : D.tup (w.map .int) = upT (wd w) := (upT_wd Lw).symm
    rw [ew] at bt
    refine Runs.par2 (h1 := h4) (h2 := h5) (d := .ref b) (d' := upT (wd w)) (by rw [pv_eq, mk, bind_ok]; rfl) (by
      rw [pv_eq, evB_eq, evs_cons, evCall_eq]
      simp only [evsV_cons, evsV_nil, pv_eq, evVar_eq, List.getElem?_cons_zero, List.getElem?_cons_succ, ofV_some, bind_ok, promote_ref, evC_eq, promote_int, r5, evs_nil, bt, ofO_some2, promote_upT]) ?_
    simp only [List.set_cons_succ, List.set_cons_zero]
    have lu := wd_lts Lw
    have ul : (wd w).length ≤ 10 := by rw [wd_length]; omega
    generalize wd w = u at *
    -- choices
    obtain ⟨ci, h6, r6, CI, I6, F6⟩ := choice2_is (n := n) I5 (by omega) n6
    obtain ⟨cj, h7, r7, CJ, I7, F7⟩ := choice2_is (n := n) I6 (by omega) n6
    refine Runs.par2 (h1 := h6) (h2 := h7) (d := upT ci) (d' := upT cj) (by simp [r6]) (by simp [r7]) ?_
    simp only [List.set_cons_succ, List.set_cons_zero]
    have F57 := F6.trans F7
    have B7 : BondsAt h7 b n M := F57.at_ (by omega) (F5.at_ (by omega) B4)
    have R7 := ((R3.frame F4 (Nat.le_refl _)).frame F5 (Nat.le_refl _)).frame F57 (Nat.le_refl _)
    clear mk r5 r6 r7 bt ew g5 g8
    have u9 := le9 u lu
    have dk := dbW_ok (I := ci) (J := cj) FF CI.lts CJ.lts lu (by omega)
    have lb : ∀ t, d_least_between [.ref b, upT ci, upT u, upT cj] (h7 ++ t) = .ok (upT (dbW (sysOf T) n ci cj u)) (h7 ++ t) := fun t => by
      have := leastBetween_is T (B7.app t) CI CJ (wordU (h7 ++ t) u) (up_letters lu) (by rw [up_length]; omega)
      rwa [wd_up] at this
    have lb0 := lb []
    rw [List.append_nil] at lb0
    -- told, due
    obtain ⟨E, t8, A, fE, bw, gE⟩ := between_is T R7.at_ CI CJ lu (by omega) n3 le9
    have same := fun (v : Wd) (lv : Lts n v) (z : Dbl (sysOf T) (· ∈ ci) (· ∈ cj) u v) => dbW_same (I := ci) (J := cj) FF CI.lts CJ.lts lu (by omega) lv (by have := le9 v lv; omega) z
    generalize hd : dbW (sysOf T) n ci cj u = d at *
    refine Runs.par2 (h1 := h7) (h2 := h7 ++ t8) (d := upT d) (d' := .ref h7.length) (by
      rw [pv_eq, evCall_eq]
      simp only [evsV_cons, evsV_nil, pv_eq, evVar_eq, List.getElem?_cons_zero, List.getElem?_cons_succ, ofV_some, bind_ok, promote_ref, promote_upT, lb0]) (by
      rw [pv_eq, evCall_eq]
      simp only [evsV_cons, evsV_nil, pv_eq, evVar_eq, List.getElem?_cons_zero, List.getElem?_cons_succ, ofV_some, bind_ok, promote_ref, promote_upT, bw]) ?_
    simp only [List.set_cons_succ, List.set_cons_zero]
    clear bw lb lb0
    have F8 : Frame 4 h7 (h7 ++ t8) := Frame.app _ _ _
    have I8 := I7.app t8
    have l7 := I7.len4
    have B8 : BondsAt (h7 ++ t8) b n M := B7.app t8
    have R8 := R7.frame F8 (Nat.le_refl _)
    have b7 : b < h7.length := (List.getElem?_eq_some_iff.mp B7).1
    have El := (List.getElem?_eq_some_iff.mp gE).1
    generalize hq7 : h7.length = q7 at *
    generalize h7 ++ t8 = h8 at *
    -- the least ones
    obtain ⟨v0, v0E, e0, el0, le0, fo⟩ := A.one FF dk
    have I9 := I8.set (k := q7) (.fz (E.map (entL (sysOf T) n))) (by omega) (by omega) (by omega)
    have F9 : Frame 4 h7 (h8.set q7 (.fz (E.map (entL (sysOf T) n)))) := F8.set _ (by omega)
    have dt : dtOf (h8.set q7 (.fz (E.map (entL (sysOf T) n)))) (.ref q7) = some (E.map (entL (sysOf T) n)) := by
      unfold dtOf
      simp only [List.getElem?_set_self El]
    have iv : ivKeys (evVar 10) [some (.rl (ns.map .int)), some (.ref 2), some (.int i), some (.ref r), some (.int n), some (.ref b), some (upT u), some (upT ci), some (upT cj), some (upT d), some (.ref q7), x11, x12, x13, x14] h8 = .ok { xs := (E.map (rwL (sysOf T) n)).map tupI } (h8.set q7 (.fz (E.map (entL (sysOf T) n)))) := by
      unfold ivKeys
      rw [evVar_eq]
      simp only [List.getElem?_cons_zero, List.getElem?_cons_succ, ofV_some, bind_ok, gE, keysOf_entL]
    have B9 : BondsAt (h8.set q7 (.fz (E.map (entL (sysOf T) n)))) b n M := F9.at_ (by omega) B7
    have R9 := R7.frame F9 (Nat.le_refl _)
    generalize h8.set q7 (.fz (E.map (entL (sysOf T) n))) = h9 at *
    have lcg := lcGo_on (g := none) (gv := Tgt.gv (.one 14)) (tt := tvOf (evOp opEq (evDgT (evVar 10) (evVar 14)) (evMinValsT (evVar 10)))) (elt := evVar 14) (e := wipeE [some (.rl (ns.map .int)), some (.ref 2), some (.int i), some (.ref r), some (.int n), some (.ref b), some (upT u), some (upT ci), some (upT cj), some (upT d), some (.ref q7), x11, x12, x13, x14] (Tgt.own (.one 14))) (h := h9) (fun v => rwT T v) (fun v => decide (ell (sysOf T) v = ell (sysOf T) d)) (fun v => rwT T v) E rfl (fun v hv => by
      have dg := dgT_entL dt A.nd hv
      have mv := minVals_is (e := [some (.rl (ns.map .int)), some (.ref 2), some (.int i), some (.ref r), some (.int n), some (.ref b), some (upT u), some (upT ci), some (upT cj), some (upT d), some (.ref q7), x11, x12, x13, some (rwT T v)]) (a := 10) rfl dt v0E el0 le0
      refine ⟨_, rfl, ?_, fun _ => ?_⟩
      · show tvOf _ [some (.rl (ns.map .int)), some (.ref 2), some (.int i), some (.ref r), some (.int n), some (.ref b), some (upT u), some (upT ci), some (upT cj), some (upT d), some (.ref q7), x11, x12, x13, some (rwT T v)] h9 = _
        rw [tvOf_eq, evOp_eq]
        unfold evDgT
        rw [evVar_eq]
        simp only [List.getElem?_cons_zero, List.getElem?_cons_succ, ofV_some, bind_ok, evVar_eq, dg, ofO_some2, mv, opEq_int, tv_bl]
        congr 1
        rw [decide_eq_decide]
        omega
      · rfl)
    rw [fo] at lcg
    have rwmap : E.map (rwT T) = (E.map (rwL (sysOf T) n)).map tupI := by rw [List.map_map]; rfl
    have rwmap' : E.map (fun v => rwT T v) = (E.map (rwL (sysOf T) n)).map tupI := rwmap
    rw [rwmap'] at lcg
    have ev0 : ([v0].map fun v => rwT T v) = [rwT T d] := by simp [rwT, e0]
    rw [ev0] at lcg
    refine Runs.asgR (xs := [rwT T d]) (h1 := h9) (by
      rw [evLc_eq, iv, bind_ok]
      simp only
      rw [if_pos (by rw [List.length_map, List.length_map]; omega), lcg, bind_ok]) ?_
    simp only [List.set_cons_succ, List.set_cons_zero]
    clear lcg iv dt rwmap rwmap' ev0 fo
    have I10 := I9.app [.lst [rwT T d]]
    have F10 : Frame 4 h9 (h9 ++ [.lst [rwT T d]]) := Frame.app _ _ _
    have g10 : (h9 ++ [AO.lst [rwT T d]])[h9.length]? = some (.lst [rwT T d]) := by simp
    have B10 : BondsAt (h9 ++ [.lst [rwT T d]]) b n M := B9.app _
    have R10 := R9.frame F10 (Nat.le_refl _)
    have l9 := I9.len4
    generalize h9 ++ [AO.lst [rwT T d]] = h10 at *
    generalize h9.length = q9 at *
    -- compared
    have d9 : d.length ≤ 9 := by have := dk.len; omega
    have bl := bLen_ref g10
    have i0 : opIx h10 (.ref q9) (.int 0) = some (rwT T d) := by rw [opIx_ref g10]; exact atI_0 _ _
    have rd := row2_is T R10.at_ (wordU h10 d) (up_letters dk.lts)
    have ld := least2_is T R10.at_ (wordU h10 d) (up_letters dk.lts) (by rw [wd_up]; have := le9 d dk.lts; omega)
    rw [wd_up] at rd ld
    rw [dk.lst] at ld
    have nr := ne_rowT h10 n (row (sysOf T) d) (row (sysOf T) d)
    rw [decide_eq_true rfl] at nr
    have nu : ∀ h', opNe h' (upT d) (upT d) = some (.bl false) := fun h' => by
      unfold upT
      rw [opNe_ints, decide_eq_true rfl]; rfl
    refine Runs.pass (h1 := h10) (by
      rw [tvOr_eq, tvOf_eq, evOp_eq, evB_eq, evs_cons, evVar_eq]
      simp only [List.getElem?_cons_zero, List.getElem?_cons_succ, ofV_some, bind_ok, evs_nil, bl, ofO_some2, evC_eq, List.length_cons, List.length_nil, opNe_int, tv_bl]
      rw [decide_eq_true (by omega)]
      simp only [Bool.not_true, Bool.false_eq_true, if_false]
      rw [tvOr_eq, tvOf_eq, evOp_eq, evCall_eq]
      simp only [evsV_cons, evsV_nil, pv_eq, evVar_eq, List.getElem?_cons_zero, List.getElem?_cons_succ, ofV_some, bind_ok, promote_ref, promote_upT, rd, evOp_eq, evC_eq, i0, ofO_some2]
      rw [show rwT T d = rowT n (row (sysOf T) d) from rfl, nr]
      simp only [ofO_some2, bind_ok, tv_bl, Bool.not_true, Bool.false_eq_true, if_false]
      rw [tvOf_eq, evOp_eq, evVar_eq]
      simp only [evCall_eq, evsV_cons, evsV_nil, pv_eq, evVar_eq, List.getElem?_cons_zero, List.getElem?_cons_succ, ofV_some, bind_ok, promote_ref, promote_upT, ld, nu, ofO_some2, tv_bl]) ?_
    clear bl i0 rd ld nr
    -- one
    obtain ⟨K1, t1, q1, A1, k1, f1, w1, hq1, g1⟩ := within_is T R10.at_ CI n3 le9
    have Ia := I10.app t1
    have Fa : Frame 4 h10 (h10 ++ t1) := Frame.app _ _ _
    have Ra := R10.frame Fa (Nat.le_refl _)
    have Ba : BondsAt (h10 ++ t1) b n M := B10.app _
    have l10 := I10.len4
    generalize h10 ++ t1 = ha at *
    obtain ⟨kd, hb', rd, kd0, kd1, Ib, Fb, lbb⟩ := draw4 (limit := 2) Ia (by omega) (by omega) (by omega)
    have Rb := Ra.frame Fb (Nat.le_refl _)
    have Bb : BondsAt hb' b n M := Fb.at_ (by omega) Ba
    obtain ⟨K2, t2, q2, A2, k2, f2, w2, hq2, g2⟩ := within_is T Rb.at_ CI n3 le9
    have Ic := Ib.app t2
    have Fc : Frame 4 hb' (hb' ++ t2) := Frame.app _ _ _
    have Rc := Rb.frame Fc (Nat.le_refl _)
    have Bc : BondsAt (hb' ++ t2) b n M := Bb.app _
    have g1c := Fc.at_ (by omega) (Fb.at_ (by omega) g1)
    have lbb' := Ib.len4
    generalize hb' ++ t2 = hc at *
    have kk : K1.length = K2.length := Nat.le_antisymm (A1.len_le A2) (A2.len_le A1)
    have kpos : 0 < K1.length := by
      have := A1.al [] (fun _ h => nomatch h)
      obtain ⟨x, hx, _⟩ := List.mem_map.mp this
      exact List.length_pos_of_mem hx
    obtain ⟨j, hj, jl⟩ : ∃ j : Nat, kd * ((K2.length : Int) - 1) = j ∧ j < K1.length := by
      have : kd = 0 ∨ kd = 1 := by omega
      rcases this with rfl | rfl
      · exact ⟨0, by simp, kpos⟩
      · exact ⟨K2.length - 1, by omega, by omega⟩
    have bl2 := bLen_ref g2
    rw [List.length_map] at bl2
    have mu : opMul hc (.int kd) (.int ((K2.length : Int) - 1)) = some (.int j) := by
      rw [opMul_at hc (.inl (smallI_of (by omega) (by omega))), hj]
    have ixj : opIx hc (.ref q1) (.int j) = some (upT K1[j]) := by
      rw [opIx_ref g1c]
      refine atI_get (by omega) ?_
      rw [List.getElem?_map, Int.toNat_natCast, List.getElem?_eq_getElem jl]
      rfl
    have jK : K1[j] ∈ K1 := List.getElem_mem jl
    generalize K1[j] = one at *
    refine Runs.asg (d := upT one) (h1 := hc) (by
      rw [pv_eq, evOp_eq, evCall_eq]
      simp only [evsV_cons, evsV_nil, pv_eq, evVar_eq, List.getElem?_cons_zero, List.getElem?_cons_succ, ofV_some, bind_ok, promote_ref, promote_upT, w1]
      rw [evOp_eq, evCall_eq]
      simp only [evsV_cons, evsV_nil, pv_eq, evVar_eq, List.getElem?_cons_zero, List.getElem?_cons_succ, ofV_some, bind_ok, promote_ref, evC_eq, promote_int, rd]
      rw [evOp_eq, evB_eq, evs_cons, evCall_eq]
      simp only [evsV_cons, evsV_nil, pv_eq, evVar_eq, List.getElem?_cons_zero, List.getElem?_cons_succ, ofV_some, bind_ok, promote_ref, promote_upT, w2, evs_nil, bl2, ofO_some2, evC_eq, opSub_int, mu, ixj]) ?_
    simp only [List.set_cons_succ, List.set_cons_zero]
    clear w1 w2 rd bl2 mu ixj
    obtain ⟨o1, o2⟩ := A1.wi one jK
    have o9 := k1 one jK
    -- other
    obtain ⟨K3, t3, q3, A3, k3, f3, w3, hq3, g3⟩ := within_is T Rc.at_ CJ n3 le9
    have Id := Ic.app t3
    have Fd : Frame 4 hc (hc ++ t3) := Frame.app _ _ _
    have Bd : BondsAt (hc ++ t3) b n M := Bc.app _
    generalize hc ++ t3 = hd' at *
    obtain ⟨K4, other, e4⟩ : ∃ K4 other, K3 = K4 ++ [other] := by
      rcases List.eq_nil_or_concat K3 with z | ⟨K4, x, z⟩
      · exfalso
        have := A3.al [] (fun _ h => nomatch h)
        rw [z] at this
        exact absurd this (by simp)
      · exact ⟨K4, x, by rw [z, List.concat_eq_append]⟩
    have oK : other ∈ K3 := by rw [e4]; simp
    have en : ∀ e h, evNeg (evC (.int 1)) e h = .ok (.int (-1)) h := fun _ _ => rfl
    have ixl : opIx hd' (.ref q3) (.int (-1)) = some (upT other) := by
      rw [opIx_ref g3, e4, List.map_append, List.map_singleton, atI_last]
    refine Runs.asg (d := upT other) (h1 := hd') (by
      rw [pv_eq, evOp_eq, evCall_eq]
      simp only [evsV_cons, evsV_nil, pv_eq, evVar_eq, List.getElem?_cons_zero, List.getElem?_cons_succ, ofV_some, bind_ok, promote_ref, promote_upT, w3]
      rw [en, bind_ok, ixl, ofO_some2, bind_ok, promote_upT]) ?_
    simp only [List.set_cons_succ, List.set_cons_zero]
    clear w3 ixl
    obtain ⟨p1, p2⟩ := A3.wi other oK
    have p9 := k3 other oK
    -- the same
    have lo := o1.lts CI.lts
    have lp := p1.lts CJ.lts
    have lou : Lts n (one ++ u ++ other) := (lo.app lu).app lp
    have s1 := same _ lou (dbl_mid o1 p1)
    have ad1 := add_upU hd' one u (by omega)
    have ad2 := add_upU hd' (one ++ u) other (by rw [List.length_append]; omega)
    have lb2 := leastBetween_is T Bd CI CJ (wordU hd' (one ++ u ++ other)) (up_letters lou) (by rw [up_length, List.length_append, List.length_append]; omega)
    rw [wd_up, s1] at lb2
    refine Runs.pass (h1 := hd') (by
      rw [tvOf_eq, evOp_eq, evCall_eq]
      simp only [evsV_cons, evsV_nil, pv_eq, evVar_eq, evOp_eq, List.getElem?_cons_zero, List.getElem?_cons_succ, ofV_some, bind_ok, promote_ref, promote_upT, ad1, ad2, ofO_some2, lb2, nu, tv_bl]) ?_
    -- ahead, behind
    have ah := isAhead_is T Bd CJ (wordU hd' d) (up_letters dk.lts) (by rw [up_length]; omega)
    have be := isBehind_is T Bd CI (wordU hd' d) (up_letters dk.lts) (by rw [up_length]; omega)
    rw [wd_up, no_end' dk.nJ, decide_eq_true rfl] at ah
    rw [wd_up, no_end' (u := d.reverse) (c := ci) (fun a ha => by
      have := dk.nI a ha
      rw [ell_rev, ← this, ← ell_rev (S := sysOf T) (a :: d)]
      simp), decide_eq_true rfl] at be
    refine Runs.last fun Q' hQ => ?_
    rw [svIf_eq, tvOr_eq, tvNot_eq, tvOf_eq, evCall_eq]
    simp only [evsV_cons, evsV_nil, pv_eq, evVar_eq, List.getElem?_cons_zero, List.getElem?_cons_succ, ofV_some, bind_ok, promote_ref, promote_upT, ah, tv_bl, Bool.not_true, Bool.false_eq_true, if_false]
    rw [tvNot_eq, tvOf_eq, evCall_eq]
    simp only [evsV_cons, evsV_nil, pv_eq, evVar_eq, List.getElem?_cons_zero, List.getElem?_cons_succ, ofV_some, bind_ok, promote_ref, promote_upT, be, tv_bl, Bool.not_true, toFl_ok, Bool.false_eq_true, if_false, svNil_eq]
    subst hQ
    exact ⟨_, _, _, rfl, rfl, Id.mono (by omega)⟩
  · intro y2 ys h hy I
    match ys, hy with
    | [x3, x4, x5, x6, x7, x8, x9, x10, x11, x12, x13, x14], _ =>
    obtain ⟨h0, e0⟩ := endlessR_is I (by omega)
    have R := litRows pathL h0 (n := 2) rfl (by decide)
    have pe : pv (evLst [(evLst [(evC (.int 1)), (evC (.int 3))]), (evLst [(evC (.int 3)), (evC (.int 1))])]) (some (.rl (ns.map .int)) :: some (.ref 2) :: y2 :: [x3, x4, x5, x6, x7, x8, x9, x10, x11, x12, x13, x14]) h0 = .ok (.ref (h0.length + 2)) (h0 ++ (pathL.map (fun row => AO.lst (row.map .int)) ++ [.lst ((List.range 2).map fun i => .ref (h0.length + i))])) := by
      simp [pathL, List.range, List.range.loop]
    have mk := make_isP R pathT pe
    generalize h0 ++ (pathL.map (fun row => AO.lst (row.map .int)) ++ [.lst ((List.range 2).map fun i => .ref (h0.length + i))]) = h1 at *
    have B : BondsAt (h1 ++ [.sins "Bonds" [some (.tup (tabL 2 (litM pathL)))]]) h1.length 2 (litM pathL) := by unfold BondsAt; simp
    generalize h1.length = b at *
    generalize h1 ++ [AO.sins "Bonds" [some (.tup (tabL 2 (litM pathL)))]] = h2 at *
    have C1 : Chosen 2 [0] := ⟨by unfold Lts; decide, by decide⟩
    have La : Letters 2 [1, 2, 1] := by unfold Letters; decide
    have lb := leastBetween_is pathT B C1 C1 (wordT h2 [1, 2, 1]) La (by decide)
    rw [show dbW (sysOf pathT) 2 [0] [0] (wd [1, 2, 1]) = [1] by decide +kernel] at lb
    have u0 : upT [0] = .tup [.int 1] := rfl
    have u1 : upT [1] = .tup [.int 2] := rfl
    simp only [u0, u1, List.map_cons, List.map_nil] at lb
    have q2 := eq_same (h := h2) (a := .tup [.int 2]) (b := .tup [.int 2]) (p := .tuple [.int 2]) rfl rfl
    refine Runs.last fun Q' hQ => ?_
    have left : evCall d2_law_endless_right [(evVar 1)] (some (.rl (ns.map .int)) :: some (.ref 2) :: y2 :: [x3, x4, x5, x6, x7, x8, x9, x10, x11, x12, x13, x14]) h = .ok (.bl true) h0 := by
      rw [evCall_eq]
      simp only [evsV_cons, evsV_nil, pv_eq, evVar_eq, List.getElem?_cons_zero, List.getElem?_cons_succ, ofV_some, bind_ok, promote_ref, e0]
    rw [svRet_eq, evAnd_eq, left, bind_ok, tv_bl, bind_ok, if_pos rfl, evOp_eq, evCall_eq, evsV_cons, pv_eq, mk, bind_ok, promote_ref, bind_ok]
    simp [lb, q2]
    subst hQ
    simp only [fin_ret]
    rcases fin_or (h := []) (h2 := h2) (d := .bl true) rfl with z | z
    · exact ⟨_, z⟩
    · exact ⟨_, z⟩
end BW

set_option Elab.async false
set_option linter.all false
set_option maxRecDepth 100000
set_option maxHeartbeats 4000000
namespace BW
open PySem PySem.Spec PyProof.Rows L2
variable [Tb]
def topS (i : Nat) : Stmt := PySem.Challenge.pw_bondwords_k47_whole_least_between.main.body.getD i (.Pass ⟨0, 0, 0, 0⟩)
theorem sc_is_whole : FnScope ["value"] ["value"] (defScope (topS 13)) := ⟨rfl, rfl, rfl, by decide +kernel, rfl, by decide +kernel, by decide +kernel⟩
theorem ok_is_whole {P : Program} {w : World} {K : PySem.W.Frag} {mg : Str → Option Value} {base : Heap} {f : Addr} {fd : FuncData} (F : Fun K "is_whole" "is_whole" (topS 13) f fd) (m : mg "is_whole" = some (.ref f)) (B : Bi mg) : Fn P w K mg base "is_whole" 1 1 d_is_whole :=
  fn_mk 0 F m sc_is_whole (F.binds fun _ _ _ _ _ _ us hl => match us, hl with | [_], _ => rfl) fun cdv A outer s H E hr =>
    have tk := takes_of (X := cxOf (L2.CX P w) P w K mg base ["value"] "is_whole" (defScope (topS 13)) f cdv A outer s H E) rfl rfl rfl rfl
    have po := passes_of (X := cxOf (L2.CX P w) P w K mg base ["value"] "is_whole" (defScope (topS 13)) f cdv A outer s H E) rfl
    (den_bone (den_ret (den_vand (den_isi rfl B.isinstance rfl B.int (by decide +kernel) (dv 0)) (den_vone (den_vnot (den_isi rfl B.isinstance rfl B.bool (by decide +kernel) (dv 0)))))))
theorem sc_is_among : FnScope ["value", "least", "most"] ["value", "least", "most"] (defScope (topS 14)) := ⟨rfl, rfl, rfl, by decide +kernel, rfl, by decide +kernel, by decide +kernel⟩
theorem ok_is_among {P : Program} {w : World} {K : PySem.W.Frag} {mg : Str → Option Value} {base : Heap} {f : Addr} {fd : FuncData} (F : Fun K "is_among" "is_among" (topS 14) f fd) (m : mg "is_among" = some (.ref f)) (B : Bi mg) (c_is_whole : Fn P w K mg base "is_whole" 1 1 d_is_whole) : Fn P w K mg base "is_among" 2 3 d_is_among :=
  fn_mk 1 F m sc_is_among (F.binds fun _ _ _ _ _ _ us hl => match us, hl with | [_, _, _], _ => rfl) fun cdv A outer s H E hr =>
    have tk := takes_of (X := cxOf (L2.CX P w) P w K mg base ["value", "least", "most"] "is_among" (defScope (topS 14)) f cdv A outer s H E) rfl rfl rfl rfl
    have po := passes_of (X := cxOf (L2.CX P w) P w K mg base ["value", "least", "most"] "is_among" (defScope (topS 14)) f cdv A outer s H E) rfl
    (den_bone (den_ret (den_vand (den_callF c_is_whole hr tk (den_consV (dv 0) den_nilV)) (den_vone (den_chain opd_le opd_le (dv 1) (dv 0) (dv 2))))))
theorem sc_is_list : FnScope ["value"] ["value"] (defScope (topS 15)) := ⟨rfl, rfl, rfl, by decide +kernel, rfl, by decide +kernel, by decide +kernel⟩
theorem ok_is_list {P : Program} {w : World} {K : PySem.W.Frag} {mg : Str → Option Value} {base : Heap} {f : Addr} {fd : FuncData} (F : Fun K "is_list" "is_list" (topS 15) f fd) (m : mg "is_list" = some (.ref f)) (B : Bi mg) : Fn P w K mg base "is_list" 1 1 d_is_list :=
  fn_mk 0 F m sc_is_list (F.binds fun _ _ _ _ _ _ us hl => match us, hl with | [_], _ => rfl) fun cdv A outer s H E hr =>
    have tk := takes_of (X := cxOf (L2.CX P w) P w K mg base ["value"] "is_list" (defScope (topS 15)) f cdv A outer s H E) rfl rfl rfl rfl
    have po := passes_of (X := cxOf (L2.CX P w) P w K mg base ["value"] "is_list" (defScope (topS 15)) f cdv A outer s H E) rfl
    (den_bone (den_ret (den_isiLT rfl B.isinstance rfl B.list rfl B.tuple (dv 0))))
theorem sc_is_bond : FnScope ["rows", "one", "other", "value"] ["rows", "one", "other"] (defScope (topS 16)) := ⟨rfl, rfl, rfl, by decide +kernel, rfl, by decide +kernel, by decide +kernel⟩
theorem ok_is_bond {P : Program} {w : World} {K : PySem.W.Frag} {mg : Str → Option Value} {base : Heap} {f : Addr} {fd : FuncData} (F : Fun K "is_bond" "is_bond" (topS 16) f fd) (m : mg "is_bond" = some (.ref f)) (B : Bi mg) (g_KINDS : TupG K mg "KINDS" [.int 2, .int 3, .int 4, .int 6, .int 0]) (c_is_among : Fn P w K mg base "is_among" 2 3 d_is_among) (c_is_whole : Fn P w K mg base "is_whole" 1 1 d_is_whole) : Fn P w K mg base "is_bond" 3 3 d_is_bond :=
  fn_mk 2 F m sc_is_bond (F.binds fun _ _ _ _ _ _ us hl => match us, hl with | [_, _, _], _ => rfl) fun cdv A outer s H E hr =>
    have tk := takes_of (X := cxOf (L2.CX P w) P w K mg base ["rows", "one", "other", "value"] "is_bond" (defScope (topS 16)) f cdv A outer s H E) rfl rfl rfl rfl
    have po := passes_of (X := cxOf (L2.CX P w) P w K mg base ["rows", "one", "other", "value"] "is_bond" (defScope (topS 16)) f cdv A outer s H E) rfl
    (den_bcons (den_set (i := 3) sc_is_bond.nd rfl (by first | exact Or.inl rfl | exact Or.inr rfl) (den_ix (den_ix (dv 0) (dv 1)) (dv 2)))
      (den_bcons (den_ifS (den_tcmp (opd_eq hr.units) (dv 1) (dv 2)) (den_bone (den_ret (den_callF c_is_among hr tk (den_consV (dv 3) (den_consV den_int (den_consV den_int den_nilV)))))) den_bnil)
      (den_bone (den_ret (den_vand (den_callF c_is_whole hr tk (den_consV (dv 3) den_nilV)) (den_vand (den_inG g_KINDS rfl rfl (dv 3)) (den_vone (den_vor (den_cmp opd_lt (dv 1) (dv 2)) (den_vone (den_cmp (opd_eq hr.units) (dv 3) (den_ix (den_ix (dv 0) (dv 2)) (dv 1))))))))))))
theorem sc_need_rows : FnScope ["rows", "row", "one", "other"] ["rows"] (defScope (topS 17)) := ⟨rfl, rfl, rfl, by decide +kernel, rfl, by decide +kernel, by decide +kernel⟩
theorem ok_need_rows {P : Program} {w : World} {K : PySem.W.Frag} {mg : Str → Option Value} {base : Heap} {f : Addr} {fd : FuncData} (F : Fun K "need_rows" "need_rows" (topS 17) f fd) (m : mg "need_rows" = some (.ref f)) (B : Bi mg) (x_BadBonds : XC1 P K mg "BadBonds") (x_TooGreat : XC1 P K mg "TooGreat") (g_MOST_LETTERS : GI mg "MOST_LETTERS" 6) (c_is_list : Fn P w K mg base "is_list" 1 1 d_is_list) (c_is_bond : Fn P w K mg base "is_bond" 3 3 d_is_bond) : Fn P w K mg base "need_rows" 4 1 d_need_rows :=
  fn_mk 3 F m sc_need_rows (F.binds fun _ _ _ _ _ _ us hl => match us, hl with | [_], _ => rfl) fun cdv A outer s H E hr =>
    have tk := takes_of (X := cxOf (L2.CX P w) P w K mg base ["rows", "row", "one", "other"] "need_rows" (defScope (topS 17)) f cdv A outer s H E) rfl rfl rfl rfl
    have po := passes_of (X := cxOf (L2.CX P w) P w K mg base ["rows", "row", "one", "other"] "need_rows" (defScope (topS 17)) f cdv A outer s H E) rfl
    (den_bcons (den_ifS (PW.pt (den_or (den_tnot (den_tval (den_callF c_is_list hr tk (den_consV (dv 0) den_nilV)))) (den_or1 (den_tcmp (opd_eq hr.units) (den_callB cd_len rfl B.len (by decide +kernel) (den_cons (dv 0) den_nil)) den_int)))) (den_bone (den_raise1 x_BadBonds B.super hr tk den_non)) den_bnil)
      (den_bcons (den_ifS (den_tcmp opd_gt (den_callB cd_len rfl B.len (by decide +kernel) (den_cons (dv 0) den_nil)) (den_gi g_MOST_LETTERS)) (den_bone (den_raise1 x_TooGreat B.super hr tk (den_gi g_MOST_LETTERS))) den_bnil)
      (den_bcons (den_for po rfl (den_iseq (dv 0)) (den_gname (i := 1) sc_need_rows.nd rfl (by first | exact Or.inl rfl | exact Or.inr rfl)) (den_bone (den_ifS (PW.pt (den_or (den_tnot (den_tval (den_callF c_is_list hr tk (den_consV (dv 1) den_nilV)))) (den_or1 (den_tcmp (opd_ne hr.units) (den_callB cd_len rfl B.len (by decide +kernel) (den_cons (dv 1) den_nil)) (den_callB cd_len rfl B.len (by decide +kernel) (den_cons (dv 0) den_nil)))))) (den_bone (den_raise1 x_BadBonds B.super hr tk den_non)) den_bnil)))
      (den_bone (den_for po rfl (den_range1 rfl B.range (den_cons (den_callB cd_len rfl B.len (by decide +kernel) (den_cons (dv 0) den_nil)) den_nil)) (den_gname (i := 2) sc_need_rows.nd rfl (by first | exact Or.inl rfl | exact Or.inr rfl)) (den_bone (den_for po rfl (den_range1 rfl B.range (den_cons (den_callB cd_len rfl B.len (by decide +kernel) (den_cons (dv 0) den_nil)) den_nil)) (den_gname (i := 3) sc_need_rows.nd rfl (by first | exact Or.inl rfl | exact Or.inr rfl)) (den_bone (den_ifS (den_tnot (den_tval (den_callF c_is_bond hr tk (den_consV (dv 0) (den_consV (dv 2) (den_consV (dv 3) den_nilV)))))) (den_bone (den_raise1 x_BadBonds B.super hr tk (den_tup (den_consV (den_op opd_add (dv 2) den_int) (den_consV (den_op opd_add (dv 3) den_int) den_nilV))))) den_bnil)))))))))
theorem sc_Bonds___init__ : FnScope ["self", "rows", "row"] ["self", "rows"] (defScope (inClass (topS 18) 1)) := ⟨rfl, rfl, rfl, by decide +kernel, rfl, by decide +kernel, by decide +kernel⟩
theorem ok_Bonds___init__ {P : Program} {w : World} {K : PySem.W.Frag} {mg : Str → Option Value} {base : Heap} {f : Addr} {fd : FuncData} {C : Addr} (F : Fun K "__init__" "Bonds.__init__" (inClass (topS 18) 1) f fd) (hC : mg "Bonds" = some (.ref C)) (m : Mk K C f) (B : Bi mg) (sB : SC K mg "Bonds" "table") (c_need_rows : Fn P w K mg base "need_rows" 4 1 d_need_rows) : Mkr P w K mg base "Bonds" 5 2 d_Bonds___init__ :=
  mkr_mk 4 F hC m sc_Bonds___init__ (F.binds fun _ _ _ _ _ _ us hl => match us, hl with | [_, _], _ => rfl) fun cdv A outer s H E hr =>
    have tk := takes_of (X := cxOf (L2.CX P w) P w K mg base ["self", "rows", "row"] "Bonds.__init__" (defScope (inClass (topS 18) 1)) f cdv A outer s H E) rfl rfl rfl rfl
    have po := passes_of (X := cxOf (L2.CX P w) P w K mg base ["self", "rows", "row"] "Bonds.__init__" (defScope (inClass (topS 18) 1)) f cdv A outer s H E) rfl
    (den_bcons (den_expr (den_callF c_need_rows hr tk (den_consV (dv 1) den_nilV)))
      (den_bone (den_setslot sB (dv 0) (den_callTy cd_tuple rfl B.tuple (by decide +kernel) (den_cons (den_lc (own := [("row", 2)]) (.one 2) rfl sc_Bonds___init__.nd (den_iseq (dv 1)) rfl (blkOk_by (by kernel_rfl)) (fun _ _ _ _ _ => pg_name (i := 2) sc_Bonds___init__.nd rfl (by first | exact Or.inl rfl | exact Or.inr rfl)) (fun _ _ _ _ _ => den_noif) (fun _ _ _ _ _ => (den_callTy cd_tuple rfl B.tuple (by decide +kernel) (den_cons (dv 2) den_nil)))) den_nil)))))
theorem sc_Bonds___len__ : FnScope ["self"] ["self"] (defScope (inClass (topS 18) 2)) := ⟨rfl, rfl, rfl, by decide +kernel, rfl, by decide +kernel, by decide +kernel⟩
theorem ok_Bonds___len__ {P : Program} {w : World} {K : PySem.W.Frag} {mg : Str → Option Value} {base : Heap} {f : Addr} {fd : FuncData} {C : Addr} (F : Fun K "__len__" "Bonds.__len__" (inClass (topS 18) 2) f fd) (hC : mg "Bonds" = some (.ref C)) (m : Meth K C "__len__" f) (B : Bi mg) (sB : SC K mg "Bonds" "table") : Mt P w K mg base "Bonds" "__len__" 1 1 d_Bonds___len__ :=
  mt_mk 0 F hC m sc_Bonds___len__ (F.binds fun _ _ _ _ _ _ us hl => match us, hl with | [_], _ => rfl) fun cdv A outer s H E hr =>
    have tk := takes_of (X := cxOf (L2.CX P w) P w K mg base ["self"] "Bonds.__len__" (defScope (inClass (topS 18) 2)) f cdv A outer s H E) rfl rfl rfl rfl
    have po := passes_of (X := cxOf (L2.CX P w) P w K mg base ["self"] "Bonds.__len__" (defScope (inClass (topS 18) 2)) f cdv A outer s H E) rfl
    (den_bone (den_ret (den_callB cd_len rfl B.len (by decide +kernel) (den_cons (den_slot sB (dv 0)) den_nil))))
theorem sc_Bonds_need_letter : FnScope ["self", "value"] ["self", "value"] (defScope (inClass (topS 18) 4)) := ⟨rfl, rfl, rfl, by decide +kernel, rfl, by decide +kernel, by decide +kernel⟩
theorem ok_Bonds_need_letter {P : Program} {w : World} {K : PySem.W.Frag} {mg : Str → Option Value} {base : Heap} {f : Addr} {fd : FuncData} {C : Addr} (F : Fun K "need_letter" "Bonds.need_letter" (inClass (topS 18) 4) f fd) (hC : mg "Bonds" = some (.ref C)) (m : Meth K C "need_letter" f) (B : Bi mg) (sB : SC K mg "Bonds" "table") (x_BadNumber : XC1 P K mg "BadNumber") (c_is_among : Fn P w K mg base "is_among" 2 3 d_is_among) : Mt P w K mg base "Bonds" "need_letter" 3 2 d_Bonds_need_letter :=
  mt_mk 2 F hC m sc_Bonds_need_letter (F.binds fun _ _ _ _ _ _ us hl => match us, hl with | [_, _], _ => rfl) fun cdv A outer s H E hr =>
    have tk := takes_of (X := cxOf (L2.CX P w) P w K mg base ["self", "value"] "Bonds.need_letter" (defScope (inClass (topS 18) 4)) f cdv A outer s H E) rfl rfl rfl rfl
    have po := passes_of (X := cxOf (L2.CX P w) P w K mg base ["self", "value"] "Bonds.need_letter" (defScope (inClass (topS 18) 4)) f cdv A outer s H E) rfl
    (den_bone (den_ifS (den_tnot (den_tval (den_callF c_is_among hr tk (den_consV (dv 1) (den_consV den_int (den_consV (den_callB cd_len rfl B.len (by decide +kernel) (den_cons (den_slot sB (dv 0)) den_nil)) den_nilV)))))) (den_bone (den_raise1 x_BadNumber B.super hr tk (dv 1))) den_bnil))
theorem sc_Bonds_weight : FnScope ["self", "one", "other", "pair"] ["self", "one", "other"] (defScope (inClass (topS 18) 6)) := ⟨rfl, rfl, rfl, by decide +kernel, rfl, by decide +kernel, by decide +kernel⟩
theorem ok_Bonds_weight {P : Program} {w : World} {K : PySem.W.Frag} {mg : Str → Option Value} {base : Heap} {f : Addr} {fd : FuncData} {C : Addr} (F : Fun K "weight" "Bonds.weight" (inClass (topS 18) 6) f fd) (hC : mg "Bonds" = some (.ref C)) (m : Meth K C "weight" f) (B : Bi mg) (sB : SC K mg "Bonds" "table") (g_WEIGHTS : DctG K mg "WEIGHTS" [(2, [0, 0]), (3, [1, 1]), (4, [1, 2]), (6, [1, 3]), (0, [2, 2])]) (c_Bonds_need_letter : Mt P w K mg base "Bonds" "need_letter" 3 2 d_Bonds_need_letter) : Mt P w K mg base "Bonds" "weight" 4 3 d_Bonds_weight :=
  mt_mk 3 F hC m sc_Bonds_weight (F.binds fun _ _ _ _ _ _ us hl => match us, hl with | [_, _, _], _ => rfl) fun cdv A outer s H E hr =>
    have tk := takes_of (X := cxOf (L2.CX P w) P w K mg base ["self", "one", "other", "pair"] "Bonds.weight" (defScope (inClass (topS 18) 6)) f cdv A outer s H E) rfl rfl rfl rfl
    have po := passes_of (X := cxOf (L2.CX P w) P w K mg base ["self", "one", "other", "pair"] "Bonds.weight" (defScope (inClass (topS 18) 6)) f cdv A outer s H E) rfl
    (den_bcons (den_expr (den_meth sB c_Bonds_need_letter hr tk wc_E (dv 0) (den_consV (dv 1) den_nilV)))
      (den_bcons (den_expr (den_meth sB c_Bonds_need_letter hr tk wc_E (dv 0) (den_consV (dv 2) den_nilV)))
      (den_bcons (den_ifS (den_tcmp (opd_eq hr.units) (dv 1) (dv 2)) (den_bone (den_ret (den_neg den_int))) den_bnil)
      (den_bcons (den_set (i := 3) sc_Bonds_weight.nd rfl (by first | exact Or.inl rfl | exact Or.inr rfl) (den_wget g_WEIGHTS rfl (den_ix (den_ix (den_slot sB (dv 0)) (den_op opd_sub (dv 1) den_int)) (den_op opd_sub (dv 2) den_int))))
      (den_bone (den_ret (den_if (den_tcmp opd_lt (dv 1) (dv 2)) (den_ixK (dv 3) den_int) (den_ixK (dv 3) den_int))))))))
theorem sc_need_word : FnScope ["bonds", "word", "place", "letter"] ["bonds", "word"] (defScope (topS 19)) := ⟨rfl, rfl, rfl, by decide +kernel, rfl, by decide +kernel, by decide +kernel⟩
theorem ok_need_word {P : Program} {w : World} {K : PySem.W.Frag} {mg : Str → Option Value} {base : Heap} {f : Addr} {fd : FuncData} (F : Fun K "need_word" "need_word" (topS 19) f fd) (m : mg "need_word" = some (.ref f)) (B : Bi mg) (sB : SC K mg "Bonds" "table") (x_BadWord : XC1 P K mg "BadWord") (x_TooGreat : XC1 P K mg "TooGreat") (g_MOST_WORD : GI mg "MOST_WORD" 60) (c_is_list : Fn P w K mg base "is_list" 1 1 d_is_list) (c_Bonds___len__ : Mt P w K mg base "Bonds" "__len__" 1 1 d_Bonds___len__) (c_is_among : Fn P w K mg base "is_among" 2 3 d_is_among) : Fn P w K mg base "need_word" 3 2 d_need_word :=
  fn_mk 2 F m sc_need_word (F.binds fun _ _ _ _ _ _ us hl => match us, hl with | [_, _], _ => rfl) fun cdv A outer s H E hr =>
    have tk := takes_of (X := cxOf (L2.CX P w) P w K mg base ["bonds", "word", "place", "letter"] "need_word" (defScope (topS 19)) f cdv A outer s H E) rfl rfl rfl rfl
    have po := passes_of (X := cxOf (L2.CX P w) P w K mg base ["bonds", "word", "place", "letter"] "need_word" (defScope (topS 19)) f cdv A outer s H E) rfl
    (den_bcons (den_ifS (den_tnot (den_tval (den_callF c_is_list hr tk (den_consV (dv 1) den_nilV)))) (den_bone (den_raise1 x_BadWord B.super hr tk den_non)) den_bnil)
      (den_bcons (den_ifS (den_tcmp opd_gt (den_callB cd_len rfl B.len (by decide +kernel) (den_cons (dv 1) den_nil)) (den_gi g_MOST_WORD)) (den_bone (den_raise1 x_TooGreat B.super hr tk (den_gi g_MOST_WORD))) den_bnil)
      (den_bone (den_for po rfl (den_enum rfl B.enumerate (den_cons (dv 1) den_nil)) (den_gtup rfl (den_gcons (den_gname (i := 2) sc_need_word.nd rfl (by first | exact Or.inl rfl | exact Or.inr rfl)) (den_gcons (den_gname (i := 3) sc_need_word.nd rfl (by first | exact Or.inl rfl | exact Or.inr rfl)) den_gnil))) (den_bone (den_ifS (den_tnot (den_tval (den_callF c_is_among hr tk (den_consV (dv 3) (den_consV den_int (den_consV (den_lenO sB c_Bonds___len__ hr tk wc_E rfl B.len (dv 0)) den_nilV)))))) (den_bone (den_raise1 x_BadWord B.super hr tk (dv 2))) den_bnil))))))
theorem sc_start : FnScope ["bonds"] ["bonds"] (defScope (topS 21)) := ⟨rfl, rfl, rfl, by decide +kernel, rfl, by decide +kernel, by decide +kernel⟩
theorem ok_start {P : Program} {w : World} {K : PySem.W.Frag} {mg : Str → Option Value} {base : Heap} {f : Addr} {fd : FuncData} (F : Fun K "start" "start" (topS 21) f fd) (m : mg "start" = some (.ref f)) (B : Bi mg) (sB : SC K mg "Bonds" "table") (c_Bonds___len__ : Mt P w K mg base "Bonds" "__len__" 1 1 d_Bonds___len__) : Fn P w K mg base "start" 3 1 d_start :=
  fn_mk 2 F m sc_start (F.binds fun _ _ _ _ _ _ us hl => match us, hl with | [_], _ => rfl) fun cdv A outer s H E hr =>
    have tk := takes_of (X := cxOf (L2.CX P w) P w K mg base ["bonds"] "start" (defScope (topS 21)) f cdv A outer s H E) rfl rfl rfl rfl
    have po := passes_of (X := cxOf (L2.CX P w) P w K mg base ["bonds"] "start" (defScope (topS 21)) f cdv A outer s H E) rfl
    (den_bone (den_ret (den_op opd_mul (den_tup (den_consV den_int den_nilV)) (den_lenO sB c_Bonds___len__ hr tk wc_E rfl B.len (dv 0)))))
theorem sc_pressed : FnScope ["bonds", "row", "letter", "number", "place", "one"] ["bonds", "row", "letter"] (defScope (topS 22)) := ⟨rfl, rfl, rfl, by decide +kernel, rfl, by decide +kernel, by decide +kernel⟩
theorem ok_pressed {P : Program} {w : World} {K : PySem.W.Frag} {mg : Str → Option Value} {base : Heap} {f : Addr} {fd : FuncData} (F : Fun K "pressed" "pressed" (topS 22) f fd) (m : mg "pressed" = some (.ref f)) (B : Bi mg) (sB : SC K mg "Bonds" "table") (c_Bonds_weight : Mt P w K mg base "Bonds" "weight" 4 3 d_Bonds_weight) : Fn P w K mg base "pressed" 5 3 d_pressed :=
  fn_mk 4 F m sc_pressed (F.binds fun _ _ _ _ _ _ us hl => match us, hl with | [_, _, _], _ => rfl) fun cdv A outer s H E hr =>
    have tk := takes_of (X := cxOf (L2.CX P w) P w K mg base ["bonds", "row", "letter", "number", "place", "one"] "pressed" (defScope (topS 22)) f cdv A outer s H E) rfl rfl rfl rfl
    have po := passes_of (X := cxOf (L2.CX P w) P w K mg base ["bonds", "row", "letter", "number", "place", "one"] "pressed" (defScope (topS 22)) f cdv A outer s H E) rfl
    (den_bcons (den_set (i := 3) sc_pressed.nd rfl (by first | exact Or.inl rfl | exact Or.inr rfl) (den_ix (dv 1) (den_op opd_sub (dv 2) den_int)))
      (den_bone (den_ret (den_callTy cd_tuple rfl B.tuple (by decide +kernel) (den_cons (den_lc (own := [("place", 4), ("one", 5)]) (.two 4 5) rfl sc_pressed.nd (den_enum rfl B.enumerate (den_cons (dv 1) den_nil)) rfl (blkOk_by (by kernel_rfl)) (fun _ _ _ _ _ => pg_tup rfl (pgs_cons (pg_name (i := 4) sc_pressed.nd rfl (by first | exact Or.inl rfl | exact Or.inr rfl)) (pgs_cons (pg_name (i := 5) sc_pressed.nd rfl (by first | exact Or.inl rfl | exact Or.inr rfl)) pgs_nil))) (fun _ _ _ _ _ => den_noif) (fun _ _ _ _ _ => (den_op opd_add (dv 5) (den_op opd_mul (den_meth sB c_Bonds_weight hr takes_none5 wc_0 (dv 0) (den_consV (dv 2) (den_consV (den_op opd_add (dv 4) den_int) den_nilV))) (dv 3))))) den_nil)))))
theorem sc_row_by : FnScope ["bonds", "word", "row", "letter"] ["bonds", "word"] (defScope (topS 23)) := ⟨rfl, rfl, rfl, by decide +kernel, rfl, by decide +kernel, by decide +kernel⟩
theorem ok_row_by {P : Program} {w : World} {K : PySem.W.Frag} {mg : Str → Option Value} {base : Heap} {f : Addr} {fd : FuncData} (F : Fun K "row_by" "row_by" (topS 23) f fd) (m : mg "row_by" = some (.ref f)) (B : Bi mg) (c_start : Fn P w K mg base "start" 3 1 d_start) (c_pressed : Fn P w K mg base "pressed" 5 3 d_pressed) : Fn P w K mg base "row_by" 6 2 d_row_by :=
  fn_mk 5 F m sc_row_by (F.binds fun _ _ _ _ _ _ us hl => match us, hl with | [_, _], _ => rfl) fun cdv A outer s H E hr =>
    have tk := takes_of (X := cxOf (L2.CX P w) P w K mg base ["bonds", "word", "row", "letter"] "row_by" (defScope (topS 23)) f cdv A outer s H E) rfl rfl rfl rfl
    have po := passes_of (X := cxOf (L2.CX P w) P w K mg base ["bonds", "word", "row", "letter"] "row_by" (defScope (topS 23)) f cdv A outer s H E) rfl
    (den_bcons (den_set (i := 2) sc_row_by.nd rfl (by first | exact Or.inl rfl | exact Or.inr rfl) (den_callF c_start hr tk (den_consV (dv 0) den_nilV)))
      (den_bcons (den_for po rfl (den_iseq (dv 1)) (den_gname (i := 3) sc_row_by.nd rfl (by first | exact Or.inl rfl | exact Or.inr rfl)) (den_bone (den_set (i := 2) sc_row_by.nd rfl (by first | exact Or.inl rfl | exact Or.inr rfl) (den_callF c_pressed hr tk (den_consV (dv 0) (den_consV (dv 2) (den_consV (dv 3) den_nilV)))))))
      (den_bone (den_ret (dv 2)))))
theorem sc_below : FnScope ["row", "place", "number"] ["row"] (defScope (topS 24)) := ⟨rfl, rfl, rfl, by decide +kernel, rfl, by decide +kernel, by decide +kernel⟩
theorem ok_below {P : Program} {w : World} {K : PySem.W.Frag} {mg : Str → Option Value} {base : Heap} {f : Addr} {fd : FuncData} (F : Fun K "below" "below" (topS 24) f fd) (m : mg "below" = some (.ref f)) (B : Bi mg) : Fn P w K mg base "below" 1 1 d_below :=
  fn_mk 0 F m sc_below (F.binds fun _ _ _ _ _ _ us hl => match us, hl with | [_], _ => rfl) fun cdv A outer s H E hr =>
    have tk := takes_of (X := cxOf (L2.CX P w) P w K mg base ["row", "place", "number"] "below" (defScope (topS 24)) f cdv A outer s H E) rfl rfl rfl rfl
    have po := passes_of (X := cxOf (L2.CX P w) P w K mg base ["row", "place", "number"] "below" (defScope (topS 24)) f cdv A outer s H E) rfl
    (den_bone (den_ret (den_callTy cd_tuple rfl B.tuple (by decide +kernel) (den_cons (den_lc (own := [("place", 1), ("number", 2)]) (.two 1 2) rfl sc_below.nd (den_enum rfl B.enumerate (den_cons (dv 0) den_nil)) rfl (blkOk_by (by kernel_rfl)) (fun _ _ _ _ _ => pg_tup rfl (pgs_cons (pg_name (i := 1) sc_below.nd rfl (by first | exact Or.inl rfl | exact Or.inr rfl)) (pgs_cons (pg_name (i := 2) sc_below.nd rfl (by first | exact Or.inl rfl | exact Or.inr rfl)) pgs_nil))) (fun _ _ _ _ _ => den_oneif (den_tcmp opd_lt (dv 2) den_int)) (fun _ _ _ _ _ => (den_op opd_add (dv 1) den_int))) den_nil))))
theorem sc_undone : FnScope ["bonds", "row", "found", "here"] ["bonds", "row"] (defScope (topS 25)) := ⟨rfl, rfl, rfl, by decide +kernel, rfl, by decide +kernel, by decide +kernel⟩
theorem ok_undone {P : Program} {w : World} {K : PySem.W.Frag} {mg : Str → Option Value} {base : Heap} {f : Addr} {fd : FuncData} (F : Fun K "undone" "undone" (topS 25) f fd) (m : mg "undone" = some (.ref f)) (B : Bi mg) (g_MOST_WORD : GI mg "MOST_WORD" 60) (c_below : Fn P w K mg base "below" 1 1 d_below) (c_pressed : Fn P w K mg base "pressed" 5 3 d_pressed) (c_start : Fn P w K mg base "start" 3 1 d_start) : Fn P w K mg base "undone" 6 2 d_undone :=
  fn_mk 5 F m sc_undone (F.binds fun _ _ _ _ _ _ us hl => match us, hl with | [_, _], _ => rfl) fun cdv A outer s H E hr =>
    have tk := takes_of (X := cxOf (L2.CX P w) P w K mg base ["bonds", "row", "found", "here"] "undone" (defScope (topS 25)) f cdv A outer s H E) rfl rfl rfl rfl
    have po := passes_of (X := cxOf (L2.CX P w) P w K mg base ["bonds", "row", "found", "here"] "undone" (defScope (topS 25)) f cdv A outer s H E) rfl
    (den_bcons (by first | exact den_par2 ((den_consV (den_lst den_nilV) (den_consV (dv 1) den_nilV))) sc_undone.nd rfl rfl | exact den_parG2 (den_tup (den_consV (den_lst den_nilV) (den_consV (dv 1) den_nilV))) (den_gtup rfl (den_gcons (den_gname (i := 2) sc_undone.nd rfl (by first | exact Or.inl rfl | exact Or.inr rfl)) (den_gcons (den_gname (i := 3) sc_undone.nd rfl (by first | exact Or.inl rfl | exact Or.inr rfl)) den_gnil))))
      (den_bcons (den_while po (PW.pt (den_and (den_tcmp (opd_ne hr.units) (den_callF c_below hr tk (den_consV (dv 3) den_nilV)) (den_tup den_nilV)) (den_and1 (den_tcmp opd_lt (den_callB cd_len rfl B.len (by decide +kernel) (den_cons (dv 2) den_nil)) (den_gi g_MOST_WORD))))) (den_bcons (den_expr (den_append (dv 2) (den_ix (den_callF c_below hr tk (den_consV (dv 3) den_nilV)) den_int)))
      (den_bone (den_set (i := 3) sc_undone.nd rfl (by first | exact Or.inl rfl | exact Or.inr rfl) (den_callF c_pressed hr tk (den_consV (dv 0) (den_consV (dv 3) (den_consV (den_ix (dv 2) (den_neg den_int)) den_nilV))))))))
      (den_bone (den_ret (den_if (den_tcmp (opd_eq hr.units) (dv 3) (den_callF c_start hr tk (den_consV (dv 0) den_nilV))) (den_callTy cd_tuple rfl B.tuple (by decide +kernel) (den_cons (dv 2) den_nil)) den_non)))))
theorem sc_shortest_by : FnScope ["bonds", "word"] ["bonds", "word"] (defScope (topS 26)) := ⟨rfl, rfl, rfl, by decide +kernel, rfl, by decide +kernel, by decide +kernel⟩
theorem ok_shortest_by {P : Program} {w : World} {K : PySem.W.Frag} {mg : Str → Option Value} {base : Heap} {f : Addr} {fd : FuncData} (F : Fun K "shortest_by" "shortest_by" (topS 26) f fd) (m : mg "shortest_by" = some (.ref f)) (B : Bi mg) (c_row_by : Fn P w K mg base "row_by" 6 2 d_row_by) (c_undone : Fn P w K mg base "undone" 6 2 d_undone) : Fn P w K mg base "shortest_by" 7 2 d_shortest_by :=
  fn_mk 6 F m sc_shortest_by (F.binds fun _ _ _ _ _ _ us hl => match us, hl with | [_, _], _ => rfl) fun cdv A outer s H E hr =>
    have tk := takes_of (X := cxOf (L2.CX P w) P w K mg base ["bonds", "word"] "shortest_by" (defScope (topS 26)) f cdv A outer s H E) rfl rfl rfl rfl
    have po := passes_of (X := cxOf (L2.CX P w) P w K mg base ["bonds", "word"] "shortest_by" (defScope (topS 26)) f cdv A outer s H E) rfl
    (den_bone (den_ret (den_callF c_undone hr tk (den_consV (dv 0) (den_consV (den_callF c_row_by hr tk (den_consV (dv 0) (den_consV (den_rev (den_callTy cd_tuple rfl B.tuple (by decide +kernel) (den_cons (dv 1) den_nil))) den_nilV))) den_nilV)))))
theorem sc_word_by : FnScope ["bonds", "row"] ["bonds", "row"] (defScope (topS 28)) := ⟨rfl, rfl, rfl, by decide +kernel, rfl, by decide +kernel, by decide +kernel⟩
theorem ok_word_by {P : Program} {w : World} {K : PySem.W.Frag} {mg : Str → Option Value} {base : Heap} {f : Addr} {fd : FuncData} (F : Fun K "word_by" "word_by" (topS 28) f fd) (m : mg "word_by" = some (.ref f)) (B : Bi mg) (c_undone : Fn P w K mg base "undone" 6 2 d_undone) (c_shortest_by : Fn P w K mg base "shortest_by" 7 2 d_shortest_by) : Fn P w K mg base "word_by" 8 2 d_word_by :=
  fn_mk 7 F m sc_word_by (F.binds fun _ _ _ _ _ _ us hl => match us, hl with | [_, _], _ => rfl) fun cdv A outer s H E hr =>
    have tk := takes_of (X := cxOf (L2.CX P w) P w K mg base ["bonds", "row"] "word_by" (defScope (topS 28)) f cdv A outer s H E) rfl rfl rfl rfl
    have po := passes_of (X := cxOf (L2.CX P w) P w K mg base ["bonds", "row"] "word_by" (defScope (topS 28)) f cdv A outer s H E) rfl
    (den_bone (den_ret (den_callF c_shortest_by hr tk (den_consV (dv 0) (den_consV (den_rev (den_callF c_undone hr tk (den_consV (dv 0) (den_consV (dv 1) den_nilV)))) den_nilV)))))
theorem sc_is_choice : FnScope ["bonds", "value", "letter", "one", "other"] ["bonds", "value"] (defScope (topS 30)) := ⟨rfl, rfl, rfl, by decide +kernel, rfl, by decide +kernel, by decide +kernel⟩
theorem ok_is_choice {P : Program} {w : World} {K : PySem.W.Frag} {mg : Str → Option Value} {base : Heap} {f : Addr} {fd : FuncData} (F : Fun K "is_choice" "is_choice" (topS 30) f fd) (m : mg "is_choice" = some (.ref f)) (B : Bi mg) (sB : SC K mg "Bonds" "table") (c_Bonds___len__ : Mt P w K mg base "Bonds" "__len__" 1 1 d_Bonds___len__) (c_is_among : Fn P w K mg base "is_among" 2 3 d_is_among) : Fn P w K mg base "is_choice" 3 2 d_is_choice :=
  fn_mk 2 F m sc_is_choice (F.binds fun _ _ _ _ _ _ us hl => match us, hl with | [_, _], _ => rfl) fun cdv A outer s H E hr =>
    have tk := takes_of (X := cxOf (L2.CX P w) P w K mg base ["bonds", "value", "letter", "one", "other"] "is_choice" (defScope (topS 30)) f cdv A outer s H E) rfl rfl rfl rfl
    have po := passes_of (X := cxOf (L2.CX P w) P w K mg base ["bonds", "value", "letter", "one", "other"] "is_choice" (defScope (topS 30)) f cdv A outer s H E) rfl
    (den_bcons (den_ifS (PW.pt (den_or (den_tnot (den_tval (den_isi rfl B.isinstance rfl B.tuple (by decide +kernel) (dv 1)))) (den_or1 (den_tnot (den_tval (den_callB (cd_all rfl) rfl B.all (by decide +kernel) (den_cons (den_lc (own := [("letter", 2)]) (.one 2) rfl sc_is_choice.nd (den_iseq (dv 1)) rfl (blkOk_by (by kernel_rfl)) (fun _ _ _ _ _ => pg_name (i := 2) sc_is_choice.nd rfl (by first | exact Or.inl rfl | exact Or.inr rfl)) (fun _ _ _ _ _ => den_noif) (fun _ _ _ _ _ => (den_callF c_is_among hr takes_none5 (den_consV (dv 2) (den_consV den_int (den_consV (den_lenO sB c_Bonds___len__ hr takes_none5 wc_0 rfl B.len (dv 0)) den_nilV)))))) den_nil))))))) (den_bone (den_ret den_bl)) den_bnil)
      (den_bone (den_ret (den_callB (cd_all rfl) rfl B.all (by decide +kernel) (den_cons (den_lc (own := [("one", 3), ("other", 4)]) (.two 3 4) rfl sc_is_choice.nd (den_zip rfl B.zip (den_cons (dv 1) (den_cons (den_sl (dv 1) (den_psome den_int) den_pnone) den_nil))) rfl (blkOk_by (by kernel_rfl)) (fun _ _ _ _ _ => pg_tup rfl (pgs_cons (pg_name (i := 3) sc_is_choice.nd rfl (by first | exact Or.inl rfl | exact Or.inr rfl)) (pgs_cons (pg_name (i := 4) sc_is_choice.nd rfl (by first | exact Or.inl rfl | exact Or.inr rfl)) pgs_nil))) (fun _ _ _ _ _ => den_noif) (fun _ _ _ _ _ => (den_cmp opd_lt (dv 3) (dv 4)))) den_nil)))))
theorem sc_need_choice : FnScope ["bonds", "value"] ["bonds", "value"] (defScope (topS 31)) := ⟨rfl, rfl, rfl, by decide +kernel, rfl, by decide +kernel, by decide +kernel⟩
theorem ok_need_choice {P : Program} {w : World} {K : PySem.W.Frag} {mg : Str → Option Value} {base : Heap} {f : Addr} {fd : FuncData} (F : Fun K "need_choice" "need_choice" (topS 31) f fd) (m : mg "need_choice" = some (.ref f)) (B : Bi mg) (x_BadChoice : XC1 P K mg "BadChoice") (c_is_choice : Fn P w K mg base "is_choice" 3 2 d_is_choice) : Fn P w K mg base "need_choice" 4 2 d_need_choice :=
  fn_mk 3 F m sc_need_choice (F.binds fun _ _ _ _ _ _ us hl => match us, hl with | [_, _], _ => rfl) fun cdv A outer s H E hr =>
    have tk := takes_of (X := cxOf (L2.CX P w) P w K mg base ["bonds", "value"] "need_choice" (defScope (topS 31)) f cdv A outer s H E) rfl rfl rfl rfl
    have po := passes_of (X := cxOf (L2.CX P w) P w K mg base ["bonds", "value"] "need_choice" (defScope (topS 31)) f cdv A outer s H E) rfl
    (den_bone (den_ifS (den_tnot (den_tval (den_callF c_is_choice hr tk (den_consV (dv 0) (den_consV (dv 1) den_nilV))))) (den_bone (den_raise1 x_BadChoice B.super hr tk (dv 1))) den_bnil))
theorem sc_ends_in : FnScope ["row", "choice", "letter"] ["row", "choice"] (defScope (topS 32)) := ⟨rfl, rfl, rfl, by decide +kernel, rfl, by decide +kernel, by decide +kernel⟩
theorem ok_ends_in {P : Program} {w : World} {K : PySem.W.Frag} {mg : Str → Option Value} {base : Heap} {f : Addr} {fd : FuncData} (F : Fun K "ends_in" "ends_in" (topS 32) f fd) (m : mg "ends_in" = some (.ref f)) (B : Bi mg) : Fn P w K mg base "ends_in" 1 2 d_ends_in :=
  fn_mk 0 F m sc_ends_in (F.binds fun _ _ _ _ _ _ us hl => match us, hl with | [_, _], _ => rfl) fun cdv A outer s H E hr =>
    have tk := takes_of (X := cxOf (L2.CX P w) P w K mg base ["row", "choice", "letter"] "ends_in" (defScope (topS 32)) f cdv A outer s H E) rfl rfl rfl rfl
    have po := passes_of (X := cxOf (L2.CX P w) P w K mg base ["row", "choice", "letter"] "ends_in" (defScope (topS 32)) f cdv A outer s H E) rfl
    (den_bone (den_ret (den_lc (own := [("letter", 2)]) (.one 2) rfl sc_ends_in.nd (den_iseq (dv 1)) rfl (blkOk_by (by kernel_rfl)) (fun _ _ _ _ _ => pg_name (i := 2) sc_ends_in.nd rfl (by first | exact Or.inl rfl | exact Or.inr rfl)) (fun _ _ _ _ _ => den_oneif (den_tcmp opd_lt (den_ix (dv 0) (den_op opd_sub (dv 2) den_int)) den_int)) (fun _ _ _ _ _ => (dv 2)))))
theorem sc_is_ahead : FnScope ["bonds", "word", "choice"] ["bonds", "word", "choice"] (defScope (topS 33)) := ⟨rfl, rfl, rfl, by decide +kernel, rfl, by decide +kernel, by decide +kernel⟩
theorem ok_is_ahead {P : Program} {w : World} {K : PySem.W.Frag} {mg : Str → Option Value} {base : Heap} {f : Addr} {fd : FuncData} (F : Fun K "is_ahead" "is_ahead" (topS 33) f fd) (m : mg "is_ahead" = some (.ref f)) (B : Bi mg) (c_need_word : Fn P w K mg base "need_word" 3 2 d_need_word) (c_need_choice : Fn P w K mg base "need_choice" 4 2 d_need_choice) (c_row_by : Fn P w K mg base "row_by" 6 2 d_row_by) (c_ends_in : Fn P w K mg base "ends_in" 1 2 d_ends_in) : Fn P w K mg base "is_ahead" 7 3 d_is_ahead :=
  fn_mk 6 F m sc_is_ahead (F.binds fun _ _ _ _ _ _ us hl => match us, hl with | [_, _, _], _ => rfl) fun cdv A outer s H E hr =>
    have tk := takes_of (X := cxOf (L2.CX P w) P w K mg base ["bonds", "word", "choice"] "is_ahead" (defScope (topS 33)) f cdv A outer s H E) rfl rfl rfl rfl
    have po := passes_of (X := cxOf (L2.CX P w) P w K mg base ["bonds", "word", "choice"] "is_ahead" (defScope (topS 33)) f cdv A outer s H E) rfl
    (den_bcons (den_expr (den_callF c_need_word hr tk (den_consV (dv 0) (den_consV (dv 1) den_nilV))))
      (den_bcons (den_expr (den_callF c_need_choice hr tk (den_consV (dv 0) (den_consV (dv 2) den_nilV))))
      (den_bone (den_ret (den_cmp (opd_eq hr.units) (den_callF c_ends_in hr tk (den_consV (den_callF c_row_by hr tk (den_consV (dv 0) (den_consV (dv 1) den_nilV))) (den_consV (dv 2) den_nilV))) (den_lst den_nilV))))))
theorem sc_is_behind : FnScope ["bonds", "word", "choice"] ["bonds", "word", "choice"] (defScope (topS 34)) := ⟨rfl, rfl, rfl, by decide +kernel, rfl, by decide +kernel, by decide +kernel⟩
theorem ok_is_behind {P : Program} {w : World} {K : PySem.W.Frag} {mg : Str → Option Value} {base : Heap} {f : Addr} {fd : FuncData} (F : Fun K "is_behind" "is_behind" (topS 34) f fd) (m : mg "is_behind" = some (.ref f)) (B : Bi mg) (c_need_word : Fn P w K mg base "need_word" 3 2 d_need_word) (c_need_choice : Fn P w K mg base "need_choice" 4 2 d_need_choice) (c_row_by : Fn P w K mg base "row_by" 6 2 d_row_by) (c_ends_in : Fn P w K mg base "ends_in" 1 2 d_ends_in) : Fn P w K mg base "is_behind" 7 3 d_is_behind :=
  fn_mk 6 F m sc_is_behind (F.binds fun _ _ _ _ _ _ us hl => match us, hl with | [_, _, _], _ => rfl) fun cdv A outer s H E hr =>
    have tk := takes_of (X := cxOf (L2.CX P w) P w K mg base ["bonds", "word", "choice"] "is_behind" (defScope (topS 34)) f cdv A outer s H E) rfl rfl rfl rfl
    have po := passes_of (X := cxOf (L2.CX P w) P w K mg base ["bonds", "word", "choice"] "is_behind" (defScope (topS 34)) f cdv A outer s H E) rfl
    (den_bcons (den_expr (den_callF c_need_word hr tk (den_consV (dv 0) (den_consV (dv 1) den_nilV))))
      (den_bcons (den_expr (den_callF c_need_choice hr tk (den_consV (dv 0) (den_consV (dv 2) den_nilV))))
      (den_bone (den_ret (den_cmp (opd_eq hr.units) (den_callF c_ends_in hr tk (den_consV (den_callF c_row_by hr tk (den_consV (dv 0) (den_consV (den_rev (den_callTy cd_tuple rfl B.tuple (by decide +kernel) (den_cons (dv 1) den_nil))) den_nilV))) (den_consV (dv 2) den_nilV))) (den_lst den_nilV))))))
theorem sc_parted_by : FnScope ["bonds", "word", "choice", "row", "rest", "some"] ["bonds", "word", "choice"] (defScope (topS 35)) := ⟨rfl, rfl, rfl, by decide +kernel, rfl, by decide +kernel, by decide +kernel⟩
theorem ok_parted_by {P : Program} {w : World} {K : PySem.W.Frag} {mg : Str → Option Value} {base : Heap} {f : Addr} {fd : FuncData} (F : Fun K "parted_by" "parted_by" (topS 35) f fd) (m : mg "parted_by" = some (.ref f)) (B : Bi mg) (c_row_by : Fn P w K mg base "row_by" 6 2 d_row_by) (c_ends_in : Fn P w K mg base "ends_in" 1 2 d_ends_in) (c_pressed : Fn P w K mg base "pressed" 5 3 d_pressed) (c_word_by : Fn P w K mg base "word_by" 8 2 d_word_by) (c_shortest_by : Fn P w K mg base "shortest_by" 7 2 d_shortest_by) : Fn P w K mg base "parted_by" 9 3 d_parted_by :=
  fn_mk 8 F m sc_parted_by (F.binds fun _ _ _ _ _ _ us hl => match us, hl with | [_, _, _], _ => rfl) fun cdv A outer s H E hr =>
    have tk := takes_of (X := cxOf (L2.CX P w) P w K mg base ["bonds", "word", "choice", "row", "rest", "some"] "parted_by" (defScope (topS 35)) f cdv A outer s H E) rfl rfl rfl rfl
    have po := passes_of (X := cxOf (L2.CX P w) P w K mg base ["bonds", "word", "choice", "row", "rest", "some"] "parted_by" (defScope (topS 35)) f cdv A outer s H E) rfl
    (den_bcons (by first | exact den_par2 ((den_consV (den_callF c_row_by hr tk (den_consV (dv 0) (den_consV (dv 1) den_nilV))) (den_consV (den_lst den_nilV) den_nilV))) sc_parted_by.nd rfl rfl | exact den_parG2 (den_tup (den_consV (den_callF c_row_by hr tk (den_consV (dv 0) (den_consV (dv 1) den_nilV))) (den_consV (den_lst den_nilV) den_nilV))) (den_gtup rfl (den_gcons (den_gname (i := 3) sc_parted_by.nd rfl (by first | exact Or.inl rfl | exact Or.inr rfl)) (den_gcons (den_gname (i := 4) sc_parted_by.nd rfl (by first | exact Or.inl rfl | exact Or.inr rfl)) den_gnil))))
      (den_bcons (den_set (i := 5) sc_parted_by.nd rfl (by first | exact Or.inl rfl | exact Or.inr rfl) (den_callF c_ends_in hr tk (den_consV (dv 3) (den_consV (dv 2) den_nilV))))
      (den_bcons (den_while po (den_tcmp (opd_ne hr.units) (dv 5) (den_lst den_nilV)) (den_bcons (den_expr (den_append (dv 4) (den_ix (dv 5) den_int)))
      (den_bcons (den_set (i := 3) sc_parted_by.nd rfl (by first | exact Or.inl rfl | exact Or.inr rfl) (den_callF c_pressed hr tk (den_consV (dv 0) (den_consV (dv 3) (den_consV (den_ix (dv 5) den_int) den_nilV)))))
      (den_bone (den_set (i := 5) sc_parted_by.nd rfl (by first | exact Or.inl rfl | exact Or.inr rfl) (den_callF c_ends_in hr tk (den_consV (dv 3) (den_consV (dv 2) den_nilV))))))))
      (den_bone (den_ret (den_tup (den_consV (den_callF c_word_by hr tk (den_consV (dv 0) (den_consV (dv 3) den_nilV))) (den_consV (den_callF c_shortest_by hr tk (den_consV (dv 0) (den_consV (den_callTy cd_tuple rfl B.tuple (by decide +kernel) (den_cons (den_rev (dv 4)) den_nil)) den_nilV))) den_nilV))))))))
theorem sc_least_between : FnScope ["bonds", "left", "word", "right", "front"] ["bonds", "left", "word", "right"] (defScope (topS 36)) := ⟨rfl, rfl, rfl, by decide +kernel, rfl, by decide +kernel, by decide +kernel⟩
theorem ok_least_between {P : Program} {w : World} {K : PySem.W.Frag} {mg : Str → Option Value} {base : Heap} {f : Addr} {fd : FuncData} (F : Fun K "least_between" "least_between" (topS 36) f fd) (m : mg "least_between" = some (.ref f)) (B : Bi mg) (c_need_word : Fn P w K mg base "need_word" 3 2 d_need_word) (c_need_choice : Fn P w K mg base "need_choice" 4 2 d_need_choice) (c_parted_by : Fn P w K mg base "parted_by" 9 3 d_parted_by) (c_shortest_by : Fn P w K mg base "shortest_by" 7 2 d_shortest_by) : Fn P w K mg base "least_between" 10 4 d_least_between :=
  fn_mk 9 F m sc_least_between (F.binds fun _ _ _ _ _ _ us hl => match us, hl with | [_, _, _, _], _ => rfl) fun cdv A outer s H E hr =>
    have tk := takes_of (X := cxOf (L2.CX P w) P w K mg base ["bonds", "left", "word", "right", "front"] "least_between" (defScope (topS 36)) f cdv A outer s H E) rfl rfl rfl rfl
    have po := passes_of (X := cxOf (L2.CX P w) P w K mg base ["bonds", "left", "word", "right", "front"] "least_between" (defScope (topS 36)) f cdv A outer s H E) rfl
    (den_bcons (den_expr (den_callF c_need_word hr tk (den_consV (dv 0) (den_consV (dv 2) den_nilV))))
      (den_bcons (den_expr (den_callF c_need_choice hr tk (den_consV (dv 0) (den_consV (dv 1) den_nilV))))
      (den_bcons (den_expr (den_callF c_need_choice hr tk (den_consV (dv 0) (den_consV (dv 3) den_nilV))))
      (den_bcons (den_set (i := 4) sc_least_between.nd rfl (by first | exact Or.inl rfl | exact Or.inr rfl) (den_ix (den_callF c_parted_by hr tk (den_consV (dv 0) (den_consV (dv 2) (den_consV (dv 3) den_nilV)))) den_int))
      (den_bone (den_ret (den_callF c_shortest_by hr tk (den_consV (dv 0) (den_consV (den_rev (den_ix (den_callF c_parted_by hr tk (den_consV (dv 0) (den_consV (den_rev (dv 4)) (den_consV (dv 1) den_nilV)))) den_int)) den_nilV)))))))))
theorem sc__law_mixed : FnScope ["cell", "n", "blend"] ["cell", "n"] (defScope (topS 38)) := ⟨rfl, rfl, rfl, by decide +kernel, rfl, by decide +kernel, by decide +kernel⟩
theorem ok__law_mixed {P : Program} {w : World} {K : PySem.W.Frag} {mg : Str → Option Value} {base : Heap} {f : Addr} {fd : FuncData} (F : Fun K "_law_mixed" "_law_mixed" (topS 38) f fd) (m : mg "_law_mixed" = some (.ref f)) (B : Bi mg) : Fn P w K mg base "_law_mixed" 1 2 d__law_mixed :=
  fn_mk 0 F m sc__law_mixed (F.binds fun _ _ _ _ _ _ us hl => match us, hl with | [_, _], _ => rfl) fun cdv A outer s H E hr =>
    have tk := takes_of (X := cxOf (L2.CX P w) P w K mg base ["cell", "n", "blend"] "_law_mixed" (defScope (topS 38)) f cdv A outer s H E) rfl rfl rfl rfl
    have po := passes_of (X := cxOf (L2.CX P w) P w K mg base ["cell", "n", "blend"] "_law_mixed" (defScope (topS 38)) f cdv A outer s H E) rfl
    (den_bcons (den_set (i := 2) sc__law_mixed.nd rfl (by first | exact Or.inl rfl | exact Or.inr rfl) (den_op opd_add (den_op opd_add (den_op opd_mod (den_callTy cd_int rfl B.int (by decide +kernel) (den_cons (den_op opd_mul (den_op opd_mul (dv 0) (den_op opd_add den_int (den_op opd_mul den_int (dv 1)))) den_int) den_nil)) den_int) (den_op opd_mul (den_op opd_mul den_int (dv 1)) (dv 1))) (den_op opd_mul den_int (dv 1))))
      (den_bone (den_ret (den_op opd_fdiv (den_op opd_mod (den_callTy cd_int rfl B.int (by decide +kernel) (den_cons (den_op opd_mul (dv 2) den_int) den_nil)) den_int) den_int))))
theorem sc__law_folded : FnScope ["script", "found", "n", "cell"] ["script"] (defScope (topS 39)) := ⟨rfl, rfl, rfl, by decide +kernel, rfl, by decide +kernel, by decide +kernel⟩
theorem ok__law_folded {P : Program} {w : World} {K : PySem.W.Frag} {mg : Str → Option Value} {base : Heap} {f : Addr} {fd : FuncData} (F : Fun K "_law_folded" "_law_folded" (topS 39) f fd) (m : mg "_law_folded" = some (.ref f)) (B : Bi mg) : Fn P w K mg base "_law_folded" 1 1 d__law_folded :=
  fn_mk 0 F m sc__law_folded (F.binds fun _ _ _ _ _ _ us hl => match us, hl with | [_], _ => rfl) fun cdv A outer s H E hr =>
    have tk := takes_of (X := cxOf (L2.CX P w) P w K mg base ["script", "found", "n", "cell"] "_law_folded" (defScope (topS 39)) f cdv A outer s H E) rfl rfl rfl rfl
    have po := passes_of (X := cxOf (L2.CX P w) P w K mg base ["script", "found", "n", "cell"] "_law_folded" (defScope (topS 39)) f cdv A outer s H E) rfl
    (den_bcons (by first | exact (den_setLc (i := 1) (own := [("n", 2)]) (.one 2) rfl sc__law_folded.nd rfl rfl (sw_true rfl rfl rfl (by decide +kernel)) (den_range1 rfl B.range (den_cons den_int den_nil)) rfl (blkOk_by (by kernel_rfl)) (fun _ _ _ _ _ => pg_name (i := 2) sc__law_folded.nd rfl (by first | exact Or.inl rfl | exact Or.inr rfl)) (fun _ _ _ _ _ => den_noif) (fun _ _ _ _ _ => (den_op opd_add den_int (dv 2)))) | exact den_set (i := 1) sc__law_folded.nd rfl (by first | exact Or.inl rfl | exact Or.inr rfl) (den_lc (own := [("n", 2)]) (.one 2) rfl sc__law_folded.nd (den_range1 rfl B.range (den_cons den_int den_nil)) rfl (blkOk_by (by kernel_rfl)) (fun _ _ _ _ _ => pg_name (i := 2) sc__law_folded.nd rfl (by first | exact Or.inl rfl | exact Or.inr rfl)) (fun _ _ _ _ _ => den_noif) (fun _ _ _ _ _ => (den_op opd_add den_int (dv 2)))))
      (den_bcons (den_for po rfl (den_enum rfl B.enumerate (den_cons (dv 0) den_nil)) (den_gtup rfl (den_gcons (den_gname (i := 2) sc__law_folded.nd rfl (by first | exact Or.inl rfl | exact Or.inr rfl)) (den_gcons (den_gname (i := 3) sc__law_folded.nd rfl (by first | exact Or.inl rfl | exact Or.inr rfl)) den_gnil))) (den_bone (den_asg (den_op opd_mod (den_callTy cd_int rfl B.int (by decide +kernel) (den_cons (den_op opd_add (den_op opd_mul (den_ix (dv 1) (den_op opd_mod (den_callTy cd_int rfl B.int (by decide +kernel) (den_cons (dv 2) den_nil)) den_int)) den_int) (dv 3)) den_nil)) den_int) (den_gsubL (W := W0) (dv 1) (den_op opd_mod (den_callTy cd_int rfl B.int (by decide +kernel) (den_cons (dv 2) den_nil)) den_int)))))
      (den_bcons (den_for po rfl (den_range2 rfl B.range (den_cons den_int (den_cons den_int den_nil))) (den_gname (i := 2) sc__law_folded.nd rfl (by first | exact Or.inl rfl | exact Or.inr rfl)) (den_bone (den_asg (den_op opd_mod (den_callTy cd_int rfl B.int (by decide +kernel) (den_cons (den_op opd_add (den_ix (dv 1) (dv 2)) (den_op opd_mul (den_ix (dv 1) (den_op opd_sub (dv 2) den_int)) den_int)) den_nil)) den_int) (den_gsubL (W := W0) (dv 1) (dv 2)))))
      (den_bone (den_ret (dv 1))))))
theorem sc__law_draw : FnScope ["m", "limit", "n", "lot", "here", "cell"] ["m", "limit"] (defScope (topS 40)) := ⟨rfl, rfl, rfl, by decide +kernel, rfl, by decide +kernel, by decide +kernel⟩
theorem ok__law_draw {P : Program} {w : World} {K : PySem.W.Frag} {mg : Str → Option Value} {base : Heap} {f : Addr} {fd : FuncData} (F : Fun K "_law_draw" "_law_draw" (topS 40) f fd) (m : mg "_law_draw" = some (.ref f)) (B : Bi mg) (c__law_mixed : Fn P w K mg base "_law_mixed" 1 2 d__law_mixed) : Fn P w K mg base "_law_draw" 2 2 d__law_draw :=
  fn_mk 1 F m sc__law_draw (F.binds fun _ _ _ _ _ _ us hl => match us, hl with | [_, _], _ => rfl) fun cdv A outer s H E hr =>
    have tk := takes_of (X := cxOf (L2.CX P w) P w K mg base ["m", "limit", "n", "lot", "here", "cell"] "_law_draw" (defScope (topS 40)) f cdv A outer s H E) rfl rfl rfl rfl
    have po := passes_of (X := cxOf (L2.CX P w) P w K mg base ["m", "limit", "n", "lot", "here", "cell"] "_law_draw" (defScope (topS 40)) f cdv A outer s H E) rfl
    (den_bcons (den_set (i := 2) sc__law_draw.nd rfl (by first | exact Or.inl rfl | exact Or.inr rfl) (den_dg (hu_of hr) (dv 0) den_str))
      (den_bcons (den_dput (hu_of hr) (dv 0) den_str (den_op opd_add (dv 2) den_int))
      (den_bcons (den_ifS (den_tcmp (opd_ne hr.units) (den_dg (hu_of hr) (dv 0) den_str) (den_lst den_nilV)) (den_bcons (den_set (i := 3) sc__law_draw.nd rfl (by first | exact Or.inl rfl | exact Or.inr rfl) (den_dg (hu_of hr) (dv 0) den_str))
      (den_bcons (den_set (i := 4) sc__law_draw.nd rfl (by first | exact Or.inl rfl | exact Or.inr rfl) (den_op opd_mod (den_callTy cd_int rfl B.int (by decide +kernel) (den_cons (dv 2) den_nil)) (den_callB cd_len rfl B.len (by decide +kernel) (den_cons (dv 3) den_nil))))
      (den_bcons (den_set (i := 5) sc__law_draw.nd rfl (by first | exact Or.inl rfl | exact Or.inr rfl) (den_ix (dv 3) (dv 4)))
      (den_bone (den_ifS (den_tcmp opd_gt (dv 5) den_int) (den_bcons (den_asg (den_op opd_fdiv (dv 5) (dv 1)) (den_gsubL (W := W0) (dv 3) (dv 4)))
      (den_bone (den_ret (den_op opd_mod (den_callTy cd_int rfl B.int (by decide +kernel) (den_cons (dv 5) den_nil)) (dv 1))))) den_bnil))))) den_bnil)
      (den_bcons (den_set (i := 3) sc__law_draw.nd rfl (by first | exact Or.inl rfl | exact Or.inr rfl) (den_dg (hu_of hr) (dv 0) den_str))
      (den_bone (den_ret (den_op opd_mod (den_callTy cd_int rfl B.int (by decide +kernel) (den_cons (den_callF c__law_mixed hr tk (den_consV (den_callF c__law_mixed hr tk (den_consV (den_op opd_add (den_ix (dv 3) (den_op opd_mod (den_callTy cd_int rfl B.int (by decide +kernel) (den_cons (dv 2) den_nil)) den_int)) (den_op opd_mul den_int (den_op opd_fdiv (dv 2) den_int))) (den_consV (dv 2) den_nilV))) (den_consV (den_op opd_add (dv 2) den_int) den_nilV))) den_nil)) (dv 1))))))))
theorem sc__law_begun : FnScope ["script", "m", "cell"] ["script"] (defScope (topS 41)) := ⟨rfl, rfl, rfl, by decide +kernel, rfl, by decide +kernel, by decide +kernel⟩
theorem ok__law_begun {P : Program} {w : World} {K : PySem.W.Frag} {mg : Str → Option Value} {base : Heap} {f : Addr} {fd : FuncData} (F : Fun K "_law_begun" "_law_begun" (topS 41) f fd) (m : mg "_law_begun" = some (.ref f)) (B : Bi mg) (c__law_folded : Fn P w K mg base "_law_folded" 1 1 d__law_folded) : Fn P w K mg base "_law_begun" 2 1 d__law_begun :=
  fn_mk 1 F m sc__law_begun (F.binds fun _ _ _ _ _ _ us hl => match us, hl with | [_], _ => rfl) fun cdv A outer s H E hr =>
    have tk := takes_of (X := cxOf (L2.CX P w) P w K mg base ["script", "m", "cell"] "_law_begun" (defScope (topS 41)) f cdv A outer s H E) rfl rfl rfl rfl
    have po := passes_of (X := cxOf (L2.CX P w) P w K mg base ["script", "m", "cell"] "_law_begun" (defScope (topS 41)) f cdv A outer s H E) rfl
    (den_bcons (den_set (i := 1) sc__law_begun.nd rfl (by first | exact Or.inl rfl | exact Or.inr rfl) (den_disp (den_ppcons den_str (den_callF c__law_folded hr tk (den_consV (dv 0) den_nilV)) (den_ppcons den_str (den_lst den_nilV) (den_ppcons den_str den_int den_ppnil)))))
      (den_bcons (den_dput (hu_of hr) (dv 1) den_str (den_lc (own := [("cell", 2)]) (.one 2) rfl sc__law_begun.nd (den_iseq (dv 0)) rfl (blkOk_by (by kernel_rfl)) (fun _ _ _ _ _ => pg_name (i := 2) sc__law_begun.nd rfl (by first | exact Or.inl rfl | exact Or.inr rfl)) (fun _ _ _ _ _ => den_noif) (fun _ _ _ _ _ => (den_if (den_tcmp opd_ge (dv 2) (den_op opd_pow den_int den_int)) (dv 2) den_int))))
      (den_bone (den_ret (dv 1)))))
theorem sc__law_table : FnScope ["m", "many", "some", "rows", "one", "other", "bond_so", "k"] ["m", "many", "some"] (defScope (topS 42)) := ⟨rfl, rfl, rfl, by decide +kernel, rfl, by decide +kernel, by decide +kernel⟩
theorem ok__law_table {P : Program} {w : World} {K : PySem.W.Frag} {mg : Str → Option Value} {base : Heap} {f : Addr} {fd : FuncData} (F : Fun K "_law_table" "_law_table" (topS 42) f fd) (m : mg "_law_table" = some (.ref f)) (B : Bi mg) (c__law_draw : Fn P w K mg base "_law_draw" 2 2 d__law_draw) : Fn P w K mg base "_law_table" 3 3 d2_law_table :=
  fn_mk 2 F m sc__law_table (F.binds fun _ _ _ _ _ _ us hl => match us, hl with | [_, _, _], _ => rfl) fun cdv A outer s H E hr =>
    have tk := takes_of (X := cxOf (L2.CX P w) P w K mg base ["m", "many", "some", "rows", "one", "other", "bond_so", "k"] "_law_table" (defScope (topS 42)) f cdv A outer s H E) rfl rfl rfl rfl
    have po := passes_of (X := cxOf (L2.CX P w) P w K mg base ["m", "many", "some", "rows", "one", "other", "bond_so", "k"] "_law_table" (defScope (topS 42)) f cdv A outer s H E) rfl
    (den_bcons (by first | exact (den_setLc (i := 3) (own := [("k", 7)]) (.one 7) rfl sc__law_table.nd rfl rfl (sw_true rfl rfl rfl (by decide +kernel)) (den_range1 rfl B.range (den_cons (dv 1) den_nil)) rfl (blkOk_by (by kernel_rfl)) (fun _ _ _ _ _ => pg_name (i := 7) sc__law_table.nd rfl (by first | exact Or.inl rfl | exact Or.inr rfl)) (fun _ _ _ _ _ => den_noif) (fun _ _ _ _ _ => (den_op opd_mul (den_lst (den_consV den_int den_nilV)) (dv 1)))) | exact den_set (i := 3) sc__law_table.nd rfl (by first | exact Or.inl rfl | exact Or.inr rfl) (den_lc (own := [("k", 7)]) (.one 7) rfl sc__law_table.nd (den_range1 rfl B.range (den_cons (dv 1) den_nil)) rfl (blkOk_by (by kernel_rfl)) (fun _ _ _ _ _ => pg_name (i := 7) sc__law_table.nd rfl (by first | exact Or.inl rfl | exact Or.inr rfl)) (fun _ _ _ _ _ => den_noif) (fun _ _ _ _ _ => (den_op opd_mul (den_lst (den_consV den_int den_nilV)) (dv 1)))))
      (den_bcons (den_for po rfl (den_range1 rfl B.range (den_cons (dv 1) den_nil)) (den_gname (i := 4) sc__law_table.nd rfl (by first | exact Or.inl rfl | exact Or.inr rfl)) (den_bone (den_for po rfl (den_range1 rfl B.range (den_cons (dv 4) den_nil)) (den_gname (i := 5) sc__law_table.nd rfl (by first | exact Or.inl rfl | exact Or.inr rfl)) (den_bcons (den_set (i := 6) sc__law_table.nd rfl (by first | exact Or.inl rfl | exact Or.inr rfl) (den_ix (dv 2) (den_callF c__law_draw hr tk (den_consV (dv 0) (den_consV (den_callB cd_len rfl B.len (by decide +kernel) (den_cons (dv 2) den_nil)) den_nilV)))))
      (den_bcons (den_asg (dv 6) (den_gsubL (W := W0) (den_ix (dv 3) (dv 4)) (dv 5)))
      (den_bone (den_asg (dv 6) (den_gsubL (W := W0) (den_ix (dv 3) (dv 5)) (dv 4)))))))))
      (den_bone (den_ret (dv 3)))))
theorem sc__law_shuffled : FnScope ["m", "rows", "rest", "order", "one", "other"] ["m", "rows"] (defScope (topS 44)) := ⟨rfl, rfl, rfl, by decide +kernel, rfl, by decide +kernel, by decide +kernel⟩
theorem ok__law_shuffled {P : Program} {w : World} {K : PySem.W.Frag} {mg : Str → Option Value} {base : Heap} {f : Addr} {fd : FuncData} (F : Fun K "_law_shuffled" "_law_shuffled" (topS 44) f fd) (m : mg "_law_shuffled" = some (.ref f)) (B : Bi mg) (c__law_draw : Fn P w K mg base "_law_draw" 2 2 d__law_draw) : Fn P w K mg base "_law_shuffled" 3 2 d2_law_shuffled :=
  fn_mk 2 F m sc__law_shuffled (F.binds fun _ _ _ _ _ _ us hl => match us, hl with | [_, _], _ => rfl) fun cdv A outer s H E hr =>
    have tk := takes_of (X := cxOf (L2.CX P w) P w K mg base ["m", "rows", "rest", "order", "one", "other"] "_law_shuffled" (defScope (topS 44)) f cdv A outer s H E) rfl rfl rfl rfl
    have po := passes_of (X := cxOf (L2.CX P w) P w K mg base ["m", "rows", "rest", "order", "one", "other"] "_law_shuffled" (defScope (topS 44)) f cdv A outer s H E) rfl
    (den_bcons (by first | exact den_par2 ((den_consV (den_listRg rfl B.list rfl B.range (den_callB cd_len rfl B.len (by decide +kernel) (den_cons (dv 1) den_nil))) (den_consV (den_lst den_nilV) den_nilV))) sc__law_shuffled.nd rfl rfl | exact den_parG2 (den_tup (den_consV (den_listRg rfl B.list rfl B.range (den_callB cd_len rfl B.len (by decide +kernel) (den_cons (dv 1) den_nil))) (den_consV (den_lst den_nilV) den_nilV))) (den_gtup rfl (den_gcons (den_gname (i := 2) sc__law_shuffled.nd rfl (by first | exact Or.inl rfl | exact Or.inr rfl)) (den_gcons (den_gname (i := 3) sc__law_shuffled.nd rfl (by first | exact Or.inl rfl | exact Or.inr rfl)) den_gnil))))
      (den_bcons (den_while po (den_tcmp (opd_ne hr.units) (dv 2) (den_lst den_nilV)) (den_bone (den_expr (den_append (dv 3) (den_popAt (dv 2) (den_callF c__law_draw hr tk (den_consV (dv 0) (den_consV (den_callB cd_len rfl B.len (by decide +kernel) (den_cons (dv 2) den_nil)) den_nilV))))))))
      (den_bone (den_ret (den_lc (own := [("one", 4)]) (.one 4) rfl sc__law_shuffled.nd (den_iseq (dv 3)) rfl (blkOk_by (by kernel_rfl)) (fun _ _ _ _ _ => pg_name (i := 4) sc__law_shuffled.nd rfl (by first | exact Or.inl rfl | exact Or.inr rfl)) (fun _ _ _ _ _ => den_noif) (fun _ _ _ _ _ => (den_lc (own := [("other", 5)]) (.one 5) rfl sc__law_shuffled.nd (den_iseq (dv 3)) rfl (blkOk_by (by kernel_rfl)) (fun _ _ _ _ _ => pg_name (i := 5) sc__law_shuffled.nd rfl (by first | exact Or.inl rfl | exact Or.inr rfl)) (fun _ _ _ _ _ => den_noif) (fun _ _ _ _ _ => (den_ix (den_ix (dv 1) (dv 4)) (dv 5))))))))))
theorem sc__law_finite : FnScope ["m", "most", "found", "rows", "words", "letters", "first", "rest", "other", "high", "more", "one", "row"] ["m", "most"] (defScope (topS 43)) := ⟨rfl, rfl, rfl, by decide +kernel, rfl, by decide +kernel, by decide +kernel⟩
theorem ok__law_finite {P : Program} {w : World} {K : PySem.W.Frag} {mg : Str → Option Value} {base : Heap} {f : Addr} {fd : FuncData} (F : Fun K "_law_finite" "_law_finite" (topS 43) f fd) (m : mg "_law_finite" = some (.ref f)) (B : Bi mg) (c__law_draw : Fn P w K mg base "_law_draw" 2 2 d__law_draw) (c__law_shuffled : Fn P w K mg base "_law_shuffled" 3 2 d2_law_shuffled) : Fn P w K mg base "_law_finite" 4 2 d2_law_finite :=
  fn_mk 3 F m sc__law_finite (F.binds fun _ _ _ _ _ _ us hl => match us, hl with | [_, _], _ => rfl) fun cdv A outer s H E hr =>
    have tk := takes_of (X := cxOf (L2.CX P w) P w K mg base ["m", "most", "found", "rows", "words", "letters", "first", "rest", "other", "high", "more", "one", "row"] "_law_finite" (defScope (topS 43)) f cdv A outer s H E) rfl rfl rfl rfl
    have po := passes_of (X := cxOf (L2.CX P w) P w K mg base ["m", "most", "found", "rows", "words", "letters", "first", "rest", "other", "high", "more", "one", "row"] "_law_finite" (defScope (topS 43)) f cdv A outer s H E) rfl
    (den_bcons (den_set (i := 2) sc__law_finite.nd rfl (by first | exact Or.inl rfl | exact Or.inr rfl) (den_lst (den_consV (den_tup (den_consV (den_lst den_nilV) (den_consV den_int (den_consV den_int den_nilV)))) den_nilV)))
      (den_bcons (den_for po rfl (den_iseq (den_lst (den_consV (den_tup (den_consV (den_lst (den_consV (den_lst (den_consV den_int den_nilV)) den_nilV)) (den_consV den_int (den_consV den_int den_nilV)))) (den_consV (den_tup (den_consV (den_lst (den_consV (den_lst (den_consV den_int (den_consV den_int den_nilV))) (den_consV (den_lst (den_consV den_int (den_consV den_int den_nilV))) den_nilV))) (den_consV den_int (den_consV den_int den_nilV)))) (den_consV (den_tup (den_consV (den_lst (den_consV (den_lst (den_consV den_int (den_consV den_int den_nilV))) (den_consV (den_lst (den_consV den_int (den_consV den_int den_nilV))) den_nilV))) (den_consV den_int (den_consV den_int den_nilV)))) den_nilV))))) (den_gtup rfl (den_gcons (den_gname (i := 3) sc__law_finite.nd rfl (by first | exact Or.inl rfl | exact Or.inr rfl)) (den_gcons (den_gname (i := 4) sc__law_finite.nd rfl (by first | exact Or.inl rfl | exact Or.inr rfl)) (den_gcons (den_gname (i := 5) sc__law_finite.nd rfl (by first | exact Or.inl rfl | exact Or.inr rfl)) den_gnil)))) (den_bone (den_expr (den_append (dv 2) (den_tup (den_consV (dv 3) (den_consV (dv 4) (den_consV (dv 5) den_nilV))))))))
      (den_bcons (den_expr (den_append (dv 2) (den_tup (den_consV (den_lst (den_consV (den_lst (den_consV den_int (den_consV den_int den_nilV))) (den_consV (den_lst (den_consV den_int (den_consV den_int den_nilV))) den_nilV))) (den_consV den_int (den_consV den_int den_nilV))))))
      (den_bcons (den_expr (den_append (dv 2) (den_tup (den_consV (den_lst (den_consV (den_lst (den_consV den_int (den_consV den_int (den_consV den_int den_nilV)))) (den_consV (den_lst (den_consV den_int (den_consV den_int (den_consV den_int den_nilV)))) (den_consV (den_lst (den_consV den_int (den_consV den_int (den_consV den_int den_nilV)))) den_nilV)))) (den_consV den_int (den_consV den_int den_nilV))))))
      (den_bcons (den_expr (den_append (dv 2) (den_tup (den_consV (den_lst (den_consV (den_lst (den_consV den_int (den_consV den_int (den_consV den_int den_nilV)))) (den_consV (den_lst (den_consV den_int (den_consV den_int (den_consV den_int den_nilV)))) (den_consV (den_lst (den_consV den_int (den_consV den_int (den_consV den_int den_nilV)))) den_nilV)))) (den_consV den_int (den_consV den_int den_nilV))))))
      (den_bcons (den_expr (den_append (dv 2) (den_tup (den_consV (den_lst (den_consV (den_lst (den_consV den_int (den_consV den_int (den_consV den_int (den_consV den_int den_nilV))))) (den_consV (den_lst (den_consV den_int (den_consV den_int (den_consV den_int (den_consV den_int den_nilV))))) (den_consV (den_lst (den_consV den_int (den_consV den_int (den_consV den_int (den_consV den_int den_nilV))))) (den_consV (den_lst (den_consV den_int (den_consV den_int (den_consV den_int (den_consV den_int den_nilV))))) den_nilV))))) (den_consV den_int (den_consV den_int den_nilV))))))
      (den_bcons (den_expr (den_append (dv 2) (den_tup (den_consV (den_lst (den_consV (den_lst (den_consV den_int (den_consV den_int (den_consV den_int (den_consV den_int den_nilV))))) (den_consV (den_lst (den_consV den_int (den_consV den_int (den_consV den_int (den_consV den_int den_nilV))))) (den_consV (den_lst (den_consV den_int (den_consV den_int (den_consV den_int (den_consV den_int den_nilV))))) (den_consV (den_lst (den_consV den_int (den_consV den_int (den_consV den_int (den_consV den_int den_nilV))))) den_nilV))))) (den_consV den_int (den_consV den_int den_nilV))))))
      (den_bcons (by first | exact (den_setLc (i := 2) (own := [("one", 11)]) (.one 11) rfl sc__law_finite.nd rfl rfl (sw_true rfl rfl rfl (by decide +kernel)) (den_iseq (dv 2)) rfl (blkOk_by (by kernel_rfl)) (fun _ _ _ _ _ => pg_name (i := 11) sc__law_finite.nd rfl (by first | exact Or.inl rfl | exact Or.inr rfl)) (fun _ _ _ _ _ => den_oneif (den_tcmp opd_le (den_callB cd_len rfl B.len (by decide +kernel) (den_cons (den_ix (dv 11) den_int) den_nil)) (dv 1))) (fun _ _ _ _ _ => (dv 11))) | exact den_set (i := 2) sc__law_finite.nd rfl (by first | exact Or.inl rfl | exact Or.inr rfl) (den_lc (own := [("one", 11)]) (.one 11) rfl sc__law_finite.nd (den_iseq (dv 2)) rfl (blkOk_by (by kernel_rfl)) (fun _ _ _ _ _ => pg_name (i := 11) sc__law_finite.nd rfl (by first | exact Or.inl rfl | exact Or.inr rfl)) (fun _ _ _ _ _ => den_oneif (den_tcmp opd_le (den_callB cd_len rfl B.len (by decide +kernel) (den_cons (den_ix (dv 11) den_int) den_nil)) (dv 1))) (fun _ _ _ _ _ => (dv 11))))
      (den_bcons (den_set (i := 6) sc__law_finite.nd rfl (by first | exact Or.inl rfl | exact Or.inr rfl) (den_ix (dv 2) (den_op opd_add den_int (den_callF c__law_draw hr tk (den_consV (dv 0) (den_consV (den_op opd_sub (den_callB cd_len rfl B.len (by decide +kernel) (den_cons (dv 2) den_nil)) den_int) den_nilV))))))
      (den_bcons (by first | exact (den_setLc (i := 7) (own := [("one", 11)]) (.one 11) rfl sc__law_finite.nd rfl rfl (sw_true rfl rfl rfl (by decide +kernel)) (den_iseq (dv 2)) rfl (blkOk_by (by kernel_rfl)) (fun _ _ _ _ _ => pg_name (i := 11) sc__law_finite.nd rfl (by first | exact Or.inl rfl | exact Or.inr rfl)) (fun _ _ _ _ _ => den_oneif (den_tcmp opd_le (den_op opd_add (den_callB cd_len rfl B.len (by decide +kernel) (den_cons (den_ix (dv 11) den_int) den_nil)) (den_callB cd_len rfl B.len (by decide +kernel) (den_cons (den_ix (dv 6) den_int) den_nil))) (dv 1))) (fun _ _ _ _ _ => (dv 11))) | exact den_set (i := 7) sc__law_finite.nd rfl (by first | exact Or.inl rfl | exact Or.inr rfl) (den_lc (own := [("one", 11)]) (.one 11) rfl sc__law_finite.nd (den_iseq (dv 2)) rfl (blkOk_by (by kernel_rfl)) (fun _ _ _ _ _ => pg_name (i := 11) sc__law_finite.nd rfl (by first | exact Or.inl rfl | exact Or.inr rfl)) (fun _ _ _ _ _ => den_oneif (den_tcmp opd_le (den_op opd_add (den_callB cd_len rfl B.len (by decide +kernel) (den_cons (den_ix (dv 11) den_int) den_nil)) (den_callB cd_len rfl B.len (by decide +kernel) (den_cons (den_ix (dv 6) den_int) den_nil))) (dv 1))) (fun _ _ _ _ _ => (dv 11))))
      (den_bcons (den_set (i := 8) sc__law_finite.nd rfl (by first | exact Or.inl rfl | exact Or.inr rfl) (den_ix (dv 7) (den_callF c__law_draw hr tk (den_consV (dv 0) (den_consV (den_callB cd_len rfl B.len (by decide +kernel) (den_cons (dv 7) den_nil)) den_nilV)))))
      (den_bcons (by first | exact den_par2 ((den_consV (den_callB cd_len rfl B.len (by decide +kernel) (den_cons (den_ix (dv 6) den_int) den_nil)) (den_consV (den_callB cd_len rfl B.len (by decide +kernel) (den_cons (den_ix (dv 8) den_int) den_nil)) den_nilV))) sc__law_finite.nd rfl rfl | exact den_parG2 (den_tup (den_consV (den_callB cd_len rfl B.len (by decide +kernel) (den_cons (den_ix (dv 6) den_int) den_nil)) (den_consV (den_callB cd_len rfl B.len (by decide +kernel) (den_cons (den_ix (dv 8) den_int) den_nil)) den_nilV))) (den_gtup rfl (den_gcons (den_gname (i := 9) sc__law_finite.nd rfl (by first | exact Or.inl rfl | exact Or.inr rfl)) (den_gcons (den_gname (i := 10) sc__law_finite.nd rfl (by first | exact Or.inl rfl | exact Or.inr rfl)) den_gnil))))
      (den_bcons (den_set (i := 3) sc__law_finite.nd rfl (by first | exact Or.inl rfl | exact Or.inr rfl) (den_op opd_add (den_lc (own := [("row", 12)]) (.one 12) rfl sc__law_finite.nd (den_iseq (den_ix (dv 6) den_int)) rfl (blkOk_by (by kernel_rfl)) (fun _ _ _ _ _ => pg_name (i := 12) sc__law_finite.nd rfl (by first | exact Or.inl rfl | exact Or.inr rfl)) (fun _ _ _ _ _ => den_noif) (fun _ _ _ _ _ => (den_op opd_add (den_callTy cd_list rfl B.list (by decide +kernel) (den_cons (dv 12) den_nil)) (den_op opd_mul (den_lst (den_consV den_int den_nilV)) (dv 10))))) (den_lc (own := [("row", 12)]) (.one 12) rfl sc__law_finite.nd (den_iseq (den_ix (dv 8) den_int)) rfl (blkOk_by (by kernel_rfl)) (fun _ _ _ _ _ => pg_name (i := 12) sc__law_finite.nd rfl (by first | exact Or.inl rfl | exact Or.inr rfl)) (fun _ _ _ _ _ => den_noif) (fun _ _ _ _ _ => (den_op opd_add (den_op opd_mul (den_lst (den_consV den_int den_nilV)) (dv 9)) (den_callTy cd_list rfl B.list (by decide +kernel) (den_cons (dv 12) den_nil)))))))
      (den_bone (den_ret (den_lst (den_consV (den_callF c__law_shuffled hr tk (den_consV (dv 0) (den_consV (dv 3) den_nilV))) (den_consV (den_op opd_mul (den_ix (dv 6) den_int) (den_ix (dv 8) den_int)) (den_consV (den_op opd_add (den_ix (dv 6) den_int) (den_ix (dv 8) den_int)) den_nilV)))))))))))))))))))
theorem sc__law_weight : FnScope ["table", "one", "other", "pair"] ["table", "one", "other"] (defScope (topS 45)) := ⟨rfl, rfl, rfl, by decide +kernel, rfl, by decide +kernel, by decide +kernel⟩
theorem ok__law_weight {P : Program} {w : World} {K : PySem.W.Frag} {mg : Str → Option Value} {base : Heap} {f : Addr} {fd : FuncData} (F : Fun K "_law_weight" "_law_weight" (topS 45) f fd) (m : mg "_law_weight" = some (.ref f)) (B : Bi mg) : Fn P w K mg base "_law_weight" 1 3 d2_law_weight :=
  fn_mk 0 F m sc__law_weight (F.binds fun _ _ _ _ _ _ us hl => match us, hl with | [_, _, _], _ => rfl) fun cdv A outer s H E hr =>
    have tk := takes_of (X := cxOf (L2.CX P w) P w K mg base ["table", "one", "other", "pair"] "_law_weight" (defScope (topS 45)) f cdv A outer s H E) rfl rfl rfl rfl
    have po := passes_of (X := cxOf (L2.CX P w) P w K mg base ["table", "one", "other", "pair"] "_law_weight" (defScope (topS 45)) f cdv A outer s H E) rfl
    (den_bcons (den_set (i := 3) sc__law_weight.nd rfl (by first | exact Or.inl rfl | exact Or.inr rfl) (den_dg (hu_of hr) (den_disp (den_ppcons den_int (den_tup (den_consV den_int (den_consV den_int den_nilV))) (den_ppcons den_int (den_tup (den_consV den_int (den_consV den_int den_nilV))) (den_ppcons den_int (den_tup (den_consV den_int (den_consV den_int den_nilV))) (den_ppcons den_int (den_tup (den_consV den_int (den_consV den_int den_nilV))) (den_ppcons den_int (den_tup (den_consV den_int (den_consV den_int den_nilV))) den_ppnil)))))) (den_ix (den_ix (dv 0) (den_op opd_sub (dv 1) den_int)) (den_op opd_sub (dv 2) den_int))))
      (den_bone (den_ret (den_if (den_tcmp opd_lt (dv 1) (dv 2)) (den_ix (dv 3) den_int) (den_ix (dv 3) den_int)))))
theorem sc__law_pressed : FnScope ["table", "row", "letter", "number", "found", "other", "own"] ["table", "row", "letter"] (defScope (topS 46)) := ⟨rfl, rfl, rfl, by decide +kernel, rfl, by decide +kernel, by decide +kernel⟩
theorem ok__law_pressed {P : Program} {w : World} {K : PySem.W.Frag} {mg : Str → Option Value} {base : Heap} {f : Addr} {fd : FuncData} (F : Fun K "_law_pressed" "_law_pressed" (topS 46) f fd) (m : mg "_law_pressed" = some (.ref f)) (B : Bi mg) (c__law_weight : Fn P w K mg base "_law_weight" 1 3 d2_law_weight) : Fn P w K mg base "_law_pressed" 2 3 d2_law_pressed :=
  fn_mk 1 F m sc__law_pressed (F.binds fun _ _ _ _ _ _ us hl => match us, hl with | [_, _, _], _ => rfl) fun cdv A outer s H E hr =>
    have tk := takes_of (X := cxOf (L2.CX P w) P w K mg base ["table", "row", "letter", "number", "found", "other", "own"] "_law_pressed" (defScope (topS 46)) f cdv A outer s H E) rfl rfl rfl rfl
    have po := passes_of (X := cxOf (L2.CX P w) P w K mg base ["table", "row", "letter", "number", "found", "other", "own"] "_law_pressed" (defScope (topS 46)) f cdv A outer s H E) rfl
    (den_bcons (den_set (i := 3) sc__law_pressed.nd rfl (by first | exact Or.inl rfl | exact Or.inr rfl) (den_ix (dv 1) (den_op opd_sub (dv 2) den_int)))
      (den_bcons (den_set (i := 4) sc__law_pressed.nd rfl (by first | exact Or.inl rfl | exact Or.inr rfl) (den_lst den_nilV))
      (den_bcons (den_for po rfl (den_range2 rfl B.range (den_cons den_int (den_cons (den_op opd_add (den_callB cd_len rfl B.len (by decide +kernel) (den_cons (dv 1) den_nil)) den_int) den_nil))) (den_gname (i := 5) sc__law_pressed.nd rfl (by first | exact Or.inl rfl | exact Or.inr rfl)) (den_bcons (den_set (i := 6) sc__law_pressed.nd rfl (by first | exact Or.inl rfl | exact Or.inr rfl) (den_ix (dv 1) (den_op opd_sub (dv 5) den_int)))
      (den_bone (den_expr (den_append (dv 4) (den_if (den_tcmp (opd_eq hr.units) (dv 5) (dv 2)) (den_op opd_sub den_int (dv 3)) (den_op opd_add (dv 6) (den_op opd_mul (den_callF c__law_weight hr tk (den_consV (dv 0) (den_consV (dv 2) (den_consV (dv 5) den_nilV)))) (dv 3)))))))))
      (den_bone (den_ret (den_callTy cd_tuple rfl B.tuple (by decide +kernel) (den_cons (dv 4) den_nil)))))))
theorem sc__law_row : FnScope ["table", "word", "row", "letter"] ["table", "word"] (defScope (topS 47)) := ⟨rfl, rfl, rfl, by decide +kernel, rfl, by decide +kernel, by decide +kernel⟩
theorem ok__law_row {P : Program} {w : World} {K : PySem.W.Frag} {mg : Str → Option Value} {base : Heap} {f : Addr} {fd : FuncData} (F : Fun K "_law_row" "_law_row" (topS 47) f fd) (m : mg "_law_row" = some (.ref f)) (B : Bi mg) (c__law_pressed : Fn P w K mg base "_law_pressed" 2 3 d2_law_pressed) : Fn P w K mg base "_law_row" 3 2 d2_law_row :=
  fn_mk 2 F m sc__law_row (F.binds fun _ _ _ _ _ _ us hl => match us, hl with | [_, _], _ => rfl) fun cdv A outer s H E hr =>
    have tk := takes_of (X := cxOf (L2.CX P w) P w K mg base ["table", "word", "row", "letter"] "_law_row" (defScope (topS 47)) f cdv A outer s H E) rfl rfl rfl rfl
    have po := passes_of (X := cxOf (L2.CX P w) P w K mg base ["table", "word", "row", "letter"] "_law_row" (defScope (topS 47)) f cdv A outer s H E) rfl
    (den_bcons (den_set (i := 2) sc__law_row.nd rfl (by first | exact Or.inl rfl | exact Or.inr rfl) (den_op opd_mul (den_tup (den_consV den_int den_nilV)) (den_callB cd_len rfl B.len (by decide +kernel) (den_cons (dv 0) den_nil))))
      (den_bcons (den_for po rfl (den_iseq (dv 1)) (den_gname (i := 3) sc__law_row.nd rfl (by first | exact Or.inl rfl | exact Or.inr rfl)) (den_bone (den_set (i := 2) sc__law_row.nd rfl (by first | exact Or.inl rfl | exact Or.inr rfl) (den_callF c__law_pressed hr tk (den_consV (dv 0) (den_consV (dv 2) (den_consV (dv 3) den_nilV)))))))
      (den_bone (den_ret (dv 2)))))
theorem sc__law_back : FnScope ["table", "row", "found", "letter", "place"] ["table", "row"] (defScope (topS 48)) := ⟨rfl, rfl, rfl, by decide +kernel, rfl, by decide +kernel, by decide +kernel⟩
theorem ok__law_back {P : Program} {w : World} {K : PySem.W.Frag} {mg : Str → Option Value} {base : Heap} {f : Addr} {fd : FuncData} (F : Fun K "_law_back" "_law_back" (topS 48) f fd) (m : mg "_law_back" = some (.ref f)) (B : Bi mg) (c__law_pressed : Fn P w K mg base "_law_pressed" 2 3 d2_law_pressed) : Fn P w K mg base "_law_back" 3 2 d2_law_back :=
  fn_mk 2 F m sc__law_back (F.binds fun _ _ _ _ _ _ us hl => match us, hl with | [_, _], _ => rfl) fun cdv A outer s H E hr =>
    have tk := takes_of (X := cxOf (L2.CX P w) P w K mg base ["table", "row", "found", "letter", "place"] "_law_back" (defScope (topS 48)) f cdv A outer s H E) rfl rfl rfl rfl
    have po := passes_of (X := cxOf (L2.CX P w) P w K mg base ["table", "row", "found", "letter", "place"] "_law_back" (defScope (topS 48)) f cdv A outer s H E) rfl
    (den_bcons (den_set (i := 2) sc__law_back.nd rfl (by first | exact Or.inl rfl | exact Or.inr rfl) (den_lst den_nilV))
      (den_bcons (den_while po (den_tcmp opd_lt (den_callB (cd_min rfl) rfl B.min (by decide +kernel) (den_cons (dv 1) den_nil)) den_int) (den_bcons (den_set (i := 3) sc__law_back.nd rfl (by first | exact Or.inl rfl | exact Or.inr rfl) (den_ix (den_lc (own := [("place", 4)]) (.one 4) rfl sc__law_back.nd (den_range1 rfl B.range (den_cons (den_callB cd_len rfl B.len (by decide +kernel) (den_cons (dv 1) den_nil)) den_nil)) rfl (blkOk_by (by kernel_rfl)) (fun _ _ _ _ _ => pg_name (i := 4) sc__law_back.nd rfl (by first | exact Or.inl rfl | exact Or.inr rfl)) (fun _ _ _ _ _ => den_oneif (den_tcmp opd_lt (den_ix (dv 1) (dv 4)) den_int)) (fun _ _ _ _ _ => (den_op opd_add (dv 4) den_int))) den_int))
      (den_bcons (den_expr (den_append (dv 2) (dv 3)))
      (den_bone (den_set (i := 1) sc__law_back.nd rfl (by first | exact Or.inl rfl | exact Or.inr rfl) (den_callF c__law_pressed hr tk (den_consV (dv 0) (den_consV (dv 1) (den_consV (dv 3) den_nilV)))))))))
      (den_bone (den_ret (dv 2)))))
theorem sc__law_least : FnScope ["table", "word"] ["table", "word"] (defScope (topS 49)) := ⟨rfl, rfl, rfl, by decide +kernel, rfl, by decide +kernel, by decide +kernel⟩
theorem ok__law_least {P : Program} {w : World} {K : PySem.W.Frag} {mg : Str → Option Value} {base : Heap} {f : Addr} {fd : FuncData} (F : Fun K "_law_least" "_law_least" (topS 49) f fd) (m : mg "_law_least" = some (.ref f)) (B : Bi mg) (c__law_row : Fn P w K mg base "_law_row" 3 2 d2_law_row) (c__law_back : Fn P w K mg base "_law_back" 3 2 d2_law_back) : Fn P w K mg base "_law_least" 4 2 d2_law_least :=
  fn_mk 3 F m sc__law_least (F.binds fun _ _ _ _ _ _ us hl => match us, hl with | [_, _], _ => rfl) fun cdv A outer s H E hr =>
    have tk := takes_of (X := cxOf (L2.CX P w) P w K mg base ["table", "word"] "_law_least" (defScope (topS 49)) f cdv A outer s H E) rfl rfl rfl rfl
    have po := passes_of (X := cxOf (L2.CX P w) P w K mg base ["table", "word"] "_law_least" (defScope (topS 49)) f cdv A outer s H E) rfl
    (den_bone (den_ret (den_callTy cd_tuple rfl B.tuple (by decide +kernel) (den_cons (den_callF c__law_back hr tk (den_consV (dv 0) (den_consV (den_callF c__law_row hr tk (den_consV (dv 0) (den_consV (den_rev (den_callTy cd_list rfl B.list (by decide +kernel) (den_cons (dv 1) den_nil))) den_nilV))) den_nilV))) den_nil))))
theorem sc__law_word : FnScope ["m", "many", "most", "k"] ["m", "many", "most"] (defScope (topS 50)) := ⟨rfl, rfl, rfl, by decide +kernel, rfl, by decide +kernel, by decide +kernel⟩
theorem ok__law_word {P : Program} {w : World} {K : PySem.W.Frag} {mg : Str → Option Value} {base : Heap} {f : Addr} {fd : FuncData} (F : Fun K "_law_word" "_law_word" (topS 50) f fd) (m : mg "_law_word" = some (.ref f)) (B : Bi mg) (c__law_draw : Fn P w K mg base "_law_draw" 2 2 d__law_draw) : Fn P w K mg base "_law_word" 3 3 d2_law_word :=
  fn_mk 2 F m sc__law_word (F.binds fun _ _ _ _ _ _ us hl => match us, hl with | [_, _, _], _ => rfl) fun cdv A outer s H E hr =>
    have tk := takes_of (X := cxOf (L2.CX P w) P w K mg base ["m", "many", "most", "k"] "_law_word" (defScope (topS 50)) f cdv A outer s H E) rfl rfl rfl rfl
    have po := passes_of (X := cxOf (L2.CX P w) P w K mg base ["m", "many", "most", "k"] "_law_word" (defScope (topS 50)) f cdv A outer s H E) rfl
    (den_bone (den_ret (den_lc (own := [("k", 3)]) (.one 3) rfl sc__law_word.nd (den_range1 rfl B.range (den_cons (den_callF c__law_draw hr tk (den_consV (dv 0) (den_consV (den_op opd_add (dv 2) den_int) den_nilV))) den_nil)) rfl (blkOk_by (by kernel_rfl)) (fun _ _ _ _ _ => pg_name (i := 3) sc__law_word.nd rfl (by first | exact Or.inl rfl | exact Or.inr rfl)) (fun _ _ _ _ _ => den_noif) (fun _ _ _ _ _ => (den_op opd_add den_int (den_callF c__law_draw hr takes_none5 (den_consV (dv 0) (den_consV (dv 1) den_nilV))))))))
theorem sc__law_choice : FnScope ["m", "many", "letter"] ["m", "many"] (defScope (topS 51)) := ⟨rfl, rfl, rfl, by decide +kernel, rfl, by decide +kernel, by decide +kernel⟩
theorem ok__law_choice {P : Program} {w : World} {K : PySem.W.Frag} {mg : Str → Option Value} {base : Heap} {f : Addr} {fd : FuncData} (F : Fun K "_law_choice" "_law_choice" (topS 51) f fd) (m : mg "_law_choice" = some (.ref f)) (B : Bi mg) (c__law_draw : Fn P w K mg base "_law_draw" 2 2 d__law_draw) : Fn P w K mg base "_law_choice" 3 2 d2_law_choice :=
  fn_mk 2 F m sc__law_choice (F.binds fun _ _ _ _ _ _ us hl => match us, hl with | [_, _], _ => rfl) fun cdv A outer s H E hr =>
    have tk := takes_of (X := cxOf (L2.CX P w) P w K mg base ["m", "many", "letter"] "_law_choice" (defScope (topS 51)) f cdv A outer s H E) rfl rfl rfl rfl
    have po := passes_of (X := cxOf (L2.CX P w) P w K mg base ["m", "many", "letter"] "_law_choice" (defScope (topS 51)) f cdv A outer s H E) rfl
    (den_bone (den_ret (den_callTy cd_tuple rfl B.tuple (by decide +kernel) (den_cons (den_lc (own := [("letter", 2)]) (.one 2) rfl sc__law_choice.nd (den_range2 rfl B.range (den_cons den_int (den_cons (den_op opd_add (dv 1) den_int) den_nil))) rfl (blkOk_by (by kernel_rfl)) (fun _ _ _ _ _ => pg_name (i := 2) sc__law_choice.nd rfl (by first | exact Or.inl rfl | exact Or.inr rfl)) (fun _ _ _ _ _ => den_oneif (den_tcmp (opd_eq hr.units) (den_callF c__law_draw hr takes_none5 (den_consV (dv 0) (den_consV den_int den_nilV))) den_int)) (fun _ _ _ _ _ => (dv 2))) den_nil))))
theorem sc__law_within : FnScope ["table", "some", "first", "found", "fresh", "later", "row", "letter", "other"] ["table", "some"] (defScope (topS 52)) := ⟨rfl, rfl, rfl, by decide +kernel, rfl, by decide +kernel, by decide +kernel⟩
theorem ok__law_within {P : Program} {w : World} {K : PySem.W.Frag} {mg : Str → Option Value} {base : Heap} {f : Addr} {fd : FuncData} (F : Fun K "_law_within" "_law_within" (topS 52) f fd) (m : mg "_law_within" = some (.ref f)) (B : Bi mg) (c__law_pressed : Fn P w K mg base "_law_pressed" 2 3 d2_law_pressed) : Fn P w K mg base "_law_within" 3 2 d2_law_within :=
  fn_mk 2 F m sc__law_within (F.binds fun _ _ _ _ _ _ us hl => match us, hl with | [_, _], _ => rfl) fun cdv A outer s H E hr =>
    have tk := takes_of (X := cxOf (L2.CX P w) P w K mg base ["table", "some", "first", "found", "fresh", "later", "row", "letter", "other"] "_law_within" (defScope (topS 52)) f cdv A outer s H E) rfl rfl rfl rfl
    have po := passes_of (X := cxOf (L2.CX P w) P w K mg base ["table", "some", "first", "found", "fresh", "later", "row", "letter", "other"] "_law_within" (defScope (topS 52)) f cdv A outer s H E) rfl
    (den_bcons (den_set (i := 2) sc__law_within.nd rfl (by first | exact Or.inl rfl | exact Or.inr rfl) (den_op opd_mul (den_tup (den_consV den_int den_nilV)) (den_callB cd_len rfl B.len (by decide +kernel) (den_cons (dv 0) den_nil))))
      (den_bcons (by first | exact den_par2 ((den_consV (den_dispT (hu_of hr) (dv 2) (den_tup den_nilV)) (den_consV (den_lst (den_consV (dv 2) den_nilV)) den_nilV))) sc__law_within.nd rfl rfl | exact den_parG2 (den_tup (den_consV (den_dispT (hu_of hr) (dv 2) (den_tup den_nilV)) (den_consV (den_lst (den_consV (dv 2) den_nilV)) den_nilV))) (den_gtup rfl (den_gcons (den_gname (i := 3) sc__law_within.nd rfl (by first | exact Or.inl rfl | exact Or.inr rfl)) (den_gcons (den_gname (i := 4) sc__law_within.nd rfl (by first | exact Or.inl rfl | exact Or.inr rfl)) den_gnil))))
      (den_bcons (den_while po (den_tcmp (opd_ne hr.units) (dv 4) (den_lst den_nilV)) (den_bcons (den_set (i := 5) sc__law_within.nd rfl (by first | exact Or.inl rfl | exact Or.inr rfl) (den_lst den_nilV))
      (den_bcons (den_for po rfl (den_iseq (dv 4)) (den_gname (i := 6) sc__law_within.nd rfl (by first | exact Or.inl rfl | exact Or.inr rfl)) (den_bone (den_for po rfl (den_iseq (dv 1)) (den_gname (i := 7) sc__law_within.nd rfl (by first | exact Or.inl rfl | exact Or.inr rfl)) (den_bcons (den_set (i := 8) sc__law_within.nd rfl (by first | exact Or.inl rfl | exact Or.inr rfl) (den_callF c__law_pressed hr tk (den_consV (dv 0) (den_consV (dv 6) (den_consV (dv 7) den_nilV)))))
      (den_bone (den_ifS (den_tcmp (opd_notInT (hu_of hr)) (dv 8) (dv 3)) (den_bcons (den_dputT (hu_of hr) (dv 3) (dv 8) (den_op opd_add (den_dgT (hu_of hr) (dv 3) (dv 6)) (den_tup (den_consV (dv 7) den_nilV))))
      (den_bone (den_expr (den_append (dv 5) (dv 8))))) den_bnil))))))
      (den_bone (den_set (i := 4) sc__law_within.nd rfl (by first | exact Or.inl rfl | exact Or.inr rfl) (dv 5))))))
      (den_bone (den_ret (den_lc (own := [("row", 6)]) (.one 6) rfl sc__law_within.nd (den_ikeys (dv 3)) rfl (blkOk_by (by kernel_rfl)) (fun _ _ _ _ _ => pg_name (i := 6) sc__law_within.nd rfl (by first | exact Or.inl rfl | exact Or.inr rfl)) (fun _ _ _ _ _ => den_noif) (fun _ _ _ _ _ => (den_dgT (hu_of hr) (dv 3) (dv 6)))))))))
theorem sc__law_between : FnScope ["table", "left", "word", "right", "found", "rights", "one", "row", "other", "here", "letter"] ["table", "left", "word", "right"] (defScope (topS 53)) := ⟨rfl, rfl, rfl, by decide +kernel, rfl, by decide +kernel, by decide +kernel⟩
theorem ok__law_between {P : Program} {w : World} {K : PySem.W.Frag} {mg : Str → Option Value} {base : Heap} {f : Addr} {fd : FuncData} (F : Fun K "_law_between" "_law_between" (topS 53) f fd) (m : mg "_law_between" = some (.ref f)) (B : Bi mg) (c__law_within : Fn P w K mg base "_law_within" 3 2 d2_law_within) (c__law_row : Fn P w K mg base "_law_row" 3 2 d2_law_row) (c__law_pressed : Fn P w K mg base "_law_pressed" 2 3 d2_law_pressed) (c__law_back : Fn P w K mg base "_law_back" 3 2 d2_law_back) : Fn P w K mg base "_law_between" 4 4 d2_law_between :=
  fn_mk 3 F m sc__law_between (F.binds fun _ _ _ _ _ _ us hl => match us, hl with | [_, _, _, _], _ => rfl) fun cdv A outer s H E hr =>
    have tk := takes_of (X := cxOf (L2.CX P w) P w K mg base ["table", "left", "word", "right", "found", "rights", "one", "row", "other", "here", "letter"] "_law_between" (defScope (topS 53)) f cdv A outer s H E) rfl rfl rfl rfl
    have po := passes_of (X := cxOf (L2.CX P w) P w K mg base ["table", "left", "word", "right", "found", "rights", "one", "row", "other", "here", "letter"] "_law_between" (defScope (topS 53)) f cdv A outer s H E) rfl
    (den_bcons (by first | exact den_par2 ((den_consV den_d0T (den_consV (den_callF c__law_within hr tk (den_consV (dv 0) (den_consV (dv 3) den_nilV))) den_nilV))) sc__law_between.nd rfl rfl | exact den_parG2 (den_tup (den_consV den_d0T (den_consV (den_callF c__law_within hr tk (den_consV (dv 0) (den_consV (dv 3) den_nilV))) den_nilV))) (den_gtup rfl (den_gcons (den_gname (i := 4) sc__law_between.nd rfl (by first | exact Or.inl rfl | exact Or.inr rfl)) (den_gcons (den_gname (i := 5) sc__law_between.nd rfl (by first | exact Or.inl rfl | exact Or.inr rfl)) den_gnil))))
      (den_bcons (den_for po rfl (den_iseq (den_callF c__law_within hr tk (den_consV (dv 0) (den_consV (dv 1) den_nilV)))) (den_gname (i := 6) sc__law_between.nd rfl (by first | exact Or.inl rfl | exact Or.inr rfl)) (den_bcons (den_set (i := 7) sc__law_between.nd rfl (by first | exact Or.inl rfl | exact Or.inr rfl) (den_callF c__law_row hr tk (den_consV (dv 0) (den_consV (den_op opd_add (dv 6) (dv 2)) den_nilV))))
      (den_bone (den_for po rfl (den_iseq (dv 5)) (den_gname (i := 8) sc__law_between.nd rfl (by first | exact Or.inl rfl | exact Or.inr rfl)) (den_bcons (den_set (i := 9) sc__law_between.nd rfl (by first | exact Or.inl rfl | exact Or.inr rfl) (dv 7))
      (den_bcons (den_for po rfl (den_iseq (dv 8)) (den_gname (i := 10) sc__law_between.nd rfl (by first | exact Or.inl rfl | exact Or.inr rfl)) (den_bone (den_set (i := 9) sc__law_between.nd rfl (by first | exact Or.inl rfl | exact Or.inr rfl) (den_callF c__law_pressed hr tk (den_consV (dv 0) (den_consV (dv 9) (den_consV (dv 10) den_nilV)))))))
      (den_bone (den_dputT (hu_of hr) (dv 4) (dv 9) (den_callB cd_len rfl B.len (by decide +kernel) (den_cons (den_callF c__law_back hr tk (den_consV (dv 0) (den_consV (dv 9) den_nilV))) den_nil))))))))))
      (den_bone (den_ret (dv 4)))))
theorem sc__law_front : FnScope ["table", "word", "some", "row", "found", "again", "letters", "letter"] ["table", "word", "some"] (defScope (topS 54)) := ⟨rfl, rfl, rfl, by decide +kernel, rfl, by decide +kernel, by decide +kernel⟩
theorem ok__law_front {P : Program} {w : World} {K : PySem.W.Frag} {mg : Str → Option Value} {base : Heap} {f : Addr} {fd : FuncData} (F : Fun K "_law_front" "_law_front" (topS 54) f fd) (m : mg "_law_front" = some (.ref f)) (B : Bi mg) (c__law_row : Fn P w K mg base "_law_row" 3 2 d2_law_row) (c__law_pressed : Fn P w K mg base "_law_pressed" 2 3 d2_law_pressed) : Fn P w K mg base "_law_front" 4 3 d2_law_front :=
  fn_mk 3 F m sc__law_front (F.binds fun _ _ _ _ _ _ us hl => match us, hl with | [_, _, _], _ => rfl) fun cdv A outer s H E hr =>
    have tk := takes_of (X := cxOf (L2.CX P w) P w K mg base ["table", "word", "some", "row", "found", "again", "letters", "letter"] "_law_front" (defScope (topS 54)) f cdv A outer s H E) rfl rfl rfl rfl
    have po := passes_of (X := cxOf (L2.CX P w) P w K mg base ["table", "word", "some", "row", "found", "again", "letters", "letter"] "_law_front" (defScope (topS 54)) f cdv A outer s H E) rfl
    (den_bcons (by first | exact den_par2 ((den_consV (den_callF c__law_row hr tk (den_consV (dv 0) (den_consV (dv 1) den_nilV))) (den_consV (den_callTy cd_list rfl B.list (by decide +kernel) (den_cons (dv 1) den_nil)) den_nilV))) sc__law_front.nd rfl rfl | exact den_parG2 (den_tup (den_consV (den_callF c__law_row hr tk (den_consV (dv 0) (den_consV (dv 1) den_nilV))) (den_consV (den_callTy cd_list rfl B.list (by decide +kernel) (den_cons (dv 1) den_nil)) den_nilV))) (den_gtup rfl (den_gcons (den_gname (i := 3) sc__law_front.nd rfl (by first | exact Or.inl rfl | exact Or.inr rfl)) (den_gcons (den_gname (i := 4) sc__law_front.nd rfl (by first | exact Or.inl rfl | exact Or.inr rfl)) den_gnil))))
      (den_bcons (den_for po rfl (den_range1 rfl B.range (den_cons den_int den_nil)) (den_gname (i := 5) sc__law_front.nd rfl (by first | exact Or.inl rfl | exact Or.inr rfl)) (den_bcons (by first | exact (den_setLc (i := 6) (own := [("letter", 7)]) (.one 7) rfl sc__law_front.nd rfl rfl (sw_true rfl rfl rfl (by decide +kernel)) (den_iseq (dv 2)) rfl (blkOk_by (by kernel_rfl)) (fun _ _ _ _ _ => pg_name (i := 7) sc__law_front.nd rfl (by first | exact Or.inl rfl | exact Or.inr rfl)) (fun _ _ _ _ _ => den_oneif (den_tcmp opd_lt (den_ix (dv 3) (den_op opd_sub (dv 7) den_int)) den_int)) (fun _ _ _ _ _ => (dv 7))) | exact den_set (i := 6) sc__law_front.nd rfl (by first | exact Or.inl rfl | exact Or.inr rfl) (den_lc (own := [("letter", 7)]) (.one 7) rfl sc__law_front.nd (den_iseq (dv 2)) rfl (blkOk_by (by kernel_rfl)) (fun _ _ _ _ _ => pg_name (i := 7) sc__law_front.nd rfl (by first | exact Or.inl rfl | exact Or.inr rfl)) (fun _ _ _ _ _ => den_oneif (den_tcmp opd_lt (den_ix (dv 3) (den_op opd_sub (dv 7) den_int)) den_int)) (fun _ _ _ _ _ => (dv 7))))
      (den_bone (den_ifS (den_tcmp (opd_ne hr.units) (dv 6) (den_lst den_nilV)) (den_bcons (den_set (i := 3) sc__law_front.nd rfl (by first | exact Or.inl rfl | exact Or.inr rfl) (den_callF c__law_pressed hr tk (den_consV (dv 0) (den_consV (dv 3) (den_consV (den_ix (dv 6) den_int) den_nilV)))))
      (den_bone (den_expr (den_append (dv 4) (den_ix (dv 6) den_int))))) den_bnil))))
      (den_bone (den_ret (dv 4)))))
theorem sc__law_endless_right : FnScope ["m", "many", "table", "bonds", "word", "left", "right", "due", "told", "one", "other", "k"] ["m"] (defScope (topS 55)) := ⟨rfl, rfl, rfl, by decide +kernel, rfl, by decide +kernel, by decide +kernel⟩
theorem ok__law_endless_right {P : Program} {w : World} {K : PySem.W.Frag} {mg : Str → Option Value} {base : Heap} {f : Addr} {fd : FuncData} (F : Fun K "_law_endless_right" "_law_endless_right" (topS 55) f fd) (m : mg "_law_endless_right" = some (.ref f)) (B : Bi mg) (c__law_draw : Fn P w K mg base "_law_draw" 2 2 d__law_draw) (c__law_table : Fn P w K mg base "_law_table" 3 3 d2_law_table) (c_Bonds___init__ : Mkr P w K mg base "Bonds" 5 2 d_Bonds___init__) (c__law_word : Fn P w K mg base "_law_word" 3 3 d2_law_word) (c__law_choice : Fn P w K mg base "_law_choice" 3 2 d2_law_choice) (c__law_front : Fn P w K mg base "_law_front" 4 3 d2_law_front) (c_least_between : Fn P w K mg base "least_between" 10 4 d_least_between) (c__law_least : Fn P w K mg base "_law_least" 4 2 d2_law_least) : Fn P w K mg base "_law_endless_right" 11 1 d2_law_endless_right :=
  fn_mk 10 F m sc__law_endless_right (F.binds fun _ _ _ _ _ _ us hl => match us, hl with | [_], _ => rfl) fun cdv A outer s H E hr =>
    have tk := takes_of (X := cxOf (L2.CX P w) P w K mg base ["m", "many", "table", "bonds", "word", "left", "right", "due", "told", "one", "other", "k"] "_law_endless_right" (defScope (topS 55)) f cdv A outer s H E) rfl rfl rfl rfl
    have po := passes_of (X := cxOf (L2.CX P w) P w K mg base ["m", "many", "table", "bonds", "word", "left", "right", "due", "told", "one", "other", "k"] "_law_endless_right" (defScope (topS 55)) f cdv A outer s H E) rfl
    (den_bcons (den_set (i := 1) sc__law_endless_right.nd rfl (by first | exact Or.inl rfl | exact Or.inr rfl) (den_op opd_add den_int (den_callF c__law_draw hr tk (den_consV (dv 0) (den_consV den_int den_nilV)))))
      (den_bcons (den_set (i := 2) sc__law_endless_right.nd rfl (by first | exact Or.inl rfl | exact Or.inr rfl) (den_callF c__law_table hr tk (den_consV (dv 0) (den_consV (dv 1) (den_consV (den_lst (den_consV den_int (den_consV den_int (den_consV den_int (den_consV den_int (den_consV den_int (den_consV den_int den_nilV))))))) den_nilV)))))
      (den_bcons (by first | exact den_par2 ((den_consV (den_make c_Bonds___init__ hr tk wc_E (den_consV (dv 2) den_nilV)) (den_consV (den_callF c__law_word hr tk (den_consV (dv 0) (den_consV (dv 1) (den_consV den_int den_nilV)))) den_nilV))) sc__law_endless_right.nd rfl rfl | exact den_parG2 (den_tup (den_consV (den_make c_Bonds___init__ hr tk wc_E (den_consV (dv 2) den_nilV)) (den_consV (den_callF c__law_word hr tk (den_consV (dv 0) (den_consV (dv 1) (den_consV den_int den_nilV)))) den_nilV))) (den_gtup rfl (den_gcons (den_gname (i := 3) sc__law_endless_right.nd rfl (by first | exact Or.inl rfl | exact Or.inr rfl)) (den_gcons (den_gname (i := 4) sc__law_endless_right.nd rfl (by first | exact Or.inl rfl | exact Or.inr rfl)) den_gnil))))
      (den_bcons (by first | exact den_par2 ((den_consV (den_callF c__law_choice hr tk (den_consV (dv 0) (den_consV (dv 1) den_nilV))) (den_consV (den_callF c__law_choice hr tk (den_consV (dv 0) (den_consV (dv 1) den_nilV))) den_nilV))) sc__law_endless_right.nd rfl rfl | exact den_parG2 (den_tup (den_consV (den_callF c__law_choice hr tk (den_consV (dv 0) (den_consV (dv 1) den_nilV))) (den_consV (den_callF c__law_choice hr tk (den_consV (dv 0) (den_consV (dv 1) den_nilV))) den_nilV))) (den_gtup rfl (den_gcons (den_gname (i := 5) sc__law_endless_right.nd rfl (by first | exact Or.inl rfl | exact Or.inr rfl)) (den_gcons (den_gname (i := 6) sc__law_endless_right.nd rfl (by first | exact Or.inl rfl | exact Or.inr rfl)) den_gnil))))
      (den_bcons (den_set (i := 7) sc__law_endless_right.nd rfl (by first | exact Or.inl rfl | exact Or.inr rfl) (den_rev (den_callF c__law_front hr tk (den_consV (dv 2) (den_consV (den_rev (den_callF c__law_front hr tk (den_consV (dv 2) (den_consV (dv 4) (den_consV (dv 6) den_nilV))))) (den_consV (dv 5) den_nilV))))))
      (den_bcons (den_set (i := 8) sc__law_endless_right.nd rfl (by first | exact Or.inl rfl | exact Or.inr rfl) (den_callF c_least_between hr tk (den_consV (dv 3) (den_consV (dv 5) (den_consV (dv 4) (den_consV (dv 6) den_nilV))))))
      (den_bcons (by first | exact (den_setLc (i := 9) (own := [("k", 11)]) (.one 11) rfl sc__law_endless_right.nd rfl rfl (sw_true rfl rfl rfl (by decide +kernel)) (den_range1 rfl B.range (den_cons (den_if (den_tcmp (opd_ne hr.units) (dv 5) (den_tup den_nilV)) den_int den_int) den_nil)) rfl (blkOk_by (by kernel_rfl)) (fun _ _ _ _ _ => pg_name (i := 11) sc__law_endless_right.nd rfl (by first | exact Or.inl rfl | exact Or.inr rfl)) (fun _ _ _ _ _ => den_noif) (fun _ _ _ _ _ => (den_ix (dv 5) (den_callF c__law_draw hr takes_none5 (den_consV (dv 0) (den_consV (den_callB cd_len rfl B.len (by decide +kernel) (den_cons (dv 5) den_nil)) den_nilV)))))) | exact den_set (i := 9) sc__law_endless_right.nd rfl (by first | exact Or.inl rfl | exact Or.inr rfl) (den_lc (own := [("k", 11)]) (.one 11) rfl sc__law_endless_right.nd (den_range1 rfl B.range (den_cons (den_if (den_tcmp (opd_ne hr.units) (dv 5) (den_tup den_nilV)) den_int den_int) den_nil)) rfl (blkOk_by (by kernel_rfl)) (fun _ _ _ _ _ => pg_name (i := 11) sc__law_endless_right.nd rfl (by first | exact Or.inl rfl | exact Or.inr rfl)) (fun _ _ _ _ _ => den_noif) (fun _ _ _ _ _ => (den_ix (dv 5) (den_callF c__law_draw hr takes_none5 (den_consV (dv 0) (den_consV (den_callB cd_len rfl B.len (by decide +kernel) (den_cons (dv 5) den_nil)) den_nilV)))))))
      (den_bcons (by first | exact (den_setLc (i := 10) (own := [("k", 11)]) (.one 11) rfl sc__law_endless_right.nd rfl rfl (sw_true rfl rfl rfl (by decide +kernel)) (den_range1 rfl B.range (den_cons (den_if (den_tcmp (opd_ne hr.units) (dv 6) (den_tup den_nilV)) den_int den_int) den_nil)) rfl (blkOk_by (by kernel_rfl)) (fun _ _ _ _ _ => pg_name (i := 11) sc__law_endless_right.nd rfl (by first | exact Or.inl rfl | exact Or.inr rfl)) (fun _ _ _ _ _ => den_noif) (fun _ _ _ _ _ => (den_ix (dv 6) (den_callF c__law_draw hr takes_none5 (den_consV (dv 0) (den_consV (den_callB cd_len rfl B.len (by decide +kernel) (den_cons (dv 6) den_nil)) den_nilV)))))) | exact den_set (i := 10) sc__law_endless_right.nd rfl (by first | exact Or.inl rfl | exact Or.inr rfl) (den_lc (own := [("k", 11)]) (.one 11) rfl sc__law_endless_right.nd (den_range1 rfl B.range (den_cons (den_if (den_tcmp (opd_ne hr.units) (dv 6) (den_tup den_nilV)) den_int den_int) den_nil)) rfl (blkOk_by (by kernel_rfl)) (fun _ _ _ _ _ => pg_name (i := 11) sc__law_endless_right.nd rfl (by first | exact Or.inl rfl | exact Or.inr rfl)) (fun _ _ _ _ _ => den_noif) (fun _ _ _ _ _ => (den_ix (dv 6) (den_callF c__law_draw hr takes_none5 (den_consV (dv 0) (den_consV (den_callB cd_len rfl B.len (by decide +kernel) (den_cons (dv 6) den_nil)) den_nilV)))))))
      (den_bone (den_ret (den_vand (den_cmp (opd_eq hr.units) (dv 8) (den_callF c__law_least hr tk (den_consV (dv 2) (den_consV (dv 7) den_nilV)))) (den_vone (den_cmp (opd_eq hr.units) (den_callF c_least_between hr tk (den_consV (dv 3) (den_consV (dv 5) (den_consV (den_op opd_add (den_op opd_add (dv 9) (dv 4)) (dv 10)) (den_consV (dv 6) den_nilV))))) (dv 8))))))))))))))
theorem sc_law : FnScope ["script", "m", "turn", "table", "many", "bonds", "word", "left", "right", "told", "due", "least", "one", "other", "row"] ["script"] (defScope (topS 56)) := ⟨rfl, rfl, rfl, by decide +kernel, rfl, by decide +kernel, by decide +kernel⟩
theorem ok_law {P : Program} {w : World} {K : PySem.W.Frag} {mg : Str → Option Value} {base : Heap} {f : Addr} {fd : FuncData} (F : Fun K "law" "law" (topS 56) f fd) (B : Bi mg) (c__law_begun : Fn P w K mg base "_law_begun" 2 1 d__law_begun) (c__law_finite : Fn P w K mg base "_law_finite" 4 2 d2_law_finite) (c_Bonds___init__ : Mkr P w K mg base "Bonds" 5 2 d_Bonds___init__) (c__law_word : Fn P w K mg base "_law_word" 3 3 d2_law_word) (c__law_choice : Fn P w K mg base "_law_choice" 3 2 d2_law_choice) (c_least_between : Fn P w K mg base "least_between" 10 4 d_least_between) (c__law_between : Fn P w K mg base "_law_between" 4 4 d2_law_between) (c__law_row : Fn P w K mg base "_law_row" 3 2 d2_law_row) (c__law_least : Fn P w K mg base "_law_least" 4 2 d2_law_least) (c__law_within : Fn P w K mg base "_law_within" 3 2 d2_law_within) (c__law_draw : Fn P w K mg base "_law_draw" 2 2 d__law_draw) (c_is_ahead : Fn P w K mg base "is_ahead" 7 3 d_is_ahead) (c_is_behind : Fn P w K mg base "is_behind" 7 3 d_is_behind) (c__law_endless_right : Fn P w K mg base "_law_endless_right" 11 1 d2_law_endless_right) : FnG P w K mg base 12 f fd ["script"] (spF K mg 1 d_law) :=
  fng_ok F sc_law fun cdv A outer s H E hr hG =>
    have tk := takes_of (X := cxOf (L2.CX P w) P w K mg base ["script", "m", "turn", "table", "many", "bonds", "word", "left", "right", "told", "due", "least", "one", "other", "row"] "law" (defScope (topS 56)) f cdv A outer s H E) rfl rfl rfl rfl
    have po := passes_of (X := cxOf (L2.CX P w) P w K mg base ["script", "m", "turn", "table", "many", "bonds", "word", "left", "right", "told", "due", "least", "one", "other", "row"] "law" (defScope (topS 56)) f cdv A outer s H E) rfl
    (den_bcons (den_set (i := 1) sc_law.nd rfl (by first | exact Or.inl rfl | exact Or.inr rfl) (den_callF c__law_begun hr tk (den_consV (dv 0) den_nilV)))
      (den_bcons (den_for po rfl (den_range1 rfl B.range (den_cons den_int den_nil)) (den_gname (i := 2) sc_law.nd rfl (by first | exact Or.inl rfl | exact Or.inr rfl)) (den_bcons (den_set (i := 3) sc_law.nd rfl (by first | exact Or.inl rfl | exact Or.inr rfl) (den_ix (den_callF c__law_finite hr tk (den_consV (dv 1) (den_consV den_int den_nilV))) den_int))
      (den_bcons (den_set (i := 4) sc_law.nd rfl (by first | exact Or.inl rfl | exact Or.inr rfl) (den_callB cd_len rfl B.len (by decide +kernel) (den_cons (dv 3) den_nil)))
      (den_bcons (by first | exact den_par2 ((den_consV (den_make c_Bonds___init__ hr tk wc_E (den_consV (dv 3) den_nilV)) (den_consV (den_callTy cd_tuple rfl B.tuple (by decide +kernel) (den_cons (den_callF c__law_word hr tk (den_consV (dv 1) (den_consV (dv 4) (den_consV den_int den_nilV)))) den_nil)) den_nilV))) sc_law.nd rfl rfl | exact den_parG2 (den_tup (den_consV (den_make c_Bonds___init__ hr tk wc_E (den_consV (dv 3) den_nilV)) (den_consV (den_callTy cd_tuple rfl B.tuple (by decide +kernel) (den_cons (den_callF c__law_word hr tk (den_consV (dv 1) (den_consV (dv 4) (den_consV den_int den_nilV)))) den_nil)) den_nilV))) (den_gtup rfl (den_gcons (den_gname (i := 5) sc_law.nd rfl (by first | exact Or.inl rfl | exact Or.inr rfl)) (den_gcons (den_gname (i := 6) sc_law.nd rfl (by first | exact Or.inl rfl | exact Or.inr rfl)) den_gnil))))
      (den_bcons (by first | exact den_par2 ((den_consV (den_callF c__law_choice hr tk (den_consV (dv 1) (den_consV (dv 4) den_nilV))) (den_consV (den_callF c__law_choice hr tk (den_consV (dv 1) (den_consV (dv 4) den_nilV))) den_nilV))) sc_law.nd rfl rfl | exact den_parG2 (den_tup (den_consV (den_callF c__law_choice hr tk (den_consV (dv 1) (den_consV (dv 4) den_nilV))) (den_consV (den_callF c__law_choice hr tk (den_consV (dv 1) (den_consV (dv 4) den_nilV))) den_nilV))) (den_gtup rfl (den_gcons (den_gname (i := 7) sc_law.nd rfl (by first | exact Or.inl rfl | exact Or.inr rfl)) (den_gcons (den_gname (i := 8) sc_law.nd rfl (by first | exact Or.inl rfl | exact Or.inr rfl)) den_gnil))))
      (den_bcons (by first | exact den_par2 ((den_consV (den_callF c_least_between hr tk (den_consV (dv 5) (den_consV (dv 7) (den_consV (dv 6) (den_consV (dv 8) den_nilV))))) (den_consV (den_callF c__law_between hr tk (den_consV (dv 3) (den_consV (dv 7) (den_consV (dv 6) (den_consV (dv 8) den_nilV))))) den_nilV))) sc_law.nd rfl rfl | exact den_parG2 (den_tup (den_consV (den_callF c_least_between hr tk (den_consV (dv 5) (den_consV (dv 7) (den_consV (dv 6) (den_consV (dv 8) den_nilV))))) (den_consV (den_callF c__law_between hr tk (den_consV (dv 3) (den_consV (dv 7) (den_consV (dv 6) (den_consV (dv 8) den_nilV))))) den_nilV))) (den_gtup rfl (den_gcons (den_gname (i := 9) sc_law.nd rfl (by first | exact Or.inl rfl | exact Or.inr rfl)) (den_gcons (den_gname (i := 10) sc_law.nd rfl (by first | exact Or.inl rfl | exact Or.inr rfl)) den_gnil))))
      (den_bcons (by first | exact (den_setLc (i := 11) (own := [("row", 14)]) (.one 14) rfl sc_law.nd rfl rfl (sw_true rfl rfl rfl (by decide +kernel)) (den_ikeys (dv 10)) rfl (blkOk_by (by kernel_rfl)) (fun _ _ _ _ _ => pg_name (i := 14) sc_law.nd rfl (by first | exact Or.inl rfl | exact Or.inr rfl)) (fun _ _ _ _ _ => den_oneif (den_tcmp (opd_eq hr.units) (den_dgT (hu_of hr) (dv 10) (dv 14)) (den_minValsT rfl rfl B.min (dv 10)))) (fun _ _ _ _ _ => (dv 14))) | exact den_set (i := 11) sc_law.nd rfl (by first | exact Or.inl rfl | exact Or.inr rfl) (den_lc (own := [("row", 14)]) (.one 14) rfl sc_law.nd (den_ikeys (dv 10)) rfl (blkOk_by (by kernel_rfl)) (fun _ _ _ _ _ => pg_name (i := 14) sc_law.nd rfl (by first | exact Or.inl rfl | exact Or.inr rfl)) (fun _ _ _ _ _ => den_oneif (den_tcmp (opd_eq hr.units) (den_dgT (hu_of hr) (dv 10) (dv 14)) (den_minValsT rfl rfl B.min (dv 10)))) (fun _ _ _ _ _ => (dv 14))))
      (den_bcons (den_ifS (PW.pt (den_or (den_tcmp (opd_ne hr.units) (den_callB cd_len rfl B.len (by decide +kernel) (den_cons (dv 11) den_nil)) den_int) (den_or (den_tcmp (opd_ne hr.units) (den_callF c__law_row hr tk (den_consV (dv 3) (den_consV (dv 9) den_nilV))) (den_ix (dv 11) den_int)) (den_or1 (den_tcmp (opd_ne hr.units) (dv 9) (den_callF c__law_least hr tk (den_consV (dv 3) (den_consV (dv 9) den_nilV)))))))) (den_bone (den_ret den_bl)) den_bnil)
      (den_bcons (den_set (i := 12) sc_law.nd rfl (by first | exact Or.inl rfl | exact Or.inr rfl) (den_ix (den_callF c__law_within hr tk (den_consV (dv 3) (den_consV (dv 7) den_nilV))) (den_op opd_mul (den_callF c__law_draw hr tk (den_consV (dv 1) (den_consV den_int den_nilV))) (den_op opd_sub (den_callB cd_len rfl B.len (by decide +kernel) (den_cons (den_callF c__law_within hr tk (den_consV (dv 3) (den_consV (dv 7) den_nilV))) den_nil)) den_int))))
      (den_bcons (den_set (i := 13) sc_law.nd rfl (by first | exact Or.inl rfl | exact Or.inr rfl) (den_ix (den_callF c__law_within hr tk (den_consV (dv 3) (den_consV (dv 8) den_nilV))) (den_neg den_int)))
      (den_bcons (den_ifS (den_tcmp (opd_ne hr.units) (den_callF c_least_between hr tk (den_consV (dv 5) (den_consV (dv 7) (den_consV (den_op opd_add (den_op opd_add (dv 12) (dv 6)) (dv 13)) (den_consV (dv 8) den_nilV))))) (dv 9)) (den_bone (den_ret den_bl)) den_bnil)
      (den_bone (den_ifS (PW.pt (den_or (den_tnot (den_tval (den_callF c_is_ahead hr tk (den_consV (dv 5) (den_consV (dv 9) (den_consV (dv 8) den_nilV)))))) (den_or1 (den_tnot (den_tval (den_callF c_is_behind hr tk (den_consV (dv 5) (den_consV (dv 9) (den_consV (dv 7) den_nilV))))))))) (den_bone (den_ret den_bl)) den_bnil)))))))))))))
      (den_bone (den_ret (den_vand (den_callF c__law_endless_right hr tk (den_consV (dv 1) den_nilV)) (den_vone (den_cmp (opd_eq hr.units) (den_callF c_least_between hr tk (den_consV (den_make c_Bonds___init__ hr tk wc_E (den_consV (den_lst (den_consV (den_lst (den_consV den_int (den_consV den_int den_nilV))) (den_consV (den_lst (den_consV den_int (den_consV den_int den_nilV))) den_nilV))) den_nilV)) (den_consV (den_tup (den_consV den_int den_nilV)) (den_consV (den_tup (den_consV den_int (den_consV den_int (den_consV den_int den_nilV)))) (den_consV (den_tup (den_consV den_int den_nilV)) den_nilV))))) (den_tup (den_consV den_int den_nilV)))))))))
theorem all_mk {P q : Program} {w : World} {K : PySem.W.Frag} {h : Heap} {mg : Str → Option Value} {fa : Addr} (X : K.In h) (G : h.Ns mainGlobals mg) (hfa : mg "law" = some (.ref fa))
    {p_KINDS : Addr} {n_KINDS : Nat} {d_KINDS : Option Addr} {s_KINDS : Array (Option Value)} {t_KINDS0 : Tok} {t_KINDS1 : Tok} {t_KINDS2 : Tok} {t_KINDS3 : Tok} {t_KINDS4 : Tok}
    {t_MOST_LETTERS : Tok}
    {p_WEIGHTS : Addr} {n_WEIGHTS : Nat}
    {t_WEIGHTS0 ta_WEIGHTS0 tb_WEIGHTS0 : Tok} {q_WEIGHTS0 : Addr} {n_WEIGHTS0 : Nat} {d_WEIGHTS0 : Option Addr} {s_WEIGHTS0 : Array (Option Value)}
    {t_WEIGHTS1 ta_WEIGHTS1 tb_WEIGHTS1 : Tok} {q_WEIGHTS1 : Addr} {n_WEIGHTS1 : Nat} {d_WEIGHTS1 : Option Addr} {s_WEIGHTS1 : Array (Option Value)}
    {t_WEIGHTS2 ta_WEIGHTS2 tb_WEIGHTS2 : Tok} {q_WEIGHTS2 : Addr} {n_WEIGHTS2 : Nat} {d_WEIGHTS2 : Option Addr} {s_WEIGHTS2 : Array (Option Value)}
    {t_WEIGHTS3 ta_WEIGHTS3 tb_WEIGHTS3 : Tok} {q_WEIGHTS3 : Addr} {n_WEIGHTS3 : Nat} {d_WEIGHTS3 : Option Addr} {s_WEIGHTS3 : Array (Option Value)}
    {t_WEIGHTS4 ta_WEIGHTS4 tb_WEIGHTS4 : Tok} {q_WEIGHTS4 : Addr} {n_WEIGHTS4 : Nat} {d_WEIGHTS4 : Option Addr} {s_WEIGHTS4 : Array (Option Value)}
    {t_MOST_WORD : Tok}
    {C_BadBonds : Addr}
    {C_BadWord : Addr}
    {C_BadNumber : Addr}
    {C_BadChoice : Addr}
    {C_TooGreat : Addr}
    {fI_BadBonds cda_BadBonds cc_BadBonds : Addr} {oc_BadBonds kV_BadBonds doc_BadBonds pm_BadBonds ct_BadBonds : Value} {od_BadBonds an_BadBonds : Option Addr} {osl_BadBonds : Array (Option Value)} {vs_BadBonds : Array Value} {ccl_BadBonds cl_BadBonds : Value} {cdd_BadBonds cld_BadBonds : Option Addr} {ccs_BadBonds csl_BadBonds : Array (Option Value)} {tf_BadBonds : Tok}
    {fI_TooGreat cda_TooGreat cc_TooGreat : Addr} {oc_TooGreat kV_TooGreat doc_TooGreat pm_TooGreat ct_TooGreat : Value} {od_TooGreat an_TooGreat : Option Addr} {osl_TooGreat : Array (Option Value)} {vs_TooGreat : Array Value} {ccl_TooGreat cl_TooGreat : Value} {cdd_TooGreat cld_TooGreat : Option Addr} {ccs_TooGreat csl_TooGreat : Array (Option Value)} {tf_TooGreat : Tok}
    {fI_BadNumber cda_BadNumber cc_BadNumber : Addr} {oc_BadNumber kV_BadNumber doc_BadNumber pm_BadNumber ct_BadNumber : Value} {od_BadNumber an_BadNumber : Option Addr} {osl_BadNumber : Array (Option Value)} {vs_BadNumber : Array Value} {ccl_BadNumber cl_BadNumber : Value} {cdd_BadNumber cld_BadNumber : Option Addr} {ccs_BadNumber csl_BadNumber : Array (Option Value)} {tf_BadNumber : Tok}
    {fI_BadWord cda_BadWord cc_BadWord : Addr} {oc_BadWord kV_BadWord doc_BadWord pm_BadWord ct_BadWord : Value} {od_BadWord an_BadWord : Option Addr} {osl_BadWord : Array (Option Value)} {vs_BadWord : Array Value} {ccl_BadWord cl_BadWord : Value} {cdd_BadWord cld_BadWord : Option Addr} {ccs_BadWord csl_BadWord : Array (Option Value)} {tf_BadWord : Tok}
    {fI_BadChoice cda_BadChoice cc_BadChoice : Addr} {oc_BadChoice kV_BadChoice doc_BadChoice pm_BadChoice ct_BadChoice : Value} {od_BadChoice an_BadChoice : Option Addr} {osl_BadChoice : Array (Option Value)} {vs_BadChoice : Array Value} {ccl_BadChoice cl_BadChoice : Value} {cdd_BadChoice cld_BadChoice : Option Addr} {ccs_BadChoice csl_BadChoice : Array (Option Value)} {tf_BadChoice : Tok}
    {C p : Addr}
    {f_is_whole : Addr} {od_is_whole an_is_whole : Option Addr} {sl_is_whole : Array (Option Value)} {oc_is_whole kV_is_whole dc_is_whole pm_is_whole ct_is_whole : Value}
    {cd_is_whole : Value}
    {f_is_among : Addr} {od_is_among an_is_among : Option Addr} {sl_is_among : Array (Option Value)} {oc_is_among kV_is_among dc_is_among pm_is_among ct_is_among : Value}
    {cd_is_among : Value}
    {f_is_list : Addr} {od_is_list an_is_list : Option Addr} {sl_is_list : Array (Option Value)} {oc_is_list kV_is_list dc_is_list pm_is_list ct_is_list : Value}
    {cd_is_list : Value}
    {f_is_bond : Addr} {od_is_bond an_is_bond : Option Addr} {sl_is_bond : Array (Option Value)} {oc_is_bond kV_is_bond dc_is_bond pm_is_bond ct_is_bond : Value}
    {cd_is_bond : Value}
    {f_need_rows : Addr} {od_need_rows an_need_rows : Option Addr} {sl_need_rows : Array (Option Value)} {oc_need_rows kV_need_rows dc_need_rows pm_need_rows ct_need_rows : Value}
    {cd_need_rows : Value}
    {f_Bonds___init__ : Addr} {od_Bonds___init__ an_Bonds___init__ : Option Addr} {sl_Bonds___init__ : Array (Option Value)} {oc_Bonds___init__ kV_Bonds___init__ dc_Bonds___init__ pm_Bonds___init__ ct_Bonds___init__ : Value}
    {cd_Bonds___init__ : Value}
    {f_Bonds___len__ : Addr} {od_Bonds___len__ an_Bonds___len__ : Option Addr} {sl_Bonds___len__ : Array (Option Value)} {oc_Bonds___len__ kV_Bonds___len__ dc_Bonds___len__ pm_Bonds___len__ ct_Bonds___len__ : Value}
    {cd_Bonds___len__ : Value}
    {f_Bonds_need_letter : Addr} {od_Bonds_need_letter an_Bonds_need_letter : Option Addr} {sl_Bonds_need_letter : Array (Option Value)} {oc_Bonds_need_letter kV_Bonds_need_letter dc_Bonds_need_letter pm_Bonds_need_letter ct_Bonds_need_letter : Value}
    {cd_Bonds_need_letter : Value}
    {f_Bonds_weight : Addr} {od_Bonds_weight an_Bonds_weight : Option Addr} {sl_Bonds_weight : Array (Option Value)} {oc_Bonds_weight kV_Bonds_weight dc_Bonds_weight pm_Bonds_weight ct_Bonds_weight : Value}
    {cd_Bonds_weight : Value}
    {f_need_word : Addr} {od_need_word an_need_word : Option Addr} {sl_need_word : Array (Option Value)} {oc_need_word kV_need_word dc_need_word pm_need_word ct_need_word : Value}
    {cd_need_word : Value}
    {f_start : Addr} {od_start an_start : Option Addr} {sl_start : Array (Option Value)} {oc_start kV_start dc_start pm_start ct_start : Value}
    {cd_start : Value}
    {f_pressed : Addr} {od_pressed an_pressed : Option Addr} {sl_pressed : Array (Option Value)} {oc_pressed kV_pressed dc_pressed pm_pressed ct_pressed : Value}
    {cd_pressed : Value}
    {f_row_by : Addr} {od_row_by an_row_by : Option Addr} {sl_row_by : Array (Option Value)} {oc_row_by kV_row_by dc_row_by pm_row_by ct_row_by : Value}
    {cd_row_by : Value}
    {f_below : Addr} {od_below an_below : Option Addr} {sl_below : Array (Option Value)} {oc_below kV_below dc_below pm_below ct_below : Value}
    {cd_below : Value}
    {f_undone : Addr} {od_undone an_undone : Option Addr} {sl_undone : Array (Option Value)} {oc_undone kV_undone dc_undone pm_undone ct_undone : Value}
    {cd_undone : Value}
    {f_shortest_by : Addr} {od_shortest_by an_shortest_by : Option Addr} {sl_shortest_by : Array (Option Value)} {oc_shortest_by kV_shortest_by dc_shortest_by pm_shortest_by ct_shortest_by : Value}
    {cd_shortest_by : Value}
    {f_word_by : Addr} {od_word_by an_word_by : Option Addr} {sl_word_by : Array (Option Value)} {oc_word_by kV_word_by dc_word_by pm_word_by ct_word_by : Value}
    {cd_word_by : Value}
    {f_is_choice : Addr} {od_is_choice an_is_choice : Option Addr} {sl_is_choice : Array (Option Value)} {oc_is_choice kV_is_choice dc_is_choice pm_is_choice ct_is_choice : Value}
    {cd_is_choice : Value}
    {f_need_choice : Addr} {od_need_choice an_need_choice : Option Addr} {sl_need_choice : Array (Option Value)} {oc_need_choice kV_need_choice dc_need_choice pm_need_choice ct_need_choice : Value}
    {cd_need_choice : Value}
    {f_ends_in : Addr} {od_ends_in an_ends_in : Option Addr} {sl_ends_in : Array (Option Value)} {oc_ends_in kV_ends_in dc_ends_in pm_ends_in ct_ends_in : Value}
    {cd_ends_in : Value}
    {f_is_ahead : Addr} {od_is_ahead an_is_ahead : Option Addr} {sl_is_ahead : Array (Option Value)} {oc_is_ahead kV_is_ahead dc_is_ahead pm_is_ahead ct_is_ahead : Value}
    {cd_is_ahead : Value}
    {f_is_behind : Addr} {od_is_behind an_is_behind : Option Addr} {sl_is_behind : Array (Option Value)} {oc_is_behind kV_is_behind dc_is_behind pm_is_behind ct_is_behind : Value}
    {cd_is_behind : Value}
    {f_parted_by : Addr} {od_parted_by an_parted_by : Option Addr} {sl_parted_by : Array (Option Value)} {oc_parted_by kV_parted_by dc_parted_by pm_parted_by ct_parted_by : Value}
    {cd_parted_by : Value}
    {f_least_between : Addr} {od_least_between an_least_between : Option Addr} {sl_least_between : Array (Option Value)} {oc_least_between kV_least_between dc_least_between pm_least_between ct_least_between : Value}
    {cd_least_between : Value}
    {f__law_mixed : Addr} {od__law_mixed an__law_mixed : Option Addr} {sl__law_mixed : Array (Option Value)} {oc__law_mixed kV__law_mixed dc__law_mixed pm__law_mixed ct__law_mixed : Value}
    {cd__law_mixed : Value}
    {f__law_folded : Addr} {od__law_folded an__law_folded : Option Addr} {sl__law_folded : Array (Option Value)} {oc__law_folded kV__law_folded dc__law_folded pm__law_folded ct__law_folded : Value}
    {cd__law_folded : Value}
    {f__law_draw : Addr} {od__law_draw an__law_draw : Option Addr} {sl__law_draw : Array (Option Value)} {oc__law_draw kV__law_draw dc__law_draw pm__law_draw ct__law_draw : Value}
    {cd__law_draw : Value}
    {f__law_begun : Addr} {od__law_begun an__law_begun : Option Addr} {sl__law_begun : Array (Option Value)} {oc__law_begun kV__law_begun dc__law_begun pm__law_begun ct__law_begun : Value}
    {cd__law_begun : Value}
    {f__law_table : Addr} {od__law_table an__law_table : Option Addr} {sl__law_table : Array (Option Value)} {oc__law_table kV__law_table dc__law_table pm__law_table ct__law_table : Value}
    {cd__law_table : Value}
    {f__law_shuffled : Addr} {od__law_shuffled an__law_shuffled : Option Addr} {sl__law_shuffled : Array (Option Value)} {oc__law_shuffled kV__law_shuffled dc__law_shuffled pm__law_shuffled ct__law_shuffled : Value}
    {cd__law_shuffled : Value}
    {f__law_finite : Addr} {od__law_finite an__law_finite : Option Addr} {sl__law_finite : Array (Option Value)} {oc__law_finite kV__law_finite dc__law_finite pm__law_finite ct__law_finite : Value}
    {cd__law_finite : Value}
    {f__law_weight : Addr} {od__law_weight an__law_weight : Option Addr} {sl__law_weight : Array (Option Value)} {oc__law_weight kV__law_weight dc__law_weight pm__law_weight ct__law_weight : Value}
    {cd__law_weight : Value}
    {f__law_pressed : Addr} {od__law_pressed an__law_pressed : Option Addr} {sl__law_pressed : Array (Option Value)} {oc__law_pressed kV__law_pressed dc__law_pressed pm__law_pressed ct__law_pressed : Value}
    {cd__law_pressed : Value}
    {f__law_row : Addr} {od__law_row an__law_row : Option Addr} {sl__law_row : Array (Option Value)} {oc__law_row kV__law_row dc__law_row pm__law_row ct__law_row : Value}
    {cd__law_row : Value}
    {f__law_back : Addr} {od__law_back an__law_back : Option Addr} {sl__law_back : Array (Option Value)} {oc__law_back kV__law_back dc__law_back pm__law_back ct__law_back : Value}
    {cd__law_back : Value}
    {f__law_least : Addr} {od__law_least an__law_least : Option Addr} {sl__law_least : Array (Option Value)} {oc__law_least kV__law_least dc__law_least pm__law_least ct__law_least : Value}
    {cd__law_least : Value}
    {f__law_word : Addr} {od__law_word an__law_word : Option Addr} {sl__law_word : Array (Option Value)} {oc__law_word kV__law_word dc__law_word pm__law_word ct__law_word : Value}
    {cd__law_word : Value}
    {f__law_choice : Addr} {od__law_choice an__law_choice : Option Addr} {sl__law_choice : Array (Option Value)} {oc__law_choice kV__law_choice dc__law_choice pm__law_choice ct__law_choice : Value}
    {cd__law_choice : Value}
    {f__law_within : Addr} {od__law_within an__law_within : Option Addr} {sl__law_within : Array (Option Value)} {oc__law_within kV__law_within dc__law_within pm__law_within ct__law_within : Value}
    {cd__law_within : Value}
    {f__law_between : Addr} {od__law_between an__law_between : Option Addr} {sl__law_between : Array (Option Value)} {oc__law_between kV__law_between dc__law_between pm__law_between ct__law_between : Value}
    {cd__law_between : Value}
    {f__law_front : Addr} {od__law_front an__law_front : Option Addr} {sl__law_front : Array (Option Value)} {oc__law_front kV__law_front dc__law_front pm__law_front ct__law_front : Value}
    {cd__law_front : Value}
    {f__law_endless_right : Addr} {od__law_endless_right an__law_endless_right : Option Addr} {sl__law_endless_right : Array (Option Value)} {oc__law_endless_right kV__law_endless_right dc__law_endless_right pm__law_endless_right ct__law_endless_right : Value}
    {cd__law_endless_right : Value}
    {f_law : Addr} {od_law an_law : Option Addr} {sl_law : Array (Option Value)} {oc_law kV_law dc_law pm_law ct_law : Value}
    {cd_law : Value}
    (z_len : PySem.W.nsIn K mainGlobals "len" = some none)
    (z_tuple : PySem.W.nsIn K mainGlobals "tuple" = some none)
    (z_list : PySem.W.nsIn K mainGlobals "list" = some none)
    (z_int : PySem.W.nsIn K mainGlobals "int" = some none)
    (z_range : PySem.W.nsIn K mainGlobals "range" = some none)
    (z_enumerate : PySem.W.nsIn K mainGlobals "enumerate" = some none)
    (z_zip : PySem.W.nsIn K mainGlobals "zip" = some none)
    (z_isinstance : PySem.W.nsIn K mainGlobals "isinstance" = some none)
    (z_all : PySem.W.nsIn K mainGlobals "all" = some none)
    (z_any : PySem.W.nsIn K mainGlobals "any" = some none)
    (z_sum : PySem.W.nsIn K mainGlobals "sum" = some none)
    (z_min : PySem.W.nsIn K mainGlobals "min" = some none)
    (z_max : PySem.W.nsIn K mainGlobals "max" = some none)
    (z_sorted : PySem.W.nsIn K mainGlobals "sorted" = some none)
    (z_repr : PySem.W.nsIn K mainGlobals "repr" = some none)
    (z_str : PySem.W.nsIn K mainGlobals "str" = some none)
    (z_set : PySem.W.nsIn K mainGlobals "set" = some none)
    (z_bool : PySem.W.nsIn K mainGlobals "bool" = some none)
    (z_super : PySem.W.nsIn K mainGlobals "super" = some none)
    (z_ValueError : PySem.W.nsIn K mainGlobals "ValueError" = some none)
    (z_OverflowError : PySem.W.nsIn K mainGlobals "OverflowError" = some none)
    (a_KINDS : PySem.W.nsIn K mainGlobals "KINDS" = some (some (.ref p_KINDS)))
    (l_KINDS : K.lookup p_KINDS = some ⟨.type "tuple", d_KINDS, .seq #[.int 2 t_KINDS0, .int 3 t_KINDS1, .int 4 t_KINDS2, .int 6 t_KINDS3, .int 0 t_KINDS4] n_KINDS, s_KINDS⟩)
    (a_MOST_LETTERS : PySem.W.nsIn K mainGlobals "MOST_LETTERS" = some (some (.int 6 t_MOST_LETTERS)))
    (a_WEIGHTS : PySem.W.nsIn K mainGlobals "WEIGHTS" = some (some (.ref p_WEIGHTS)))
    (l_WEIGHTS : K.lookup p_WEIGHTS = some ⟨.type "dict", none, .dict #[⟨2, .int 2 t_WEIGHTS0, .ref q_WEIGHTS0⟩, ⟨3, .int 3 t_WEIGHTS1, .ref q_WEIGHTS1⟩, ⟨4, .int 4 t_WEIGHTS2, .ref q_WEIGHTS2⟩, ⟨6, .int 6 t_WEIGHTS3, .ref q_WEIGHTS3⟩, ⟨0, .int 0 t_WEIGHTS4, .ref q_WEIGHTS4⟩] n_WEIGHTS, #[]⟩)
    (l_WEIGHTS0 : K.lookup q_WEIGHTS0 = some ⟨.type "tuple", d_WEIGHTS0, .seq #[.int 0 ta_WEIGHTS0, .int 0 tb_WEIGHTS0] n_WEIGHTS0, s_WEIGHTS0⟩)
    (l_WEIGHTS1 : K.lookup q_WEIGHTS1 = some ⟨.type "tuple", d_WEIGHTS1, .seq #[.int 1 ta_WEIGHTS1, .int 1 tb_WEIGHTS1] n_WEIGHTS1, s_WEIGHTS1⟩)
    (l_WEIGHTS2 : K.lookup q_WEIGHTS2 = some ⟨.type "tuple", d_WEIGHTS2, .seq #[.int 1 ta_WEIGHTS2, .int 2 tb_WEIGHTS2] n_WEIGHTS2, s_WEIGHTS2⟩)
    (l_WEIGHTS3 : K.lookup q_WEIGHTS3 = some ⟨.type "tuple", d_WEIGHTS3, .seq #[.int 1 ta_WEIGHTS3, .int 3 tb_WEIGHTS3] n_WEIGHTS3, s_WEIGHTS3⟩)
    (l_WEIGHTS4 : K.lookup q_WEIGHTS4 = some ⟨.type "tuple", d_WEIGHTS4, .seq #[.int 2 ta_WEIGHTS4, .int 2 tb_WEIGHTS4] n_WEIGHTS4, s_WEIGHTS4⟩)
    (a_MOST_WORD : PySem.W.nsIn K mainGlobals "MOST_WORD" = some (some (.int 60 t_MOST_WORD)))
    (a_BadBonds : PySem.W.nsIn K mainGlobals "BadBonds" = some (some (.ref C_BadBonds)))
    (a_BadWord : PySem.W.nsIn K mainGlobals "BadWord" = some (some (.ref C_BadWord)))
    (a_BadNumber : PySem.W.nsIn K mainGlobals "BadNumber" = some (some (.ref C_BadNumber)))
    (a_BadChoice : PySem.W.nsIn K mainGlobals "BadChoice" = some (some (.ref C_BadChoice)))
    (a_TooGreat : PySem.W.nsIn K mainGlobals "TooGreat" = some (some (.ref C_TooGreat)))
    (xb_BadBonds : xB K C_BadBonds false = true)
    (xi_BadBonds : PySem.W.findIn K (.ref C_BadBonds) "__init__" = some (some (.ref fI_BadBonds)))
    (xl_BadBonds : K.lookup fI_BadBonds = some ⟨oc_BadBonds, od_BadBonds, .func (PySem.W.ksFn "__init__" "BadBonds.__init__" (defArgs (inClass (topS 3) 0)) (defBody (inClass (topS 3) 0)) (defScope (inClass (topS 3) 0)) .none kV_BadBonds doc_BadBonds pm_BadBonds an_BadBonds (.ref cda_BadBonds) ct_BadBonds cc_BadBonds), osl_BadBonds⟩)
    (xc_BadBonds : PySem.W.codeIn K (.ref cda_BadBonds) "BadBonds.__init__" = true)
    (xd_BadBonds : K.lookup cda_BadBonds = some ⟨ccl_BadBonds, cdd_BadBonds, .fields vs_BadBonds, ccs_BadBonds⟩)
    (xv_BadBonds : vs_BadBonds[2]? = some (.str P.main.file tf_BadBonds))
    (xe_BadBonds : K.lookup cc_BadBonds = some ⟨cl_BadBonds, cld_BadBonds, .cell (some (.ref C_BadBonds)), csl_BadBonds⟩)
    (xf_BadBonds : PySem.W.isFn K (.ref fI_BadBonds) = true)
    (xs_BadBonds : xscB P (defArgs (inClass (topS 3) 0)) (defScope (inClass (topS 3) 0)) = true)
    (xg_BadBonds : PySem.W.findIn K (.ref C_BadBonds) "place" = some none)
    (xb_TooGreat : xB K C_TooGreat true = true)
    (xi_TooGreat : PySem.W.findIn K (.ref C_TooGreat) "__init__" = some (some (.ref fI_TooGreat)))
    (xl_TooGreat : K.lookup fI_TooGreat = some ⟨oc_TooGreat, od_TooGreat, .func (PySem.W.ksFn "__init__" "TooGreat.__init__" (defArgs (inClass (topS 7) 0)) (defBody (inClass (topS 7) 0)) (defScope (inClass (topS 7) 0)) .none kV_TooGreat doc_TooGreat pm_TooGreat an_TooGreat (.ref cda_TooGreat) ct_TooGreat cc_TooGreat), osl_TooGreat⟩)
    (xc_TooGreat : PySem.W.codeIn K (.ref cda_TooGreat) "TooGreat.__init__" = true)
    (xd_TooGreat : K.lookup cda_TooGreat = some ⟨ccl_TooGreat, cdd_TooGreat, .fields vs_TooGreat, ccs_TooGreat⟩)
    (xv_TooGreat : vs_TooGreat[2]? = some (.str P.main.file tf_TooGreat))
    (xe_TooGreat : K.lookup cc_TooGreat = some ⟨cl_TooGreat, cld_TooGreat, .cell (some (.ref C_TooGreat)), csl_TooGreat⟩)
    (xf_TooGreat : PySem.W.isFn K (.ref fI_TooGreat) = true)
    (xs_TooGreat : xscB P (defArgs (inClass (topS 7) 0)) (defScope (inClass (topS 7) 0)) = true)
    (xg_TooGreat : PySem.W.findIn K (.ref C_TooGreat) "most" = some none)
    (xb_BadNumber : xB K C_BadNumber false = true)
    (xi_BadNumber : PySem.W.findIn K (.ref C_BadNumber) "__init__" = some (some (.ref fI_BadNumber)))
    (xl_BadNumber : K.lookup fI_BadNumber = some ⟨oc_BadNumber, od_BadNumber, .func (PySem.W.ksFn "__init__" "BadNumber.__init__" (defArgs (inClass (topS 5) 0)) (defBody (inClass (topS 5) 0)) (defScope (inClass (topS 5) 0)) .none kV_BadNumber doc_BadNumber pm_BadNumber an_BadNumber (.ref cda_BadNumber) ct_BadNumber cc_BadNumber), osl_BadNumber⟩)
    (xc_BadNumber : PySem.W.codeIn K (.ref cda_BadNumber) "BadNumber.__init__" = true)
    (xd_BadNumber : K.lookup cda_BadNumber = some ⟨ccl_BadNumber, cdd_BadNumber, .fields vs_BadNumber, ccs_BadNumber⟩)
    (xv_BadNumber : vs_BadNumber[2]? = some (.str P.main.file tf_BadNumber))
    (xe_BadNumber : K.lookup cc_BadNumber = some ⟨cl_BadNumber, cld_BadNumber, .cell (some (.ref C_BadNumber)), csl_BadNumber⟩)
    (xf_BadNumber : PySem.W.isFn K (.ref fI_BadNumber) = true)
    (xs_BadNumber : xscB P (defArgs (inClass (topS 5) 0)) (defScope (inClass (topS 5) 0)) = true)
    (xg_BadNumber : PySem.W.findIn K (.ref C_BadNumber) "value" = some none)
    (xb_BadWord : xB K C_BadWord false = true)
    (xi_BadWord : PySem.W.findIn K (.ref C_BadWord) "__init__" = some (some (.ref fI_BadWord)))
    (xl_BadWord : K.lookup fI_BadWord = some ⟨oc_BadWord, od_BadWord, .func (PySem.W.ksFn "__init__" "BadWord.__init__" (defArgs (inClass (topS 4) 0)) (defBody (inClass (topS 4) 0)) (defScope (inClass (topS 4) 0)) .none kV_BadWord doc_BadWord pm_BadWord an_BadWord (.ref cda_BadWord) ct_BadWord cc_BadWord), osl_BadWord⟩)
    (xc_BadWord : PySem.W.codeIn K (.ref cda_BadWord) "BadWord.__init__" = true)
    (xd_BadWord : K.lookup cda_BadWord = some ⟨ccl_BadWord, cdd_BadWord, .fields vs_BadWord, ccs_BadWord⟩)
    (xv_BadWord : vs_BadWord[2]? = some (.str P.main.file tf_BadWord))
    (xe_BadWord : K.lookup cc_BadWord = some ⟨cl_BadWord, cld_BadWord, .cell (some (.ref C_BadWord)), csl_BadWord⟩)
    (xf_BadWord : PySem.W.isFn K (.ref fI_BadWord) = true)
    (xs_BadWord : xscB P (defArgs (inClass (topS 4) 0)) (defScope (inClass (topS 4) 0)) = true)
    (xg_BadWord : PySem.W.findIn K (.ref C_BadWord) "place" = some none)
    (xb_BadChoice : xB K C_BadChoice false = true)
    (xi_BadChoice : PySem.W.findIn K (.ref C_BadChoice) "__init__" = some (some (.ref fI_BadChoice)))
    (xl_BadChoice : K.lookup fI_BadChoice = some ⟨oc_BadChoice, od_BadChoice, .func (PySem.W.ksFn "__init__" "BadChoice.__init__" (defArgs (inClass (topS 6) 0)) (defBody (inClass (topS 6) 0)) (defScope (inClass (topS 6) 0)) .none kV_BadChoice doc_BadChoice pm_BadChoice an_BadChoice (.ref cda_BadChoice) ct_BadChoice cc_BadChoice), osl_BadChoice⟩)
    (xc_BadChoice : PySem.W.codeIn K (.ref cda_BadChoice) "BadChoice.__init__" = true)
    (xd_BadChoice : K.lookup cda_BadChoice = some ⟨ccl_BadChoice, cdd_BadChoice, .fields vs_BadChoice, ccs_BadChoice⟩)
    (xv_BadChoice : vs_BadChoice[2]? = some (.str P.main.file tf_BadChoice))
    (xe_BadChoice : K.lookup cc_BadChoice = some ⟨cl_BadChoice, cld_BadChoice, .cell (some (.ref C_BadChoice)), csl_BadChoice⟩)
    (xf_BadChoice : PySem.W.isFn K (.ref fI_BadChoice) = true)
    (xs_BadChoice : xscB P (defArgs (inClass (topS 6) 0)) (defScope (inClass (topS 6) 0)) = true)
    (xg_BadChoice : PySem.W.findIn K (.ref C_BadChoice) "value" = some none)
    (aC : PySem.W.nsIn K mainGlobals "Bonds" = some (some (.ref C)))
    (pg : PySem.W.plainGet K C Str.empty = true)
    (ic : PySem.W.isClsIn K C = true)
    (po : PySem.W.plainOver K C = true)
    (sa : PySem.W.findIn K (.ref C) "__setattr__" = some (some (.builtin "object.__setattr__")))
    (ats : PySem.W.findIn K (.ref C) "table" = some (some (.ref p)))
    (gts : PySem.W.specialIn K (.ref p) "__get__" = some (some (.builtin "member_descriptor.__get__")))
    (tks : PySem.W.takesIn K (.ref p) = some true)
    (tys : PySem.W.typeIn K (.ref p) = some (.type "member_descriptor"))
    (ixs : PySem.W.slotIn K p C = some 0)
    (mkC : PySem.W.makesIn K C = true)
    (kpC : PySem.W.keepIn K (.ref C) = true)
    (a_is_whole : PySem.W.nsIn K mainGlobals "is_whole" = some (some (.ref f_is_whole)))
    (l_is_whole : K.lookup f_is_whole = some ⟨oc_is_whole, od_is_whole, .func (PySem.W.fnOf "is_whole" "is_whole" (defArgs (topS 13)) (defBody (topS 13)) (defScope (topS 13)) .none kV_is_whole dc_is_whole pm_is_whole an_is_whole cd_is_whole ct_is_whole), sl_is_whole⟩)
    (c_is_whole : PySem.W.codeIn K cd_is_whole "is_whole" = true)
    (k_is_whole : PySem.W.keepIn K (.ref f_is_whole) = true)
    (a_is_among : PySem.W.nsIn K mainGlobals "is_among" = some (some (.ref f_is_among)))
    (l_is_among : K.lookup f_is_among = some ⟨oc_is_among, od_is_among, .func (PySem.W.fnOf "is_among" "is_among" (defArgs (topS 14)) (defBody (topS 14)) (defScope (topS 14)) .none kV_is_among dc_is_among pm_is_among an_is_among cd_is_among ct_is_among), sl_is_among⟩)
    (c_is_among : PySem.W.codeIn K cd_is_among "is_among" = true)
    (k_is_among : PySem.W.keepIn K (.ref f_is_among) = true)
    (a_is_list : PySem.W.nsIn K mainGlobals "is_list" = some (some (.ref f_is_list)))
    (l_is_list : K.lookup f_is_list = some ⟨oc_is_list, od_is_list, .func (PySem.W.fnOf "is_list" "is_list" (defArgs (topS 15)) (defBody (topS 15)) (defScope (topS 15)) .none kV_is_list dc_is_list pm_is_list an_is_list cd_is_list ct_is_list), sl_is_list⟩)
    (c_is_list : PySem.W.codeIn K cd_is_list "is_list" = true)
    (k_is_list : PySem.W.keepIn K (.ref f_is_list) = true)
    (a_is_bond : PySem.W.nsIn K mainGlobals "is_bond" = some (some (.ref f_is_bond)))
    (l_is_bond : K.lookup f_is_bond = some ⟨oc_is_bond, od_is_bond, .func (PySem.W.fnOf "is_bond" "is_bond" (defArgs (topS 16)) (defBody (topS 16)) (defScope (topS 16)) .none kV_is_bond dc_is_bond pm_is_bond an_is_bond cd_is_bond ct_is_bond), sl_is_bond⟩)
    (c_is_bond : PySem.W.codeIn K cd_is_bond "is_bond" = true)
    (k_is_bond : PySem.W.keepIn K (.ref f_is_bond) = true)
    (a_need_rows : PySem.W.nsIn K mainGlobals "need_rows" = some (some (.ref f_need_rows)))
    (l_need_rows : K.lookup f_need_rows = some ⟨oc_need_rows, od_need_rows, .func (PySem.W.fnOf "need_rows" "need_rows" (defArgs (topS 17)) (defBody (topS 17)) (defScope (topS 17)) .none kV_need_rows dc_need_rows pm_need_rows an_need_rows cd_need_rows ct_need_rows), sl_need_rows⟩)
    (c_need_rows : PySem.W.codeIn K cd_need_rows "need_rows" = true)
    (k_need_rows : PySem.W.keepIn K (.ref f_need_rows) = true)
    (a_Bonds___init__ : PySem.W.findIn K (.ref C) "__init__" = some (some (.ref f_Bonds___init__)))
    (i_Bonds___init__ : PySem.W.isFn K (.ref f_Bonds___init__) = true)
    (l_Bonds___init__ : K.lookup f_Bonds___init__ = some ⟨oc_Bonds___init__, od_Bonds___init__, .func (PySem.W.fnOf "__init__" "Bonds.__init__" (defArgs (inClass (topS 18) 1)) (defBody (inClass (topS 18) 1)) (defScope (inClass (topS 18) 1)) .none kV_Bonds___init__ dc_Bonds___init__ pm_Bonds___init__ an_Bonds___init__ cd_Bonds___init__ ct_Bonds___init__), sl_Bonds___init__⟩)
    (c_Bonds___init__ : PySem.W.codeIn K cd_Bonds___init__ "Bonds.__init__" = true)
    (k_Bonds___init__ : PySem.W.keepIn K (.ref f_Bonds___init__) = true)
    (a_Bonds___len__ : PySem.W.findIn K (.ref C) "__len__" = some (some (.ref f_Bonds___len__)))
    (i_Bonds___len__ : PySem.W.isFn K (.ref f_Bonds___len__) = true)
    (l_Bonds___len__ : K.lookup f_Bonds___len__ = some ⟨oc_Bonds___len__, od_Bonds___len__, .func (PySem.W.fnOf "__len__" "Bonds.__len__" (defArgs (inClass (topS 18) 2)) (defBody (inClass (topS 18) 2)) (defScope (inClass (topS 18) 2)) .none kV_Bonds___len__ dc_Bonds___len__ pm_Bonds___len__ an_Bonds___len__ cd_Bonds___len__ ct_Bonds___len__), sl_Bonds___len__⟩)
    (c_Bonds___len__ : PySem.W.codeIn K cd_Bonds___len__ "Bonds.__len__" = true)
    (k_Bonds___len__ : PySem.W.keepIn K (.ref f_Bonds___len__) = true)
    (a_Bonds_need_letter : PySem.W.findIn K (.ref C) "need_letter" = some (some (.ref f_Bonds_need_letter)))
    (i_Bonds_need_letter : PySem.W.isFn K (.ref f_Bonds_need_letter) = true)
    (l_Bonds_need_letter : K.lookup f_Bonds_need_letter = some ⟨oc_Bonds_need_letter, od_Bonds_need_letter, .func (PySem.W.fnOf "need_letter" "Bonds.need_letter" (defArgs (inClass (topS 18) 4)) (defBody (inClass (topS 18) 4)) (defScope (inClass (topS 18) 4)) .none kV_Bonds_need_letter dc_Bonds_need_letter pm_Bonds_need_letter an_Bonds_need_letter cd_Bonds_need_letter ct_Bonds_need_letter), sl_Bonds_need_letter⟩)
    (c_Bonds_need_letter : PySem.W.codeIn K cd_Bonds_need_letter "Bonds.need_letter" = true)
    (k_Bonds_need_letter : PySem.W.keepIn K (.ref f_Bonds_need_letter) = true)
    (a_Bonds_weight : PySem.W.findIn K (.ref C) "weight" = some (some (.ref f_Bonds_weight)))
    (i_Bonds_weight : PySem.W.isFn K (.ref f_Bonds_weight) = true)
    (l_Bonds_weight : K.lookup f_Bonds_weight = some ⟨oc_Bonds_weight, od_Bonds_weight, .func (PySem.W.fnOf "weight" "Bonds.weight" (defArgs (inClass (topS 18) 6)) (defBody (inClass (topS 18) 6)) (defScope (inClass (topS 18) 6)) .none kV_Bonds_weight dc_Bonds_weight pm_Bonds_weight an_Bonds_weight cd_Bonds_weight ct_Bonds_weight), sl_Bonds_weight⟩)
    (c_Bonds_weight : PySem.W.codeIn K cd_Bonds_weight "Bonds.weight" = true)
    (k_Bonds_weight : PySem.W.keepIn K (.ref f_Bonds_weight) = true)
    (a_need_word : PySem.W.nsIn K mainGlobals "need_word" = some (some (.ref f_need_word)))
    (l_need_word : K.lookup f_need_word = some ⟨oc_need_word, od_need_word, .func (PySem.W.fnOf "need_word" "need_word" (defArgs (topS 19)) (defBody (topS 19)) (defScope (topS 19)) .none kV_need_word dc_need_word pm_need_word an_need_word cd_need_word ct_need_word), sl_need_word⟩)
    (c_need_word : PySem.W.codeIn K cd_need_word "need_word" = true)
    (k_need_word : PySem.W.keepIn K (.ref f_need_word) = true)
    (a_start : PySem.W.nsIn K mainGlobals "start" = some (some (.ref f_start)))
    (l_start : K.lookup f_start = some ⟨oc_start, od_start, .func (PySem.W.fnOf "start" "start" (defArgs (topS 21)) (defBody (topS 21)) (defScope (topS 21)) .none kV_start dc_start pm_start an_start cd_start ct_start), sl_start⟩)
    (c_start : PySem.W.codeIn K cd_start "start" = true)
    (k_start : PySem.W.keepIn K (.ref f_start) = true)
    (a_pressed : PySem.W.nsIn K mainGlobals "pressed" = some (some (.ref f_pressed)))
    (l_pressed : K.lookup f_pressed = some ⟨oc_pressed, od_pressed, .func (PySem.W.fnOf "pressed" "pressed" (defArgs (topS 22)) (defBody (topS 22)) (defScope (topS 22)) .none kV_pressed dc_pressed pm_pressed an_pressed cd_pressed ct_pressed), sl_pressed⟩)
    (c_pressed : PySem.W.codeIn K cd_pressed "pressed" = true)
    (k_pressed : PySem.W.keepIn K (.ref f_pressed) = true)
    (a_row_by : PySem.W.nsIn K mainGlobals "row_by" = some (some (.ref f_row_by)))
    (l_row_by : K.lookup f_row_by = some ⟨oc_row_by, od_row_by, .func (PySem.W.fnOf "row_by" "row_by" (defArgs (topS 23)) (defBody (topS 23)) (defScope (topS 23)) .none kV_row_by dc_row_by pm_row_by an_row_by cd_row_by ct_row_by), sl_row_by⟩)
    (c_row_by : PySem.W.codeIn K cd_row_by "row_by" = true)
    (k_row_by : PySem.W.keepIn K (.ref f_row_by) = true)
    (a_below : PySem.W.nsIn K mainGlobals "below" = some (some (.ref f_below)))
    (l_below : K.lookup f_below = some ⟨oc_below, od_below, .func (PySem.W.fnOf "below" "below" (defArgs (topS 24)) (defBody (topS 24)) (defScope (topS 24)) .none kV_below dc_below pm_below an_below cd_below ct_below), sl_below⟩)
    (c_below : PySem.W.codeIn K cd_below "below" = true)
    (k_below : PySem.W.keepIn K (.ref f_below) = true)
    (a_undone : PySem.W.nsIn K mainGlobals "undone" = some (some (.ref f_undone)))
    (l_undone : K.lookup f_undone = some ⟨oc_undone, od_undone, .func (PySem.W.fnOf "undone" "undone" (defArgs (topS 25)) (defBody (topS 25)) (defScope (topS 25)) .none kV_undone dc_undone pm_undone an_undone cd_undone ct_undone), sl_undone⟩)
    (c_undone : PySem.W.codeIn K cd_undone "undone" = true)
    (k_undone : PySem.W.keepIn K (.ref f_undone) = true)
    (a_shortest_by : PySem.W.nsIn K mainGlobals "shortest_by" = some (some (.ref f_shortest_by)))
    (l_shortest_by : K.lookup f_shortest_by = some ⟨oc_shortest_by, od_shortest_by, .func (PySem.W.fnOf "shortest_by" "shortest_by" (defArgs (topS 26)) (defBody (topS 26)) (defScope (topS 26)) .none kV_shortest_by dc_shortest_by pm_shortest_by an_shortest_by cd_shortest_by ct_shortest_by), sl_shortest_by⟩)
    (c_shortest_by : PySem.W.codeIn K cd_shortest_by "shortest_by" = true)
    (k_shortest_by : PySem.W.keepIn K (.ref f_shortest_by) = true)
    (a_word_by : PySem.W.nsIn K mainGlobals "word_by" = some (some (.ref f_word_by)))
    (l_word_by : K.lookup f_word_by = some ⟨oc_word_by, od_word_by, .func (PySem.W.fnOf "word_by" "word_by" (defArgs (topS 28)) (defBody (topS 28)) (defScope (topS 28)) .none kV_word_by dc_word_by pm_word_by an_word_by cd_word_by ct_word_by), sl_word_by⟩)
    (c_word_by : PySem.W.codeIn K cd_word_by "word_by" = true)
    (k_word_by : PySem.W.keepIn K (.ref f_word_by) = true)
    (a_is_choice : PySem.W.nsIn K mainGlobals "is_choice" = some (some (.ref f_is_choice)))
    (l_is_choice : K.lookup f_is_choice = some ⟨oc_is_choice, od_is_choice, .func (PySem.W.fnOf "is_choice" "is_choice" (defArgs (topS 30)) (defBody (topS 30)) (defScope (topS 30)) .none kV_is_choice dc_is_choice pm_is_choice an_is_choice cd_is_choice ct_is_choice), sl_is_choice⟩)
    (c_is_choice : PySem.W.codeIn K cd_is_choice "is_choice" = true)
    (k_is_choice : PySem.W.keepIn K (.ref f_is_choice) = true)
    (a_need_choice : PySem.W.nsIn K mainGlobals "need_choice" = some (some (.ref f_need_choice)))
    (l_need_choice : K.lookup f_need_choice = some ⟨oc_need_choice, od_need_choice, .func (PySem.W.fnOf "need_choice" "need_choice" (defArgs (topS 31)) (defBody (topS 31)) (defScope (topS 31)) .none kV_need_choice dc_need_choice pm_need_choice an_need_choice cd_need_choice ct_need_choice), sl_need_choice⟩)
    (c_need_choice : PySem.W.codeIn K cd_need_choice "need_choice" = true)
    (k_need_choice : PySem.W.keepIn K (.ref f_need_choice) = true)
    (a_ends_in : PySem.W.nsIn K mainGlobals "ends_in" = some (some (.ref f_ends_in)))
    (l_ends_in : K.lookup f_ends_in = some ⟨oc_ends_in, od_ends_in, .func (PySem.W.fnOf "ends_in" "ends_in" (defArgs (topS 32)) (defBody (topS 32)) (defScope (topS 32)) .none kV_ends_in dc_ends_in pm_ends_in an_ends_in cd_ends_in ct_ends_in), sl_ends_in⟩)
    (c_ends_in : PySem.W.codeIn K cd_ends_in "ends_in" = true)
    (k_ends_in : PySem.W.keepIn K (.ref f_ends_in) = true)
    (a_is_ahead : PySem.W.nsIn K mainGlobals "is_ahead" = some (some (.ref f_is_ahead)))
    (l_is_ahead : K.lookup f_is_ahead = some ⟨oc_is_ahead, od_is_ahead, .func (PySem.W.fnOf "is_ahead" "is_ahead" (defArgs (topS 33)) (defBody (topS 33)) (defScope (topS 33)) .none kV_is_ahead dc_is_ahead pm_is_ahead an_is_ahead cd_is_ahead ct_is_ahead), sl_is_ahead⟩)
    (c_is_ahead : PySem.W.codeIn K cd_is_ahead "is_ahead" = true)
    (k_is_ahead : PySem.W.keepIn K (.ref f_is_ahead) = true)
    (a_is_behind : PySem.W.nsIn K mainGlobals "is_behind" = some (some (.ref f_is_behind)))
    (l_is_behind : K.lookup f_is_behind = some ⟨oc_is_behind, od_is_behind, .func (PySem.W.fnOf "is_behind" "is_behind" (defArgs (topS 34)) (defBody (topS 34)) (defScope (topS 34)) .none kV_is_behind dc_is_behind pm_is_behind an_is_behind cd_is_behind ct_is_behind), sl_is_behind⟩)
    (c_is_behind : PySem.W.codeIn K cd_is_behind "is_behind" = true)
    (k_is_behind : PySem.W.keepIn K (.ref f_is_behind) = true)
    (a_parted_by : PySem.W.nsIn K mainGlobals "parted_by" = some (some (.ref f_parted_by)))
    (l_parted_by : K.lookup f_parted_by = some ⟨oc_parted_by, od_parted_by, .func (PySem.W.fnOf "parted_by" "parted_by" (defArgs (topS 35)) (defBody (topS 35)) (defScope (topS 35)) .none kV_parted_by dc_parted_by pm_parted_by an_parted_by cd_parted_by ct_parted_by), sl_parted_by⟩)
    (c_parted_by : PySem.W.codeIn K cd_parted_by "parted_by" = true)
    (k_parted_by : PySem.W.keepIn K (.ref f_parted_by) = true)
    (a_least_between : PySem.W.nsIn K mainGlobals "least_between" = some (some (.ref f_least_between)))
    (l_least_between : K.lookup f_least_between = some ⟨oc_least_between, od_least_between, .func (PySem.W.fnOf "least_between" "least_between" (defArgs (topS 36)) (defBody (topS 36)) (defScope (topS 36)) .none kV_least_between dc_least_between pm_least_between an_least_between cd_least_between ct_least_between), sl_least_between⟩)
    (c_least_between : PySem.W.codeIn K cd_least_between "least_between" = true)
    (k_least_between : PySem.W.keepIn K (.ref f_least_between) = true)
    (a__law_mixed : PySem.W.nsIn K mainGlobals "_law_mixed" = some (some (.ref f__law_mixed)))
    (l__law_mixed : K.lookup f__law_mixed = some ⟨oc__law_mixed, od__law_mixed, .func (PySem.W.fnOf "_law_mixed" "_law_mixed" (defArgs (topS 38)) (defBody (topS 38)) (defScope (topS 38)) .none kV__law_mixed dc__law_mixed pm__law_mixed an__law_mixed cd__law_mixed ct__law_mixed), sl__law_mixed⟩)
    (c__law_mixed : PySem.W.codeIn K cd__law_mixed "_law_mixed" = true)
    (k__law_mixed : PySem.W.keepIn K (.ref f__law_mixed) = true)
    (a__law_folded : PySem.W.nsIn K mainGlobals "_law_folded" = some (some (.ref f__law_folded)))
    (l__law_folded : K.lookup f__law_folded = some ⟨oc__law_folded, od__law_folded, .func (PySem.W.fnOf "_law_folded" "_law_folded" (defArgs (topS 39)) (defBody (topS 39)) (defScope (topS 39)) .none kV__law_folded dc__law_folded pm__law_folded an__law_folded cd__law_folded ct__law_folded), sl__law_folded⟩)
    (c__law_folded : PySem.W.codeIn K cd__law_folded "_law_folded" = true)
    (k__law_folded : PySem.W.keepIn K (.ref f__law_folded) = true)
    (a__law_draw : PySem.W.nsIn K mainGlobals "_law_draw" = some (some (.ref f__law_draw)))
    (l__law_draw : K.lookup f__law_draw = some ⟨oc__law_draw, od__law_draw, .func (PySem.W.fnOf "_law_draw" "_law_draw" (defArgs (topS 40)) (defBody (topS 40)) (defScope (topS 40)) .none kV__law_draw dc__law_draw pm__law_draw an__law_draw cd__law_draw ct__law_draw), sl__law_draw⟩)
    (c__law_draw : PySem.W.codeIn K cd__law_draw "_law_draw" = true)
    (k__law_draw : PySem.W.keepIn K (.ref f__law_draw) = true)
    (a__law_begun : PySem.W.nsIn K mainGlobals "_law_begun" = some (some (.ref f__law_begun)))
    (l__law_begun : K.lookup f__law_begun = some ⟨oc__law_begun, od__law_begun, .func (PySem.W.fnOf "_law_begun" "_law_begun" (defArgs (topS 41)) (defBody (topS 41)) (defScope (topS 41)) .none kV__law_begun dc__law_begun pm__law_begun an__law_begun cd__law_begun ct__law_begun), sl__law_begun⟩)
    (c__law_begun : PySem.W.codeIn K cd__law_begun "_law_begun" = true)
    (k__law_begun : PySem.W.keepIn K (.ref f__law_begun) = true)
    (a__law_table : PySem.W.nsIn K mainGlobals "_law_table" = some (some (.ref f__law_table)))
    (l__law_table : K.lookup f__law_table = some ⟨oc__law_table, od__law_table, .func (PySem.W.fnOf "_law_table" "_law_table" (defArgs (topS 42)) (defBody (topS 42)) (defScope (topS 42)) .none kV__law_table dc__law_table pm__law_table an__law_table cd__law_table ct__law_table), sl__law_table⟩)
    (c__law_table : PySem.W.codeIn K cd__law_table "_law_table" = true)
    (k__law_table : PySem.W.keepIn K (.ref f__law_table) = true)
    (a__law_shuffled : PySem.W.nsIn K mainGlobals "_law_shuffled" = some (some (.ref f__law_shuffled)))
    (l__law_shuffled : K.lookup f__law_shuffled = some ⟨oc__law_shuffled, od__law_shuffled, .func (PySem.W.fnOf "_law_shuffled" "_law_shuffled" (defArgs (topS 44)) (defBody (topS 44)) (defScope (topS 44)) .none kV__law_shuffled dc__law_shuffled pm__law_shuffled an__law_shuffled cd__law_shuffled ct__law_shuffled), sl__law_shuffled⟩)
    (c__law_shuffled : PySem.W.codeIn K cd__law_shuffled "_law_shuffled" = true)
    (k__law_shuffled : PySem.W.keepIn K (.ref f__law_shuffled) = true)
    (a__law_finite : PySem.W.nsIn K mainGlobals "_law_finite" = some (some (.ref f__law_finite)))
    (l__law_finite : K.lookup f__law_finite = some ⟨oc__law_finite, od__law_finite, .func (PySem.W.fnOf "_law_finite" "_law_finite" (defArgs (topS 43)) (defBody (topS 43)) (defScope (topS 43)) .none kV__law_finite dc__law_finite pm__law_finite an__law_finite cd__law_finite ct__law_finite), sl__law_finite⟩)
    (c__law_finite : PySem.W.codeIn K cd__law_finite "_law_finite" = true)
    (k__law_finite : PySem.W.keepIn K (.ref f__law_finite) = true)
    (a__law_weight : PySem.W.nsIn K mainGlobals "_law_weight" = some (some (.ref f__law_weight)))
    (l__law_weight : K.lookup f__law_weight = some ⟨oc__law_weight, od__law_weight, .func (PySem.W.fnOf "_law_weight" "_law_weight" (defArgs (topS 45)) (defBody (topS 45)) (defScope (topS 45)) .none kV__law_weight dc__law_weight pm__law_weight an__law_weight cd__law_weight ct__law_weight), sl__law_weight⟩)
    (c__law_weight : PySem.W.codeIn K cd__law_weight "_law_weight" = true)
    (k__law_weight : PySem.W.keepIn K (.ref f__law_weight) = true)
    (a__law_pressed : PySem.W.nsIn K mainGlobals "_law_pressed" = some (some (.ref f__law_pressed)))
    (l__law_pressed : K.lookup f__law_pressed = some ⟨oc__law_pressed, od__law_pressed, .func (PySem.W.fnOf "_law_pressed" "_law_pressed" (defArgs (topS 46)) (defBody (topS 46)) (defScope (topS 46)) .none kV__law_pressed dc__law_pressed pm__law_pressed an__law_pressed cd__law_pressed ct__law_pressed), sl__law_pressed⟩)
    (c__law_pressed : PySem.W.codeIn K cd__law_pressed "_law_pressed" = true)
    (k__law_pressed : PySem.W.keepIn K (.ref f__law_pressed) = true)
    (a__law_row : PySem.W.nsIn K mainGlobals "_law_row" = some (some (.ref f__law_row)))
    (l__law_row : K.lookup f__law_row = some ⟨oc__law_row, od__law_row, .func (PySem.W.fnOf "_law_row" "_law_row" (defArgs (topS 47)) (defBody (topS 47)) (defScope (topS 47)) .none kV__law_row dc__law_row pm__law_row an__law_row cd__law_row ct__law_row), sl__law_row⟩)
    (c__law_row : PySem.W.codeIn K cd__law_row "_law_row" = true)
    (k__law_row : PySem.W.keepIn K (.ref f__law_row) = true)
    (a__law_back : PySem.W.nsIn K mainGlobals "_law_back" = some (some (.ref f__law_back)))
    (l__law_back : K.lookup f__law_back = some ⟨oc__law_back, od__law_back, .func (PySem.W.fnOf "_law_back" "_law_back" (defArgs (topS 48)) (defBody (topS 48)) (defScope (topS 48)) .none kV__law_back dc__law_back pm__law_back an__law_back cd__law_back ct__law_back), sl__law_back⟩)
    (c__law_back : PySem.W.codeIn K cd__law_back "_law_back" = true)
    (k__law_back : PySem.W.keepIn K (.ref f__law_back) = true)
    (a__law_least : PySem.W.nsIn K mainGlobals "_law_least" = some (some (.ref f__law_least)))
    (l__law_least : K.lookup f__law_least = some ⟨oc__law_least, od__law_least, .func (PySem.W.fnOf "_law_least" "_law_least" (defArgs (topS 49)) (defBody (topS 49)) (defScope (topS 49)) .none kV__law_least dc__law_least pm__law_least an__law_least cd__law_least ct__law_least), sl__law_least⟩)
    (c__law_least : PySem.W.codeIn K cd__law_least "_law_least" = true)
    (k__law_least : PySem.W.keepIn K (.ref f__law_least) = true)
    (a__law_word : PySem.W.nsIn K mainGlobals "_law_word" = some (some (.ref f__law_word)))
    (l__law_word : K.lookup f__law_word = some ⟨oc__law_word, od__law_word, .func (PySem.W.fnOf "_law_word" "_law_word" (defArgs (topS 50)) (defBody (topS 50)) (defScope (topS 50)) .none kV__law_word dc__law_word pm__law_word an__law_word cd__law_word ct__law_word), sl__law_word⟩)
    (c__law_word : PySem.W.codeIn K cd__law_word "_law_word" = true)
    (k__law_word : PySem.W.keepIn K (.ref f__law_word) = true)
    (a__law_choice : PySem.W.nsIn K mainGlobals "_law_choice" = some (some (.ref f__law_choice)))
    (l__law_choice : K.lookup f__law_choice = some ⟨oc__law_choice, od__law_choice, .func (PySem.W.fnOf "_law_choice" "_law_choice" (defArgs (topS 51)) (defBody (topS 51)) (defScope (topS 51)) .none kV__law_choice dc__law_choice pm__law_choice an__law_choice cd__law_choice ct__law_choice), sl__law_choice⟩)
    (c__law_choice : PySem.W.codeIn K cd__law_choice "_law_choice" = true)
    (k__law_choice : PySem.W.keepIn K (.ref f__law_choice) = true)
    (a__law_within : PySem.W.nsIn K mainGlobals "_law_within" = some (some (.ref f__law_within)))
    (l__law_within : K.lookup f__law_within = some ⟨oc__law_within, od__law_within, .func (PySem.W.fnOf "_law_within" "_law_within" (defArgs (topS 52)) (defBody (topS 52)) (defScope (topS 52)) .none kV__law_within dc__law_within pm__law_within an__law_within cd__law_within ct__law_within), sl__law_within⟩)
    (c__law_within : PySem.W.codeIn K cd__law_within "_law_within" = true)
    (k__law_within : PySem.W.keepIn K (.ref f__law_within) = true)
    (a__law_between : PySem.W.nsIn K mainGlobals "_law_between" = some (some (.ref f__law_between)))
    (l__law_between : K.lookup f__law_between = some ⟨oc__law_between, od__law_between, .func (PySem.W.fnOf "_law_between" "_law_between" (defArgs (topS 53)) (defBody (topS 53)) (defScope (topS 53)) .none kV__law_between dc__law_between pm__law_between an__law_between cd__law_between ct__law_between), sl__law_between⟩)
    (c__law_between : PySem.W.codeIn K cd__law_between "_law_between" = true)
    (k__law_between : PySem.W.keepIn K (.ref f__law_between) = true)
    (a__law_front : PySem.W.nsIn K mainGlobals "_law_front" = some (some (.ref f__law_front)))
    (l__law_front : K.lookup f__law_front = some ⟨oc__law_front, od__law_front, .func (PySem.W.fnOf "_law_front" "_law_front" (defArgs (topS 54)) (defBody (topS 54)) (defScope (topS 54)) .none kV__law_front dc__law_front pm__law_front an__law_front cd__law_front ct__law_front), sl__law_front⟩)
    (c__law_front : PySem.W.codeIn K cd__law_front "_law_front" = true)
    (k__law_front : PySem.W.keepIn K (.ref f__law_front) = true)
    (a__law_endless_right : PySem.W.nsIn K mainGlobals "_law_endless_right" = some (some (.ref f__law_endless_right)))
    (l__law_endless_right : K.lookup f__law_endless_right = some ⟨oc__law_endless_right, od__law_endless_right, .func (PySem.W.fnOf "_law_endless_right" "_law_endless_right" (defArgs (topS 55)) (defBody (topS 55)) (defScope (topS 55)) .none kV__law_endless_right dc__law_endless_right pm__law_endless_right an__law_endless_right cd__law_endless_right ct__law_endless_right), sl__law_endless_right⟩)
    (c__law_endless_right : PySem.W.codeIn K cd__law_endless_right "_law_endless_right" = true)
    (k__law_endless_right : PySem.W.keepIn K (.ref f__law_endless_right) = true)
    (a_law : PySem.W.nsIn K mainGlobals "law" = some (some (.ref f_law)))
    (l_law : K.lookup f_law = some ⟨oc_law, od_law, .func (PySem.W.fnOf "law" "law" (defArgs (topS 56)) (defBody (topS 56)) (defScope (topS 56)) .none kV_law dc_law pm_law an_law cd_law ct_law), sl_law⟩)
    (c_law : PySem.W.codeIn K cd_law "law" = true)
    (k_law : PySem.W.keepIn K (.ref f_law) = true)
    : ∃ (fd : FuncData) (cs : List (Addr × Addr × Str)), (∀ p ∈ cs, K.lookup p.2.1 = none ∧ ∃ y, ((recsOf q).find? (fun e => e.name == y)).isSome = true ∧ PySem.W.tabIn K y = some (p.1, p.2.1)) ∧ (∀ (s : Shared) (v : Value), BindsTo s fd ⟨[v], []⟩ [("script", v)]) ∧
      ∀ base : Heap, K.In base → base.Ns mainGlobals mg → (∀ p ∈ cs, LamX.TabB base mg p.1 p.2.1) → FnG P w K mg base 12 fa fd ["script"] (@spF ⟨cs.map (·.2)⟩ K mg 1 d_law) := by
  have e := hfa.symm.trans (PySem.W.mg_of X G a_law)
  cases e
  have B : Bi mg := ⟨PySem.W.mg_none_of X G z_len, PySem.W.mg_none_of X G z_tuple, PySem.W.mg_none_of X G z_list, PySem.W.mg_none_of X G z_int, PySem.W.mg_none_of X G z_range, PySem.W.mg_none_of X G z_enumerate, PySem.W.mg_none_of X G z_zip, PySem.W.mg_none_of X G z_isinstance, PySem.W.mg_none_of X G z_all, PySem.W.mg_none_of X G z_any, PySem.W.mg_none_of X G z_sum, PySem.W.mg_none_of X G z_min, PySem.W.mg_none_of X G z_max, PySem.W.mg_none_of X G z_sorted, PySem.W.mg_none_of X G z_repr, PySem.W.mg_none_of X G z_str, PySem.W.mg_none_of X G z_set, PySem.W.mg_none_of X G z_bool, PySem.W.mg_none_of X G z_super, PySem.W.mg_none_of X G z_ValueError, PySem.W.mg_none_of X G z_OverflowError⟩
  have g_KINDS : TupG K mg "KINDS" [.int 2, .int 3, .int 4, .int 6, .int 0] := ⟨_, PySem.W.mg_of X G a_KINDS, fun H => .inr ⟨_, _, _, l_KINDS, rfl, rfl, (show (5 : Nat) ≤ sizeLine from by decide), (.cons ⟨_, rfl⟩ (.cons ⟨_, rfl⟩ (.cons ⟨_, rfl⟩ (.cons ⟨_, rfl⟩ (.cons ⟨_, rfl⟩ .nil)))))⟩⟩
  have g_MOST_LETTERS : GI mg "MOST_LETTERS" 6 := ⟨_, PySem.W.mg_of X G a_MOST_LETTERS⟩
  have g_WEIGHTS : DctG K mg "WEIGHTS" [(2, [0, 0]), (3, [1, 1]), (4, [1, 2]), (6, [1, 3]), (0, [2, 2])] := dctg5 (PySem.W.mg_of X G a_WEIGHTS) l_WEIGHTS l_WEIGHTS0 l_WEIGHTS1 l_WEIGHTS2 l_WEIGHTS3 l_WEIGHTS4 rfl rfl rfl rfl rfl
  have g_MOST_WORD : GI mg "MOST_WORD" 60 := ⟨_, PySem.W.mg_of X G a_MOST_WORD⟩
  have m_BadBonds : mg "BadBonds" = some (.ref C_BadBonds) := PySem.W.mg_of X G a_BadBonds
  have m_BadWord : mg "BadWord" = some (.ref C_BadWord) := PySem.W.mg_of X G a_BadWord
  have m_BadNumber : mg "BadNumber" = some (.ref C_BadNumber) := PySem.W.mg_of X G a_BadNumber
  have m_BadChoice : mg "BadChoice" = some (.ref C_BadChoice) := PySem.W.mg_of X G a_BadChoice
  have m_TooGreat : mg "TooGreat" = some (.ref C_TooGreat) := PySem.W.mg_of X G a_TooGreat
  have k_BadBonds : ∃ C, mg "BadBonds" = some (.ref C) := ⟨_, m_BadBonds⟩
  have k_BadWord : ∃ C, mg "BadWord" = some (.ref C) := ⟨_, m_BadWord⟩
  have k_BadNumber : ∃ C, mg "BadNumber" = some (.ref C) := ⟨_, m_BadNumber⟩
  have k_BadChoice : ∃ C, mg "BadChoice" = some (.ref C) := ⟨_, m_BadChoice⟩
  have k_TooGreat : ∃ C, mg "TooGreat" = some (.ref C) := ⟨_, m_TooGreat⟩
  have x_BadBonds : XC1 P K mg "BadBonds" := xc1_mk (st := (inClass (topS 3) 0)) m_BadBonds xb_BadBonds xl_BadBonds xc_BadBonds xd_BadBonds xv_BadBonds xe_BadBonds xf_BadBonds xi_BadBonds xs_BadBonds xg_BadBonds rfl rfl rfl (by decide) ⟨fun env _ => ⟨_, rfl⟩, fun env _ => rfl, fun env _ => rfl, by decide⟩ (fun s us hl => match us, hl with | [_, _], _ => .of_eq rfl)
  have x_TooGreat : XC1 P K mg "TooGreat" := xc1_mk (st := (inClass (topS 7) 0)) m_TooGreat xb_TooGreat xl_TooGreat xc_TooGreat xd_TooGreat xv_TooGreat xe_TooGreat xf_TooGreat xi_TooGreat xs_TooGreat xg_TooGreat rfl rfl rfl (by decide) ⟨fun env _ => ⟨_, rfl⟩, fun env _ => rfl, fun env _ => rfl, by decide⟩ (fun s us hl => match us, hl with | [_, _], _ => .of_eq rfl)
  have x_BadNumber : XC1 P K mg "BadNumber" := xc1_mk (st := (inClass (topS 5) 0)) m_BadNumber xb_BadNumber xl_BadNumber xc_BadNumber xd_BadNumber xv_BadNumber xe_BadNumber xf_BadNumber xi_BadNumber xs_BadNumber xg_BadNumber rfl rfl rfl (by decide) ⟨fun env _ => ⟨_, rfl⟩, fun env _ => rfl, fun env _ => rfl, by decide⟩ (fun s us hl => match us, hl with | [_, _], _ => .of_eq rfl)
  have x_BadWord : XC1 P K mg "BadWord" := xc1_mk (st := (inClass (topS 4) 0)) m_BadWord xb_BadWord xl_BadWord xc_BadWord xd_BadWord xv_BadWord xe_BadWord xf_BadWord xi_BadWord xs_BadWord xg_BadWord rfl rfl rfl (by decide) ⟨fun env _ => ⟨_, rfl⟩, fun env _ => rfl, fun env _ => rfl, by decide⟩ (fun s us hl => match us, hl with | [_, _], _ => .of_eq rfl)
  have x_BadChoice : XC1 P K mg "BadChoice" := xc1_mk (st := (inClass (topS 6) 0)) m_BadChoice xb_BadChoice xl_BadChoice xc_BadChoice xd_BadChoice xv_BadChoice xe_BadChoice xf_BadChoice xi_BadChoice xs_BadChoice xg_BadChoice rfl rfl rfl (by decide) ⟨fun env _ => ⟨_, rfl⟩, fun env _ => rfl, fun env _ => rfl, by decide⟩ (fun s us hl => match us, hl with | [_, _], _ => .of_eq rfl)
  have hC : mg "Bonds" = some (.ref C) := PySem.W.mg_of X G aC
  have sB : SC K mg "Bonds" "table" := ⟨C, p, hC, ⟨pg, ic, po, sa⟩, ⟨ats, gts, tks, tys, ixs, by decide⟩⟩
  have F_is_whole := fun_mk (st := (topS 13)) l_is_whole c_is_whole k_is_whole
  have F_is_among := fun_mk (st := (topS 14)) l_is_among c_is_among k_is_among
  have F_is_list := fun_mk (st := (topS 15)) l_is_list c_is_list k_is_list
  have F_is_bond := fun_mk (st := (topS 16)) l_is_bond c_is_bond k_is_bond
  have F_need_rows := fun_mk (st := (topS 17)) l_need_rows c_need_rows k_need_rows
  have F_Bonds___init__ := fun_mk (st := (inClass (topS 18) 1)) l_Bonds___init__ c_Bonds___init__ k_Bonds___init__
  have F_Bonds___len__ := fun_mk (st := (inClass (topS 18) 2)) l_Bonds___len__ c_Bonds___len__ k_Bonds___len__
  have F_Bonds_need_letter := fun_mk (st := (inClass (topS 18) 4)) l_Bonds_need_letter c_Bonds_need_letter k_Bonds_need_letter
  have F_Bonds_weight := fun_mk (st := (inClass (topS 18) 6)) l_Bonds_weight c_Bonds_weight k_Bonds_weight
  have F_need_word := fun_mk (st := (topS 19)) l_need_word c_need_word k_need_word
  have F_start := fun_mk (st := (topS 21)) l_start c_start k_start
  have F_pressed := fun_mk (st := (topS 22)) l_pressed c_pressed k_pressed
  have F_row_by := fun_mk (st := (topS 23)) l_row_by c_row_by k_row_by
  have F_below := fun_mk (st := (topS 24)) l_below c_below k_below
  have F_undone := fun_mk (st := (topS 25)) l_undone c_undone k_undone
  have F_shortest_by := fun_mk (st := (topS 26)) l_shortest_by c_shortest_by k_shortest_by
  have F_word_by := fun_mk (st := (topS 28)) l_word_by c_word_by k_word_by
  have F_is_choice := fun_mk (st := (topS 30)) l_is_choice c_is_choice k_is_choice
  have F_need_choice := fun_mk (st := (topS 31)) l_need_choice c_need_choice k_need_choice
  have F_ends_in := fun_mk (st := (topS 32)) l_ends_in c_ends_in k_ends_in
  have F_is_ahead := fun_mk (st := (topS 33)) l_is_ahead c_is_ahead k_is_ahead
  have F_is_behind := fun_mk (st := (topS 34)) l_is_behind c_is_behind k_is_behind
  have F_parted_by := fun_mk (st := (topS 35)) l_parted_by c_parted_by k_parted_by
  have F_least_between := fun_mk (st := (topS 36)) l_least_between c_least_between k_least_between
  have F__law_mixed := fun_mk (st := (topS 38)) l__law_mixed c__law_mixed k__law_mixed
  have F__law_folded := fun_mk (st := (topS 39)) l__law_folded c__law_folded k__law_folded
  have F__law_draw := fun_mk (st := (topS 40)) l__law_draw c__law_draw k__law_draw
  have F__law_begun := fun_mk (st := (topS 41)) l__law_begun c__law_begun k__law_begun
  have F__law_table := fun_mk (st := (topS 42)) l__law_table c__law_table k__law_table
  have F__law_shuffled := fun_mk (st := (topS 44)) l__law_shuffled c__law_shuffled k__law_shuffled
  have F__law_finite := fun_mk (st := (topS 43)) l__law_finite c__law_finite k__law_finite
  have F__law_weight := fun_mk (st := (topS 45)) l__law_weight c__law_weight k__law_weight
  have F__law_pressed := fun_mk (st := (topS 46)) l__law_pressed c__law_pressed k__law_pressed
  have F__law_row := fun_mk (st := (topS 47)) l__law_row c__law_row k__law_row
  have F__law_back := fun_mk (st := (topS 48)) l__law_back c__law_back k__law_back
  have F__law_least := fun_mk (st := (topS 49)) l__law_least c__law_least k__law_least
  have F__law_word := fun_mk (st := (topS 50)) l__law_word c__law_word k__law_word
  have F__law_choice := fun_mk (st := (topS 51)) l__law_choice c__law_choice k__law_choice
  have F__law_within := fun_mk (st := (topS 52)) l__law_within c__law_within k__law_within
  have F__law_between := fun_mk (st := (topS 53)) l__law_between c__law_between k__law_between
  have F__law_front := fun_mk (st := (topS 54)) l__law_front c__law_front k__law_front
  have F__law_endless_right := fun_mk (st := (topS 55)) l__law_endless_right c__law_endless_right k__law_endless_right
  have F_law := fun_mk (st := (topS 56)) l_law c_law k_law
  refine ⟨PySem.W.fnOf "law" "law" (defArgs (topS 56)) (defBody (topS 56)) (defScope (topS 56)) .none kV_law dc_law pm_law an_law cd_law ct_law, ([] : List (Addr × Addr × Str)), (fun p hp => by cases hp), fun s v => .of_eq rfl, fun base _ _ HT => ?_⟩
  letI : Tb := ⟨([] : List (Addr × Addr × Str)).map (·.2)⟩
  have o_is_whole : Fn P w K mg base "is_whole" 1 1 d_is_whole := ok_is_whole F_is_whole (PySem.W.mg_of X G a_is_whole) B
  have o_is_among : Fn P w K mg base "is_among" 2 3 d_is_among := ok_is_among F_is_among (PySem.W.mg_of X G a_is_among) B o_is_whole
  have o_is_list : Fn P w K mg base "is_list" 1 1 d_is_list := ok_is_list F_is_list (PySem.W.mg_of X G a_is_list) B
  have o_is_bond : Fn P w K mg base "is_bond" 3 3 d_is_bond := ok_is_bond F_is_bond (PySem.W.mg_of X G a_is_bond) B g_KINDS o_is_among o_is_whole
  have o_need_rows : Fn P w K mg base "need_rows" 4 1 d_need_rows := ok_need_rows F_need_rows (PySem.W.mg_of X G a_need_rows) B x_BadBonds x_TooGreat g_MOST_LETTERS o_is_list o_is_bond
  have o_Bonds___init__ : Mkr P w K mg base "Bonds" 5 2 d_Bonds___init__ := ok_Bonds___init__ F_Bonds___init__ hC ⟨mkC, a_Bonds___init__, i_Bonds___init__, kpC⟩ B sB o_need_rows
  have o_Bonds___len__ : Mt P w K mg base "Bonds" "__len__" 1 1 d_Bonds___len__ := ok_Bonds___len__ F_Bonds___len__ hC ⟨a_Bonds___len__, i_Bonds___len__, k_Bonds___len__⟩ B sB
  have o_Bonds_need_letter : Mt P w K mg base "Bonds" "need_letter" 3 2 d_Bonds_need_letter := ok_Bonds_need_letter F_Bonds_need_letter hC ⟨a_Bonds_need_letter, i_Bonds_need_letter, k_Bonds_need_letter⟩ B sB x_BadNumber o_is_among
  have o_Bonds_weight : Mt P w K mg base "Bonds" "weight" 4 3 d_Bonds_weight := ok_Bonds_weight F_Bonds_weight hC ⟨a_Bonds_weight, i_Bonds_weight, k_Bonds_weight⟩ B sB g_WEIGHTS o_Bonds_need_letter
  have o_need_word : Fn P w K mg base "need_word" 3 2 d_need_word := ok_need_word F_need_word (PySem.W.mg_of X G a_need_word) B sB x_BadWord x_TooGreat g_MOST_WORD o_is_list o_Bonds___len__ o_is_among
  have o_start : Fn P w K mg base "start" 3 1 d_start := ok_start F_start (PySem.W.mg_of X G a_start) B sB o_Bonds___len__
  have o_pressed : Fn P w K mg base "pressed" 5 3 d_pressed := ok_pressed F_pressed (PySem.W.mg_of X G a_pressed) B sB o_Bonds_weight
  have o_row_by : Fn P w K mg base "row_by" 6 2 d_row_by := ok_row_by F_row_by (PySem.W.mg_of X G a_row_by) B o_start o_pressed
  have o_below : Fn P w K mg base "below" 1 1 d_below := ok_below F_below (PySem.W.mg_of X G a_below) B
  have o_undone : Fn P w K mg base "undone" 6 2 d_undone := ok_undone F_undone (PySem.W.mg_of X G a_undone) B g_MOST_WORD o_below o_pressed o_start
  have o_shortest_by : Fn P w K mg base "shortest_by" 7 2 d_shortest_by := ok_shortest_by F_shortest_by (PySem.W.mg_of X G a_shortest_by) B o_row_by o_undone
  have o_word_by : Fn P w K mg base "word_by" 8 2 d_word_by := ok_word_by F_word_by (PySem.W.mg_of X G a_word_by) B o_undone o_shortest_by
  have o_is_choice : Fn P w K mg base "is_choice" 3 2 d_is_choice := ok_is_choice F_is_choice (PySem.W.mg_of X G a_is_choice) B sB o_Bonds___len__ o_is_among
  have o_need_choice : Fn P w K mg base "need_choice" 4 2 d_need_choice := ok_need_choice F_need_choice (PySem.W.mg_of X G a_need_choice) B x_BadChoice o_is_choice
  have o_ends_in : Fn P w K mg base "ends_in" 1 2 d_ends_in := ok_ends_in F_ends_in (PySem.W.mg_of X G a_ends_in) B
  have o_is_ahead : Fn P w K mg base "is_ahead" 7 3 d_is_ahead := ok_is_ahead F_is_ahead (PySem.W.mg_of X G a_is_ahead) B o_need_word o_need_choice o_row_by o_ends_in
  have o_is_behind : Fn P w K mg base "is_behind" 7 3 d_is_behind := ok_is_behind F_is_behind (PySem.W.mg_of X G a_is_behind) B o_need_word o_need_choice o_row_by o_ends_in
  have o_parted_by : Fn P w K mg base "parted_by" 9 3 d_parted_by := ok_parted_by F_parted_by (PySem.W.mg_of X G a_parted_by) B o_row_by o_ends_in o_pressed o_word_by o_shortest_by
  have o_least_between : Fn P w K mg base "least_between" 10 4 d_least_between := ok_least_between F_least_between (PySem.W.mg_of X G a_least_between) B o_need_word o_need_choice o_parted_by o_shortest_by
  have o__law_mixed : Fn P w K mg base "_law_mixed" 1 2 d__law_mixed := ok__law_mixed F__law_mixed (PySem.W.mg_of X G a__law_mixed) B
  have o__law_folded : Fn P w K mg base "_law_folded" 1 1 d__law_folded := ok__law_folded F__law_folded (PySem.W.mg_of X G a__law_folded) B
  have o__law_draw : Fn P w K mg base "_law_draw" 2 2 d__law_draw := ok__law_draw F__law_draw (PySem.W.mg_of X G a__law_draw) B o__law_mixed
  have o__law_begun : Fn P w K mg base "_law_begun" 2 1 d__law_begun := ok__law_begun F__law_begun (PySem.W.mg_of X G a__law_begun) B o__law_folded
  have o__law_table : Fn P w K mg base "_law_table" 3 3 d2_law_table := ok__law_table F__law_table (PySem.W.mg_of X G a__law_table) B o__law_draw
  have o__law_shuffled : Fn P w K mg base "_law_shuffled" 3 2 d2_law_shuffled := ok__law_shuffled F__law_shuffled (PySem.W.mg_of X G a__law_shuffled) B o__law_draw
  have o__law_finite : Fn P w K mg base "_law_finite" 4 2 d2_law_finite := ok__law_finite F__law_finite (PySem.W.mg_of X G a__law_finite) B o__law_draw o__law_shuffled
  have o__law_weight : Fn P w K mg base "_law_weight" 1 3 d2_law_weight := ok__law_weight F__law_weight (PySem.W.mg_of X G a__law_weight) B
  have o__law_pressed : Fn P w K mg base "_law_pressed" 2 3 d2_law_pressed := ok__law_pressed F__law_pressed (PySem.W.mg_of X G a__law_pressed) B o__law_weight
  have o__law_row : Fn P w K mg base "_law_row" 3 2 d2_law_row := ok__law_row F__law_row (PySem.W.mg_of X G a__law_row) B o__law_pressed
  have o__law_back : Fn P w K mg base "_law_back" 3 2 d2_law_back := ok__law_back F__law_back (PySem.W.mg_of X G a__law_back) B o__law_pressed
  have o__law_least : Fn P w K mg base "_law_least" 4 2 d2_law_least := ok__law_least F__law_least (PySem.W.mg_of X G a__law_least) B o__law_row o__law_back
  have o__law_word : Fn P w K mg base "_law_word" 3 3 d2_law_word := ok__law_word F__law_word (PySem.W.mg_of X G a__law_word) B o__law_draw
  have o__law_choice : Fn P w K mg base "_law_choice" 3 2 d2_law_choice := ok__law_choice F__law_choice (PySem.W.mg_of X G a__law_choice) B o__law_draw
  have o__law_within : Fn P w K mg base "_law_within" 3 2 d2_law_within := ok__law_within F__law_within (PySem.W.mg_of X G a__law_within) B o__law_pressed
  have o__law_between : Fn P w K mg base "_law_between" 4 4 d2_law_between := ok__law_between F__law_between (PySem.W.mg_of X G a__law_between) B o__law_within o__law_row o__law_pressed o__law_back
  have o__law_front : Fn P w K mg base "_law_front" 4 3 d2_law_front := ok__law_front F__law_front (PySem.W.mg_of X G a__law_front) B o__law_row o__law_pressed
  have o__law_endless_right : Fn P w K mg base "_law_endless_right" 11 1 d2_law_endless_right := ok__law_endless_right F__law_endless_right (PySem.W.mg_of X G a__law_endless_right) B o__law_draw o__law_table o_Bonds___init__ o__law_word o__law_choice o__law_front o_least_between o__law_least
  exact ok_law F_law B o__law_begun o__law_finite o_Bonds___init__ o__law_word o__law_choice o_least_between o__law_between o__law_row o__law_least o__law_within o__law_draw o_is_ahead o_is_behind o__law_endless_right
end BW
open PySem PySem.W PyProof.Rows
set_option maxHeartbeats 0 in
theorem PySem.Challenge.cw_bondwords_k47_whole_least_between_holds : PySem.Challenge.rw_bondwords_k47_whole_least_between.Holds := by
  w_on; o_law; k_head; (case hw => w_witness2)
  k_fill
  refine BW.walk_end (l := PySem.Challenge.rw_bondwords_k47_whole_least_between) (n := 63) (k := 12) (x := "script") (dL := BW.d_law) rfl (by decide) rfl ⟨rfl, by decide, by decide⟩ (fun w h Y => by first | exact PySem.W.kIn_of Y | exact PySem.W.km_in_of Y) ?F BW.plain
  case F =>
    intro w mg fa h _ KX G hmg
    refine' BW.all_mk KX G hmg ?z_len ?z_tuple ?z_list ?z_int ?z_range ?z_enumerate ?z_zip ?z_isinstance ?z_all ?z_any ?z_sum ?z_min ?z_max ?z_sorted ?z_repr ?z_str ?z_set ?z_bool ?z_super ?z_ValueError ?z_OverflowError ?a_KINDS ?l_KINDS ?a_MOST_LETTERS ?a_WEIGHTS ?l_WEIGHTS ?l_WEIGHTS0 ?l_WEIGHTS1 ?l_WEIGHTS2 ?l_WEIGHTS3 ?l_WEIGHTS4 ?a_MOST_WORD ?a_BadBonds ?a_BadWord ?a_BadNumber ?a_BadChoice ?a_TooGreat ?xb_BadBonds ?xi_BadBonds ?xl_BadBonds ?xc_BadBonds ?xd_BadBonds ?xv_BadBonds ?xe_BadBonds ?xf_BadBonds ?xs_BadBonds ?xg_BadBonds ?xb_TooGreat ?xi_TooGreat ?xl_TooGreat ?xc_TooGreat ?xd_TooGreat ?xv_TooGreat ?xe_TooGreat ?xf_TooGreat ?xs_TooGreat ?xg_TooGreat ?xb_BadNumber ?xi_BadNumber ?xl_BadNumber ?xc_BadNumber ?xd_BadNumber ?xv_BadNumber ?xe_BadNumber ?xf_BadNumber ?xs_BadNumber ?xg_BadNumber ?xb_BadWord ?xi_BadWord ?xl_BadWord ?xc_BadWord ?xd_BadWord ?xv_BadWord ?xe_BadWord ?xf_BadWord ?xs_BadWord ?xg_BadWord ?xb_BadChoice ?xi_BadChoice ?xl_BadChoice ?xc_BadChoice ?xd_BadChoice ?xv_BadChoice ?xe_BadChoice ?xf_BadChoice ?xs_BadChoice ?xg_BadChoice ?aC ?pg ?ic ?po ?sa ?ats ?gts ?tks ?tys ?ixs ?mkC ?kpC ?a_is_whole ?l_is_whole ?c_is_whole ?k_is_whole ?a_is_among ?l_is_among ?c_is_among ?k_is_among ?a_is_list ?l_is_list ?c_is_list ?k_is_list ?a_is_bond ?l_is_bond ?c_is_bond ?k_is_bond ?a_need_rows ?l_need_rows ?c_need_rows ?k_need_rows ?a_Bonds___init__ ?i_Bonds___init__ ?l_Bonds___init__ ?c_Bonds___init__ ?k_Bonds___init__ ?a_Bonds___len__ ?i_Bonds___len__ ?l_Bonds___len__ ?c_Bonds___len__ ?k_Bonds___len__ ?a_Bonds_need_letter ?i_Bonds_need_letter ?l_Bonds_need_letter ?c_Bonds_need_letter ?k_Bonds_need_letter ?a_Bonds_weight ?i_Bonds_weight ?l_Bonds_weight ?c_Bonds_weight ?k_Bonds_weight ?a_need_word ?l_need_word ?c_need_word ?k_need_word ?a_start ?l_start ?c_start ?k_start ?a_pressed ?l_pressed ?c_pressed ?k_pressed ?a_row_by ?l_row_by ?c_row_by ?k_row_by ?a_below ?l_below ?c_below ?k_below ?a_undone ?l_undone ?c_undone ?k_undone ?a_shortest_by ?l_shortest_by ?c_shortest_by ?k_shortest_by ?a_word_by ?l_word_by ?c_word_by ?k_word_by ?a_is_choice ?l_is_choice ?c_is_choice ?k_is_choice ?a_need_choice ?l_need_choice ?c_need_choice ?k_need_choice ?a_ends_in ?l_ends_in ?c_ends_in ?k_ends_in ?a_is_ahead ?l_is_ahead ?c_is_ahead ?k_is_ahead ?a_is_behind ?l_is_behind ?c_is_behind ?k_is_behind ?a_parted_by ?l_parted_by ?c_parted_by ?k_parted_by ?a_least_between ?l_least_between ?c_least_between ?k_least_between ?a__law_mixed ?l__law_mixed ?c__law_mixed ?k__law_mixed ?a__law_folded ?l__law_folded ?c__law_folded ?k__law_folded ?a__law_draw ?l__law_draw ?c__law_draw ?k__law_draw ?a__law_begun ?l__law_begun ?c__law_begun ?k__law_begun ?a__law_table ?l__law_table ?c__law_table ?k__law_table ?a__law_shuffled ?l__law_shuffled ?c__law_shuffled ?k__law_shuffled ?a__law_finite ?l__law_finite ?c__law_finite ?k__law_finite ?a__law_weight ?l__law_weight ?c__law_weight ?k__law_weight ?a__law_pressed ?l__law_pressed ?c__law_pressed ?k__law_pressed ?a__law_row ?l__law_row ?c__law_row ?k__law_row ?a__law_back ?l__law_back ?c__law_back ?k__law_back ?a__law_least ?l__law_least ?c__law_least ?k__law_least ?a__law_word ?l__law_word ?c__law_word ?k__law_word ?a__law_choice ?l__law_choice ?c__law_choice ?k__law_choice ?a__law_within ?l__law_within ?c__law_within ?k__law_within ?a__law_between ?l__law_between ?c__law_between ?k__law_between ?a__law_front ?l__law_front ?c__law_front ?k__law_front ?a__law_endless_right ?l__law_endless_right ?c__law_endless_right ?k__law_endless_right ?a_law ?l_law ?c_law ?k_law
    (case z_len => k_is)
    (case z_tuple => k_is)
    (case z_list => k_is)
    (case z_int => k_is)
    (case z_range => k_is)
    (case z_enumerate => k_is)
    (case z_zip => k_is)
    (case z_isinstance => k_is)
    (case z_all => k_is)
    (case z_any => k_is)
    (case z_sum => k_is)
    (case z_min => k_is)
    (case z_max => k_is)
    (case z_sorted => k_is)
    (case z_repr => k_is)
    (case z_str => k_is)
    (case z_set => k_is)
    (case z_bool => k_is)
    (case z_super => k_is)
    (case z_ValueError => k_is)
    (case z_OverflowError => k_is)
    (case a_KINDS => k_is)
    (case l_KINDS => k_is)
    (case a_MOST_LETTERS => k_is)
    (case a_WEIGHTS => k_is)
    (case l_WEIGHTS => k_is)
    (case l_WEIGHTS0 => k_is)
    (case l_WEIGHTS1 => k_is)
    (case l_WEIGHTS2 => k_is)
    (case l_WEIGHTS3 => k_is)
    (case l_WEIGHTS4 => k_is)
    (case a_MOST_WORD => k_is)
    (case a_BadBonds => k_is)
    (case a_BadWord => k_is)
    (case a_BadNumber => k_is)
    (case a_BadChoice => k_is)
    (case a_TooGreat => k_is)
    (case xb_BadBonds => kernel_rfl)
    (case xi_BadBonds => k_is)
    (case xl_BadBonds => k_is)
    (case xc_BadBonds => k_is)
    (case xd_BadBonds => k_is)
    (case xv_BadBonds => rfl)
    (case xe_BadBonds => k_is)
    (case xf_BadBonds => k_is)
    (case xs_BadBonds => kernel_rfl)
    (case xg_BadBonds => k_is)
    (case xb_TooGreat => kernel_rfl)
    (case xi_TooGreat => k_is)
    (case xl_TooGreat => k_is)
    (case xc_TooGreat => k_is)
    (case xd_TooGreat => k_is)
    (case xv_TooGreat => rfl)
    (case xe_TooGreat => k_is)
    (case xf_TooGreat => k_is)
    (case xs_TooGreat => kernel_rfl)
    (case xg_TooGreat => k_is)
    (case xb_BadNumber => kernel_rfl)
    (case xi_BadNumber => k_is)
    (case xl_BadNumber => k_is)
    (case xc_BadNumber => k_is)
    (case xd_BadNumber => k_is)
    (case xv_BadNumber => rfl)
    (case xe_BadNumber => k_is)
    (case xf_BadNumber => k_is)
    (case xs_BadNumber => kernel_rfl)
    (case xg_BadNumber => k_is)
    (case xb_BadWord => kernel_rfl)
    (case xi_BadWord => k_is)
    (case xl_BadWord => k_is)
    (case xc_BadWord => k_is)
    (case xd_BadWord => k_is)
    (case xv_BadWord => rfl)
    (case xe_BadWord => k_is)
    (case xf_BadWord => k_is)
    (case xs_BadWord => kernel_rfl)
    (case xg_BadWord => k_is)
    (case xb_BadChoice => kernel_rfl)
    (case xi_BadChoice => k_is)
    (case xl_BadChoice => k_is)
    (case xc_BadChoice => k_is)
    (case xd_BadChoice => k_is)
    (case xv_BadChoice => rfl)
    (case xe_BadChoice => k_is)
    (case xf_BadChoice => k_is)
    (case xs_BadChoice => kernel_rfl)
    (case xg_BadChoice => k_is)
    (case aC => k_is)
    (case pg => k_is)
    (case ic => k_is)
    (case po => k_is)
    (case sa => k_is)
    (case ats => k_is)
    (case gts => k_is)
    (case tks => k_is)
    (case tys => k_is)
    (case ixs => k_is)
    (case mkC => k_is)
    (case kpC => k_is)
    (case a_is_whole => k_is)
    (case l_is_whole => k_is)
    (case c_is_whole => k_is)
    (case k_is_whole => k_is)
    (case a_is_among => k_is)
    (case l_is_among => k_is)
    (case c_is_among => k_is)
    (case k_is_among => k_is)
    (case a_is_list => k_is)
    (case l_is_list => k_is)
    (case c_is_list => k_is)
    (case k_is_list => k_is)
    (case a_is_bond => k_is)
    (case l_is_bond => k_is)
    (case c_is_bond => k_is)
    (case k_is_bond => k_is)
    (case a_need_rows => k_is)
    (case l_need_rows => k_is)
    (case c_need_rows => k_is)
    (case k_need_rows => k_is)
    (case a_Bonds___init__ => k_is)
    (case i_Bonds___init__ => k_is)
    (case l_Bonds___init__ => k_is)
    (case c_Bonds___init__ => k_is)
    (case k_Bonds___init__ => k_is)
    (case a_Bonds___len__ => k_is)
    (case i_Bonds___len__ => k_is)
    (case l_Bonds___len__ => k_is)
    (case c_Bonds___len__ => k_is)
    (case k_Bonds___len__ => k_is)
    (case a_Bonds_need_letter => k_is)
    (case i_Bonds_need_letter => k_is)
    (case l_Bonds_need_letter => k_is)
    (case c_Bonds_need_letter => k_is)
    (case k_Bonds_need_letter => k_is)
    (case a_Bonds_weight => k_is)
    (case i_Bonds_weight => k_is)
    (case l_Bonds_weight => k_is)
    (case c_Bonds_weight => k_is)
    (case k_Bonds_weight => k_is)
    (case a_need_word => k_is)
    (case l_need_word => k_is)
    (case c_need_word => k_is)
    (case k_need_word => k_is)
    (case a_start => k_is)
    (case l_start => k_is)
    (case c_start => k_is)
    (case k_start => k_is)
    (case a_pressed => k_is)
    (case l_pressed => k_is)
    (case c_pressed => k_is)
    (case k_pressed => k_is)
    (case a_row_by => k_is)
    (case l_row_by => k_is)
    (case c_row_by => k_is)
    (case k_row_by => k_is)
    (case a_below => k_is)
    (case l_below => k_is)
    (case c_below => k_is)
    (case k_below => k_is)
    (case a_undone => k_is)
    (case l_undone => k_is)
    (case c_undone => k_is)
    (case k_undone => k_is)
    (case a_shortest_by => k_is)
    (case l_shortest_by => k_is)
    (case c_shortest_by => k_is)
    (case k_shortest_by => k_is)
    (case a_word_by => k_is)
    (case l_word_by => k_is)
    (case c_word_by => k_is)
    (case k_word_by => k_is)
    (case a_is_choice => k_is)
    (case l_is_choice => k_is)
    (case c_is_choice => k_is)
    (case k_is_choice => k_is)
    (case a_need_choice => k_is)
    (case l_need_choice => k_is)
    (case c_need_choice => k_is)
    (case k_need_choice => k_is)
    (case a_ends_in => k_is)
    (case l_ends_in => k_is)
    (case c_ends_in => k_is)
    (case k_ends_in => k_is)
    (case a_is_ahead => k_is)
    (case l_is_ahead => k_is)
    (case c_is_ahead => k_is)
    (case k_is_ahead => k_is)
    (case a_is_behind => k_is)
    (case l_is_behind => k_is)
    (case c_is_behind => k_is)
    (case k_is_behind => k_is)
    (case a_parted_by => k_is)
    (case l_parted_by => k_is)
    (case c_parted_by => k_is)
    (case k_parted_by => k_is)
    (case a_least_between => k_is)
    (case l_least_between => k_is)
    (case c_least_between => k_is)
    (case k_least_between => k_is)
    (case a__law_mixed => k_is)
    (case l__law_mixed => k_is)
    (case c__law_mixed => k_is)
    (case k__law_mixed => k_is)
    (case a__law_folded => k_is)
    (case l__law_folded => k_is)
    (case c__law_folded => k_is)
    (case k__law_folded => k_is)
    (case a__law_draw => k_is)
    (case l__law_draw => k_is)
    (case c__law_draw => k_is)
    (case k__law_draw => k_is)
    (case a__law_begun => k_is)
    (case l__law_begun => k_is)
    (case c__law_begun => k_is)
    (case k__law_begun => k_is)
    (case a__law_table => k_is)
    (case l__law_table => k_is)
    (case c__law_table => k_is)
    (case k__law_table => k_is)
    (case a__law_shuffled => k_is)
    (case l__law_shuffled => k_is)
    (case c__law_shuffled => k_is)
    (case k__law_shuffled => k_is)
    (case a__law_finite => k_is)
    (case l__law_finite => k_is)
    (case c__law_finite => k_is)
    (case k__law_finite => k_is)
    (case a__law_weight => k_is)
    (case l__law_weight => k_is)
    (case c__law_weight => k_is)
    (case k__law_weight => k_is)
    (case a__law_pressed => k_is)
    (case l__law_pressed => k_is)
    (case c__law_pressed => k_is)
    (case k__law_pressed => k_is)
    (case a__law_row => k_is)
    (case l__law_row => k_is)
    (case c__law_row => k_is)
    (case k__law_row => k_is)
    (case a__law_back => k_is)
    (case l__law_back => k_is)
    (case c__law_back => k_is)
    (case k__law_back => k_is)
    (case a__law_least => k_is)
    (case l__law_least => k_is)
    (case c__law_least => k_is)
    (case k__law_least => k_is)
    (case a__law_word => k_is)
    (case l__law_word => k_is)
    (case c__law_word => k_is)
    (case k__law_word => k_is)
    (case a__law_choice => k_is)
    (case l__law_choice => k_is)
    (case c__law_choice => k_is)
    (case k__law_choice => k_is)
    (case a__law_within => k_is)
    (case l__law_within => k_is)
    (case c__law_within => k_is)
    (case k__law_within => k_is)
    (case a__law_between => k_is)
    (case l__law_between => k_is)
    (case c__law_between => k_is)
    (case k__law_between => k_is)
    (case a__law_front => k_is)
    (case l__law_front => k_is)
    (case c__law_front => k_is)
    (case k__law_front => k_is)
    (case a__law_endless_right => k_is)
    (case l__law_endless_right => k_is)
    (case c__law_endless_right => k_is)
    (case k__law_endless_right => k_is)
    (case a_law => k_is)
    (case l_law => k_is)
    (case c_law => k_is)
    (case k_law => k_is)
