import PyProof.Rows.All
import Wide.All
import OpenK.AllK
import Wide.FinOn
import HandS.ForMost
import HandS.ForExc
import HandS.Walk
import HandS.Slots
import HandS.Lambda
import HandS.CallSlots
import HandS.TupAny
import HandS.TupMul
import HandS.Wide
import HandS.Style
import HandS.IsInst
import HandS.TryMany
import HandS.Zip
import KE.GoesMore
import KE.GoesEnum
import HandS.SlotsOwn
import HandS.EndBits
import HandS.Conv
import HandS.EndTab
import KE.KExcSuper
import HandS.ExcInit
import HandS.ExcValue
import HandS.ExcIs
import HandS.ExcField
import KE.KExcInit
import HandS.More
import HandS.Star
import KE.SortData
import HandS.SortInts
import HandS.TupSets
import HandS.Deep
import HandS.Strs
import HandS.Text
import HandS.TupLen
import HandS.Iter
import KE.KDictDisplayH
import HandS.GenList
import HandS.Property
import KE.DataMinMax
import HandS.TryOnly
import KE.KTupSum
import PyProof.ZipIter
import PyProof.GenObj
import KE.KDictWalk
import PyProof.MinMaxWalk
import PyProof.Rows.RegStrFacts
import PySem.Challenge.RW_bondwords_k72_exceptions_of_the_second_h
set_option Elab.async false
set_option linter.all false
set_option maxRecDepth 100000
set_option maxHeartbeats 4000000
namespace BW
open PySem PySem.Spec PyProof.Rows L2
inductive D where
  | non | bl (b : Bool) | int (i : Int) | str (x : Str)
  | tup (xs : List D)
  | tl (xs : List D)
  | rl (xs : List D)
  | ref (n : Nat)
  | exc (c : Str) (xs : List D)
  | kt (xs : List Int)
inductive AO where
  | lst (xs : List D)
  | dk (kvs : List (Key × D))
  | dt (kvs : List (List Key × D))
  | ins (c : Str) (fs : List (Str × D))
  | sins (c : Str) (vs : List (Option D))
  | fz (kvs : List (List Key × D))
abbrev AH := List AO
abbrev Env := List (Option D)
def fieldOf (c : Str) : Option Str :=
  if c = "BadBonds" ∨ c = "BadWord" ∨ c = "BadDeed" ∨ c = "BadText" then some "place"
  else if c = "BadRow" ∨ c = "BadNumber" ∨ c = "BadChoice" then some "value"
  else if c = "TooGreat" then some "most" else none
def XO (a C : Addr) (d : Option Addr) : HO := .ext fun h => ∃ o vs, h.get? a = some o ∧ o.cls = .ref C ∧ o.dict = d ∧ o.data = .fields vs
section
variable (K : PySem.W.Frag) (mg : Str → Option Value)
def SqTr (_ : PySem.W.Frag) (H : Hp) (rho : List Addr) (a : Addr) (vs : List V) : Prop :=
  a ∉ rho ∧ H a = some (.tup vs)
def SqLr (H : Hp) (rho : List Addr) (a : Addr) (vs : List V) : Prop := (a ∉ rho ∧ ∃ o, H a = some (.frz o (.lst vs))) ∨ ∀ H', SqL K H' a vs
mutual
inductive Rel (rho : List Addr) (H : Hp) : V → D → Prop
  | non : Rel rho H .non .non
  | bl (b : Bool) : Rel rho H (.bl b) (.bl b)
  | int (i : Int) : Rel rho H (.int i) (.int i)
  | str (x : Str) : Rel rho H (.str x) (.str x)
  | tup {a : Addr} {vs : List V} {xs : List D} : SqTr K H rho a vs → Rels rho H vs xs → Rel rho H (.ref a) (.tup xs)
  | rl {a : Addr} {vs : List V} {xs : List D} : SqLr K H rho a vs → Rels rho H vs xs → Rel rho H (.ref a) (.rl xs)
  | ref {n : Nat} {a : Addr} : rho[n]? = some a → Rel rho H (.ref a) (.ref n)
  | exc0 {c : Str} {a C : Addr} : mg c = some (.ref C) → a ∉ rho → H a = some (XO a C none) → Rel rho H (.ref a) (.exc c [])
  | exc1 {c f : Str} {a C dx : Addr} {v : V} {x : D} : mg c = some (.ref C) → fieldOf c = some f → a ∉ rho → dx ∉ rho → H a = some (XO a C (some dx)) →
      H dx = some (.xd [(f, v)]) → Rel rho H v x → Rel rho H (.ref a) (.exc c [x])
  | kt {a : Addr} {xs : List Int} : (∀ H', SqT K H' a (xs.map V.int)) → Rel rho H (.ref a) (.kt xs)
inductive Rels (rho : List Addr) (H : Hp) : List V → List D → Prop
  | nil : Rels rho H [] []
  | cons {v : V} {vs : List V} {x : D} {xs : List D} : Rel rho H v x → Rels rho H vs xs → Rels rho H (v :: vs) (x :: xs)
end
end
def NoOwn (o : HO) : Prop := (∀ y, o ≠ .own y) ∧ ∀ ps, o ≠ .tbl ps
theorem NoOwn.of {o : HO} (h1 : ∀ y, o ≠ .own y := by intro _ z; cases z) (h2 : ∀ y, o ≠ .tbl y := by intro _ z; cases z) : NoOwn o := ⟨h1, h2⟩
class Tb where
  T : List (Addr × Str)
instance (priority := low) tb0 : Tb := ⟨[]⟩
structure TbOk [Tb] (r : List Addr) (H : Hp) : Prop where
  tab : ∀ p ∈ Tb.T, ∃ ps : Array Value, H p.1 = some (.tbl ps) ∧ p.1 ∉ r ∧ TriplesOk ps.toList ∧ ∀ (pos : Pos) (cv : Value), codeAmong pos ps.toList = some cv → ∃ c, cv = .ref c ∧ c ∉ r ∧ H c = some (LamX.CodeO c p.2)
def Fr (H : Hp) (a : Addr) : Prop := ∀ o, H a = some o → ∃ ps, o = .tbl ps
theorem Fr.of {H : Hp} {a : Addr} (h : H a = none) : Fr H a := fun o e => by rw [h] at e; cases e
theorem Fr.no {H : Hp} {a : Addr} {o : HO} (f : Fr H a) (e : H a = some o) (ho : NoOwn o) : False := by
  obtain ⟨ps, z⟩ := f o e
  exact ho.2 ps z
structure Step (rho : List Addr) (H : Hp) (rho' : List Addr) (H' : Hp) : Prop where
  pre : rho <+: rho'
  new : ∀ a, a ∈ rho' → a ∉ rho → Fr H a
  keep : ∀ b o, H b = some o → b ∉ rho → NoOwn o → H' b = some o
  stay : ∀ b, Fr H' b → Fr H b
  frz : ∀ b o u, H b = some (.frz o u) → H' b = some (.frz o u)
theorem Step.refl (rho : List Addr) (H : Hp) : Step rho H rho H := ⟨List.prefix_refl _, fun _ a b => absurd a b, fun _ _ h _ _ => h, fun _ h => h, fun _ _ _ h => h⟩
theorem Step.notin {rho rho' : List Addr} {H H' : Hp} (s : Step rho H rho' H') {b : Addr} {o : HO} (hb : b ∉ rho) (h : H b = some o) (ho : NoOwn o) : b ∉ rho' := fun z => (s.new b z hb).no h ho
theorem Step.trans {r r1 r2 : List Addr} {H H1 H2 : Hp} (s : Step r H r1 H1) (t : Step r1 H1 r2 H2) : Step r H r2 H2 where
  pre := s.pre.trans t.pre
  new := fun a h2 h0 => by
    by_cases h1 : a ∈ r1
    · exact s.new a h1 h0
    · exact s.stay a (t.new a h2 h1)
  keep := fun b o h hb ho => t.keep b o (s.keep b o h hb ho) (s.notin hb h ho) ho
  stay := fun b h => s.stay b (t.stay b h)
  frz := fun b o u h => t.frz b o u (s.frz b o u h)
theorem Step.get {r r' : List Addr} {H H' : Hp} (s : Step r H r' H') {n : Nat} {a : Addr} (h : r[n]? = some a) : r'[n]? = some a := by
  obtain ⟨t, rfl⟩ := s.pre
  have hl : n < r.length := (List.getElem?_eq_some_iff.mp h).1
  rw [List.getElem?_append_left hl]
  exact h
theorem Step.alloc {r : List Addr} {H : Hp} {p : Addr} {o : HO} (h : H p = none) : Step r H r (upd H p o) :=
  ⟨List.prefix_refl _, fun _ a b => absurd a b, fun b u e _ _ => by rw [upd_ne (ne_of_none e h)]; exact e, fun b f => by
    by_cases hb : b = p
    · rw [hb]; exact .of h
    · intro u e; exact f u (by rw [upd_ne hb]; exact e), fun b u w e => by rw [upd_ne (ne_of_none e h)]; exact e⟩
theorem Step.mut {r : List Addr} {H : Hp} {p : Addr} {o : HO} (hp : p ∈ r) (hs : ∀ u w, H p ≠ some (.frz u w)) (ho : ∀ ps, o ≠ .tbl ps := by intro _ z; cases z) : Step r H r (upd H p o) :=
  ⟨List.prefix_refl _, fun _ a b => absurd a b, fun b u e hb _ => by
    have ne : b ≠ p := fun z => hb (z ▸ hp)
    rw [upd_ne ne]; exact e, fun b f => by
    by_cases hb : b = p
    · subst hb
      obtain ⟨ps, z⟩ := f o upd_same
      exact absurd z (ho ps)
    · intro u e; exact f u (by rw [upd_ne hb]; exact e), fun b u w e => by
    have ne : b ≠ p := fun z => hs u w (z ▸ e)
    rw [upd_ne ne]; exact e⟩
def Fixed : HO → Prop
  | .tup _ => True
  | .frz _ _ => True
  | .ext _ => True
  | .xd _ => True
  | _ => False
theorem Fixed.no {o : HO} (h : Fixed o) : NoOwn o := ⟨fun y z => (by subst z; exact h), fun y z => (by subst z; exact h)⟩
theorem XO_fixed {a C : Addr} {d : Option Addr} : Fixed (XO a C d) := trivial
structure Mn (r : List Addr) (H : Hp) (r' : List Addr) (H' : Hp) : Prop where
  pre : r <+: r'
  keep : ∀ b o, H b = some o → b ∉ r → Fixed o → b ∉ r' ∧ H' b = some o
theorem Step.mn {r r' : List Addr} {H H' : Hp} (s : Step r H r' H') : Mn r H r' H' :=
  ⟨s.pre, fun b o h hb ho => ⟨s.notin hb h ho.no, s.keep b o h hb ho.no⟩⟩
theorem Mn.get {r r' : List Addr} {H H' : Hp} (s : Mn r H r' H') {n : Nat} {a : Addr} (h : r[n]? = some a) : r'[n]? = some a := by
  obtain ⟨t, rfl⟩ := s.pre
  have hl : n < r.length := (List.getElem?_eq_some_iff.mp h).1
  rw [List.getElem?_append_left hl]
  exact h
structure Mo (r : List Addr) (H : Hp) (r' : List Addr) (H' : Hp) : Prop extends Mn r H r' H' where
  own : ∀ b y, H b = some (.own y) → b ∉ r → b ∉ r' ∧ H' b = some (.own y)
  tbl : ∀ b y, H b = some (.tbl y) → b ∉ r → b ∉ r' ∧ H' b = some (.tbl y)
theorem Mo.alloc {r : List Addr} {H : Hp} {p : Addr} {o : HO} (h : H p = none) (ho : ∀ ps, o ≠ .tbl ps := by intro _ z; cases z) : Mo r H r (upd H p o) :=
  ⟨(Step.alloc h).mn, fun b y e hb => ⟨hb, by rw [upd_ne (ne_of_none e h)]; exact e⟩, fun b y e hb => ⟨hb, by rw [upd_ne (ne_of_none e h)]; exact e⟩⟩
theorem Mo.mut {r : List Addr} {H : Hp} {p : Addr} {o : HO} (hp : p ∈ r) (hs : H p ≠ none) (ho : ∀ ps, o ≠ .tbl ps := by intro _ z; cases z) : Mo r H r (upd H p o) :=
  ⟨⟨List.prefix_refl _, fun b u e hb _ => ⟨hb, by
    have ne : b ≠ p := fun z => hb (z ▸ hp)
    rw [upd_ne ne]; exact e⟩⟩, fun b y e hb => ⟨hb, by
    have ne : b ≠ p := fun z => hb (z ▸ hp)
    rw [upd_ne ne]; exact e⟩, fun b y e hb => ⟨hb, by
    have ne : b ≠ p := fun z => hb (z ▸ hp)
    rw [upd_ne ne]; exact e⟩⟩
theorem TbOk.mono [Tb] {r r' : List Addr} {H H' : Hp} (s : Mo r H r' H') (q : TbOk r H) : TbOk r' H' where
  tab := fun p hp => by
    obtain ⟨ps, h1, h2, h3, h4⟩ := q.tab p hp
    refine ⟨ps, (s.tbl _ _ h1 h2).2, (s.tbl _ _ h1 h2).1, h3, fun pos cv hc => ?_⟩
    obtain ⟨c, e1, e2, e3⟩ := h4 pos cv hc
    have z := s.keep _ _ e3 e2 trivial
    exact ⟨c, e1, z.1, z.2⟩
theorem TbOk.cut [Tb] {r r1 : List Addr} {H : Hp} (hp : r <+: r1) (q : TbOk r1 H) : TbOk r H where
  tab := fun p hp' => by
    obtain ⟨ps, h1, h2, h3, h4⟩ := q.tab p hp'
    refine ⟨ps, h1, fun z => h2 (hp.subset z), h3, fun pos cv hc => ?_⟩
    obtain ⟨c, e1, e2, e3⟩ := h4 pos cv hc
    exact ⟨c, e1, fun z => e2 (hp.subset z), e3⟩
theorem Mn.push {r : List Addr} {H : Hp} {p : Addr} {o : HO} (hp : H p = some o) (hf : ¬ Fixed o) : Mn r H (r ++ [p]) H :=
  ⟨List.prefix_append _ _, fun b u h hb hu => ⟨fun z => by
    rcases List.mem_append.mp z with z | z
    · exact hb z
    · rw [List.mem_singleton] at z
      subst z
      rw [hp] at h
      cases h
      exact hf hu, h⟩⟩
theorem Mo.push {r : List Addr} {H : Hp} {p : Addr} {o : HO} (hp : H p = some o) (hf : ¬ Fixed o) (hn : NoOwn o) : Mo r H (r ++ [p]) H :=
  ⟨Mn.push hp hf, fun b y h hb => ⟨fun z => by
    rcases List.mem_append.mp z with z | z
    · exact hb z
    · rw [List.mem_singleton] at z
      subst z
      rw [hp] at h
      cases h
      exact hn.1 y rfl, h⟩, fun b y h hb => ⟨fun z => by
    rcases List.mem_append.mp z with z | z
    · exact hb z
    · rw [List.mem_singleton] at z
      subst z
      rw [hp] at h
      cases h
      exact hn.2 y rfl, h⟩⟩
section
variable {K : PySem.W.Frag} {mg : Str → Option Value} {r r' : List Addr} {H H' : Hp}
theorem SqTr.sq {a : Addr} {vs : List V} (h : SqTr K H r a vs) : SqT K H a vs := by
  exact .inl (.inl h.2)
theorem SqTr.mono {a : Addr} {vs : List V} (s : Mn r H r' H') (h : SqTr K H r a vs) : SqTr K H' r' a vs := by
  exact ⟨(s.keep _ _ h.2 h.1 trivial).1, (s.keep _ _ h.2 h.1 trivial).2⟩
theorem SqLr.sq {a : Addr} {vs : List V} (h : SqLr K H r a vs) : SqL K H a vs := by
  rcases h with ⟨_, o, h⟩ | h
  · exact .inl (.inr ⟨o, h⟩)
  · exact h H
theorem SqLr.mono {a : Addr} {vs : List V} (s : Mn r H r' H') (h : SqLr K H r a vs) : SqLr K H' r' a vs := by
  rcases h with ⟨h1, o, h⟩ | h
  · exact .inl ⟨(s.keep _ _ h h1 trivial).1, o, (s.keep _ _ h h1 trivial).2⟩
  · exact .inr h
mutual
theorem Rel.mono (s : Mn r H r' H') : ∀ {v : V} {d : D}, Rel K mg r H v d → Rel K mg r' H' v d
  | _, _, .non => .non
  | _, _, .bl b => .bl b
  | _, _, .int i => .int i
  | _, _, .str x => .str x
  | _, _, .tup h q => .tup (h.mono s) (Rels.mono s q)
  | _, _, .rl h q => .rl (h.mono s) (Rels.mono s q)
  | _, _, .ref h => .ref (s.get h)
  | _, _, .exc0 h1 h2 h3 => .exc0 h1 (s.keep _ _ h3 h2 XO_fixed).1 (s.keep _ _ h3 h2 XO_fixed).2
  | _, _, .exc1 h1 hf h2 h3 h4 h5 q => .exc1 h1 hf (s.keep _ _ h4 h2 XO_fixed).1 (s.keep _ _ h5 h3 trivial).1 (s.keep _ _ h4 h2 XO_fixed).2 (s.keep _ _ h5 h3 trivial).2 (Rel.mono s q)
  | _, _, .kt h => .kt h
theorem Rels.mono (s : Mn r H r' H') : ∀ {vs : List V} {xs : List D}, Rels K mg r H vs xs → Rels K mg r' H' vs xs
  | _, _, .nil => .nil
  | _, _, .cons h q => .cons (Rel.mono s h) (Rels.mono s q)
end
theorem Rels.length : ∀ {vs : List V} {xs : List D}, Rels K mg r H vs xs → vs.length = xs.length
  | _, _, .nil => rfl
  | _, _, .cons _ q => by rw [List.length_cons, List.length_cons, Rels.length q]
theorem Rels.append : ∀ {vs ws : List V} {xs ys : List D}, Rels K mg r H vs xs → Rels K mg r H ws ys → Rels K mg r H (vs ++ ws) (xs ++ ys)
  | _, _, _, _, .nil, q => q
  | _, _, _, _, .cons h t, q => .cons h (Rels.append t q)
theorem Rels.get : ∀ {vs : List V} {xs : List D} {i : Nat} {v : V}, Rels K mg r H vs xs → vs[i]? = some v → ∃ x, xs[i]? = some x ∧ Rel K mg r H v x
  | _, _, i, _, .nil, e => by simp at e
  | _, _, 0, _, .cons h _, e => by
    simp at e; subst e; exact ⟨_, rfl, h⟩
  | _, _, i + 1, v, .cons _ q, e => by
    obtain ⟨x, h1, h2⟩ := Rels.get (i := i) (v := v) q (by simpa using e)
    exact ⟨x, by simpa using h1, h2⟩
theorem Rels.get' : ∀ {vs : List V} {xs : List D} {i : Nat} {x : D}, Rels K mg r H vs xs → xs[i]? = some x → ∃ v, vs[i]? = some v ∧ Rel K mg r H v x
  | _, _, i, _, .nil, e => by simp at e
  | _, _, 0, _, .cons h _, e => by
    simp at e; subst e; exact ⟨_, rfl, h⟩
  | _, _, i + 1, v, .cons _ q, e => by
    obtain ⟨x, h1, h2⟩ := Rels.get' (i := i) (x := v) q (by simpa using e)
    exact ⟨x, by simpa using h1, h2⟩
theorem Rels.set {v : V} {x : D} (h : Rel K mg r H v x) : ∀ {vs : List V} {xs : List D} (i : Nat), Rels K mg r H vs xs → Rels K mg r H (vs.set i v) (xs.set i x)
  | _, _, _, .nil => .nil
  | _, _, 0, .cons _ t => .cons h t
  | _, _, i + 1, .cons q t => .cons q (Rels.set h i t)
theorem Rel.ref_inv {a : Addr} {n : Nat} (h : Rel K mg r H (.ref a) (.ref n)) : r[n]? = some a := by cases h; assumption
end
section
variable (K : PySem.W.Frag) (mg : Str → Option Value)
inductive RelK (r : List Addr) (H : Hp) : List (Key × V) → List (Key × D) → Prop
  | nil : RelK r H [] []
  | cons {k : Key} {v : V} {x : D} {vs : List (Key × V)} {xs : List (Key × D)} : Rel K mg r H v x → RelK r H vs xs → RelK r H ((k, v) :: vs) ((k, x) :: xs)
inductive RelKT (r : List Addr) (H : Hp) : List (List Key × V) → List (List Key × D) → Prop
  | nil : RelKT r H [] []
  | cons {k : List Key} {v : V} {x : D} {vs : List (List Key × V)} {xs : List (List Key × D)} : Rel K mg r H v x → RelKT r H vs xs → RelKT r H ((k, v) :: vs) ((k, x) :: xs)
inductive RelF (r : List Addr) (H : Hp) : List (Str × V) → List (Str × D) → Prop
  | nil : RelF r H [] []
  | cons {k : Str} {v : V} {x : D} {vs : List (Str × V)} {xs : List (Str × D)} : Rel K mg r H v x → RelF r H vs xs → RelF r H ((k, v) :: vs) ((k, x) :: xs)
inductive RelSl (r : List Addr) (H : Hp) : List (Option V) → List (Option D) → Prop
  | nil : RelSl r H [] []
  | some {v : V} {x : D} {vs : List (Option V)} {xs : List (Option D)} : Rel K mg r H v x → RelSl r H vs xs → RelSl r H (some v :: vs) (some x :: xs)
  | none {vs : List (Option V)} {xs : List (Option D)} : RelSl r H vs xs → RelSl r H (none :: vs) (none :: xs)
def ORel (r : List Addr) (H : Hp) (a : Addr) : AO → Prop
  | .lst xs => ∃ vs, H a = some (.lst vs) ∧ Rels K mg r H vs xs
  | .dk kvs => ∃ vs, H a = some (.dK vs) ∧ RelK K mg r H vs kvs
  | .dt kvs => ∃ vs, H a = some (.dT vs) ∧ RelKT K mg r H vs kvs
  | .ins c fs => ∃ C dx vs, mg c = some (.ref C) ∧ H a = some (.ins C dx vs) ∧ H dx = some (.own a) ∧ dx ∉ r ∧ RelF K mg r H vs fs
  | .sins c fs => ∃ C dx vs, mg c = some (.ref C) ∧ H a = some (SlX.SlO a C dx vs) ∧ H dx = some (.xd []) ∧ dx ∉ r ∧ RelSl K mg r H vs fs
  | .fz kvs => ∃ o vs, H a = some (.frz o (.dT vs)) ∧ RelKT K mg r H vs kvs
structure HRel [Tb] (r : List Addr) (h : AH) (H : Hp) : Prop where
  len : r.length = h.length
  nd : r.Nodup
  tbs : TbOk r H
  obj : ∀ (i : Nat) (o : AO) (a : Addr), h[i]? = some o → r[i]? = some a → ORel K mg r H a o
structure ERel (r : List Addr) (e : Env) (σ : L2.St) (H : Hp) : Prop where
  len : σ.length = e.length
  at_ : ∀ (i : Nat) (x : D), e[i]? = some (some x) → ∃ v, σ[i]? = some (some v) ∧ Rel K mg r H v x
end
section
variable {K : PySem.W.Frag} {mg : Str → Option Value} {r r' : List Addr} {H H' : Hp} {h : AH} {e : Env} {σ : L2.St}
theorem RelK.mono (s : Mn r H r' H') : ∀ {vs : List (Key × V)} {xs : List (Key × D)}, RelK K mg r H vs xs → RelK K mg r' H' vs xs
  | _, _, .nil => .nil
  | _, _, .cons h q => .cons (h.mono s) (RelK.mono s q)
theorem RelKT.mono (s : Mn r H r' H') : ∀ {vs : List (List Key × V)} {xs : List (List Key × D)}, RelKT K mg r H vs xs → RelKT K mg r' H' vs xs
  | _, _, .nil => .nil
  | _, _, .cons h q => .cons (h.mono s) (RelKT.mono s q)
theorem RelF.mono (s : Mn r H r' H') : ∀ {vs : List (Str × V)} {xs : List (Str × D)}, RelF K mg r H vs xs → RelF K mg r' H' vs xs
  | _, _, .nil => .nil
  | _, _, .cons h q => .cons (h.mono s) (RelF.mono s q)
theorem RelSl.mono (s : Mn r H r' H') : ∀ {vs : List (Option V)} {xs : List (Option D)}, RelSl K mg r H vs xs → RelSl K mg r' H' vs xs
  | _, _, .nil => .nil
  | _, _, .some h q => .some (h.mono s) (RelSl.mono s q)
  | _, _, .none q => .none (RelSl.mono s q)
theorem ORel.mono {a : Addr} {o : AO} (s : Mo r H r' H') (ha : H' a = H a) (q : ORel K mg r H a o) : ORel K mg r' H' a o := by
  cases o with
  | lst xs => obtain ⟨vs, h1, h2⟩ := q; exact ⟨vs, ha.trans h1, h2.mono s.toMn⟩
  | dk xs => obtain ⟨vs, h1, h2⟩ := q; exact ⟨vs, ha.trans h1, h2.mono s.toMn⟩
  | dt xs => obtain ⟨vs, h1, h2⟩ := q; exact ⟨vs, ha.trans h1, h2.mono s.toMn⟩
  | ins c fs => obtain ⟨C, dx, vs, h0, h1, h2, h3, h4⟩ := q; exact ⟨C, dx, vs, h0, ha.trans h1, (s.own _ _ h2 h3).2, (s.own _ _ h2 h3).1, h4.mono s.toMn⟩
  | sins c fs =>
    obtain ⟨C, dx, vs, h0, h1, h2, h3, h4⟩ := q
    exact ⟨C, dx, vs, h0, ha.trans h1, (s.keep _ _ h2 h3 trivial).2, (s.keep _ _ h2 h3 trivial).1, h4.mono s.toMn⟩
  | fz xs => obtain ⟨u, vs, h1, h2⟩ := q; exact ⟨u, vs, ha.trans h1, h2.mono s.toMn⟩
theorem ORel.there {a : Addr} {o : AO} (q : ORel K mg r H a o) : H a ≠ none := by
  cases o with
  | lst xs => obtain ⟨vs, h1, _⟩ := q; rw [h1]; exact fun z => nomatch z
  | dk xs => obtain ⟨vs, h1, _⟩ := q; rw [h1]; exact fun z => nomatch z
  | dt xs => obtain ⟨vs, h1, _⟩ := q; rw [h1]; exact fun z => nomatch z
  | ins c fs => obtain ⟨C, dx, vs, h0, h1, h2⟩ := q; rw [h1]; exact fun z => nomatch z
  | sins c fs => obtain ⟨C, dx, vs, h0, h1, h2, _⟩ := q; rw [h1]; exact fun z => nomatch z
  | fz xs => obtain ⟨u, vs, h1, _⟩ := q; rw [h1]; exact fun z => nomatch z
variable [Tb]
theorem HRel.there (q : HRel K mg r h H) {a : Addr} (ha : a ∈ r) : H a ≠ none := by
  obtain ⟨i, hi⟩ := List.getElem?_of_mem ha
  have hl : i < h.length := by rw [← q.len]; exact (List.getElem?_eq_some_iff.mp hi).1
  exact (q.obj i h[i] a (List.getElem?_eq_getElem hl) hi).there
theorem HRel.mono (s : Mo r H r H') (ha : ∀ a ∈ r, H' a = H a) (q : HRel K mg r h H) : HRel K mg r h H' :=
  ⟨q.len, q.nd, q.tbs.mono s, fun i o a h1 h2 => (q.obj i o a h1 h2).mono s (ha a (List.mem_of_getElem? h2))⟩
theorem HRel.alloc {p : Addr} {o : HO} (q : HRel K mg r h H) (hp : H p = none) (ho : ∀ ps, o ≠ .tbl ps := by intro _ z; cases z) : HRel K mg r h (upd H p o) :=
  q.mono (Mo.alloc hp ho) fun a ha => upd_ne fun z => q.there ha (z ▸ hp)
theorem ERel.mono (s : Mn r H r' H') (q : ERel K mg r e σ H) : ERel K mg r' e σ H' :=
  ⟨q.len, fun i x hx => let ⟨v, h1, h2⟩ := q.at_ i x hx; ⟨v, h1, h2.mono s⟩⟩
theorem ERel.set {v : V} {x : D} (q : ERel K mg r e σ H) (i : Nat) (hv : Rel K mg r H v x) : ERel K mg r (e.set i (some x)) (σ.set i (some v)) H := by
  refine ⟨by rw [List.length_set, List.length_set]; exact q.len, fun j y hy => ?_⟩
  by_cases hj : i = j
  · subst hj
    rw [List.getElem?_set] at hy
    simp only [if_true] at hy
    split at hy
    · rename_i hl
      cases hy
      exact ⟨v, by rw [List.getElem?_set]; simp [q.len, hl], hv⟩
    · cases hy
  · rw [List.getElem?_set_ne hj] at hy
    obtain ⟨w, h1, h2⟩ := q.at_ j y hy
    exact ⟨w, by rw [List.getElem?_set_ne hj]; exact h1, h2⟩
theorem HRel.put {p : Addr} {o : HO} {i : Nat} {ob : AO} (q : HRel K mg r h H) (hi : r[i]? = some p) (new : ORel K mg r (upd H p o) p ob) (ho : ∀ ps, o ≠ .tbl ps := by intro _ z; cases z) : HRel K mg r (h.set i ob) (upd H p o) := by
  have hp : p ∈ r := List.mem_of_getElem? hi
  have s : Mo r H r (upd H p o) := Mo.mut hp (q.there hp) ho
  refine ⟨by rw [List.length_set]; exact q.len, q.nd, q.tbs.mono s, fun j ob' a h1 h2 => ?_⟩
  by_cases hj : i = j
  · subst hj
    rw [hi] at h2
    cases h2
    rw [List.getElem?_set] at h1
    simp only [if_true] at h1
    split at h1
    · cases h1; exact new
    · cases h1
  · rw [List.getElem?_set_ne hj] at h1
    have ne : a ≠ p := fun z => by
      subst z
      exact hj ((List.getElem?_inj (List.getElem?_eq_some_iff.mp hi).1 q.nd).mp (hi.trans h2.symm))
    exact (q.obj j ob' a h1 h2).mono s (upd_ne ne)
theorem HRel.push {p : Addr} {ob : AO} (q : HRel K mg r h H) (hp : p ∉ r) (s : Mo r H (r ++ [p]) H) (new : ORel K mg (r ++ [p]) H p ob) : HRel K mg (r ++ [p]) (h ++ [ob]) H := by
  refine ⟨by rw [List.length_append, List.length_append, q.len, List.length_singleton, List.length_singleton], List.nodup_append.mpr ⟨q.nd, by simp, fun a ha b hb => by
    rw [List.mem_singleton] at hb; subst hb; exact fun z => hp (z ▸ ha)⟩, q.tbs.mono s, fun j ob' a h1 h2 => ?_⟩
  by_cases hj : j < r.length
  · rw [List.getElem?_append_left (by rw [← q.len]; exact hj)] at h1
    rw [List.getElem?_append_left hj] at h2
    exact (q.obj j ob' a h1 h2).mono s rfl
  · rw [List.getElem?_append_right (by rw [← q.len]; omega)] at h1
    rw [List.getElem?_append_right (by omega)] at h2
    have h1' : j - h.length = 0 := by
      cases e : j - h.length with
      | zero => rfl
      | succ k => rw [e] at h1; simp at h1
    rw [h1'] at h1
    rw [q.len, h1'] at h2
    simp at h1 h2
    subst h1 h2
    exact new
theorem HRel.cut {r1 : List Addr} {h1 : AH} (q : HRel K mg r1 h1 H) (hp : r <+: r1) (hobj : ∀ (i : Nat) (o : AO) (a : Addr), (h1.take r.length)[i]? = some o → r[i]? = some a → ORel K mg r H a o) : HRel K mg r (h1.take r.length) H := by
  have tb := q.tbs.cut hp
  obtain ⟨t, rfl⟩ := hp
  refine ⟨?_, (List.nodup_append.mp q.nd).1, tb, hobj⟩
  rw [List.length_take, ← q.len, List.length_append]
  omega
end
end BW

set_option Elab.async false
set_option linter.all false
set_option maxRecDepth 100000
set_option maxHeartbeats 4000000
namespace BW
open PySem PySem.Spec PyProof.Rows L2
mutual
def D.eqb : D → D → Bool
  | .non, .non => true
  | .bl a, .bl b => a == b
  | .int a, .int b => decide (a = b)
  | .str a, .str b => decide (a = b)
  | .tup a, .tup b => D.eqbs a b
  | .tl a, .tl b => D.eqbs a b
  | .rl a, .rl b => D.eqbs a b
  | .ref a, .ref b => decide (a = b)
  | .exc c a, .exc c' b => decide (c = c') && D.eqbs a b
  | .kt a, .kt b => decide (a = b)
  | _, _ => false
def D.eqbs : List D → List D → Bool
  | [], [] => true
  | x :: xs, y :: ys => D.eqb x y && D.eqbs xs ys
  | _, _ => false
end
mutual
theorem D.eqb_iff : ∀ a b : D, D.eqb a b = true ↔ a = b
  | .non, b => by cases b <;> simp [D.eqb]
  | .bl a, b => by cases b <;> simp [D.eqb]
  | .int a, b => by cases b <;> simp [D.eqb]
  | .str a, b => by cases b <;> simp [D.eqb]
  | .ref a, b => by cases b <;> simp [D.eqb]
  | .kt a, b => by cases b <;> simp [D.eqb]
  | .tup a, b => by
    cases b with
    | tup b => simp only [D.eqb, D.tup.injEq]; exact D.eqbs_iff a b
    | _ => simp [D.eqb]
  | .tl a, b => by
    cases b with
    | tl b => simp only [D.eqb, D.tl.injEq]; exact D.eqbs_iff a b
    | _ => simp [D.eqb]
  | .rl a, b => by
    cases b with
    | rl b => simp only [D.eqb, D.rl.injEq]; exact D.eqbs_iff a b
    | _ => simp [D.eqb]
  | .exc c a, b => by
    cases b with
    | exc c' b => simp only [D.eqb, D.exc.injEq, Bool.and_eq_true, decide_eq_true_eq, D.eqbs_iff a b]
    | _ => simp [D.eqb]
theorem D.eqbs_iff : ∀ a b : List D, D.eqbs a b = true ↔ a = b
  | [], b => by cases b <;> simp [D.eqbs]
  | x :: xs, b => by
    cases b with
    | nil => simp [D.eqbs]
    | cons y ys => simp only [D.eqbs, Bool.and_eq_true, List.cons.injEq, D.eqb_iff x y, D.eqbs_iff xs ys]
end
instance : DecidableEq D := fun a b => decidable_of_iff _ (D.eqb_iff a b)
instance : DecidableEq AO
  | .lst a, .lst b => decidable_of_iff (a = b) (by simp)
  | .dk a, .dk b => decidable_of_iff (a = b) (by simp)
  | .dt a, .dt b => decidable_of_iff (a = b) (by simp)
  | .ins a b, .ins c d => decidable_of_iff (a = c ∧ b = d) (by simp)
  | .sins a b, .sins c d => decidable_of_iff (a = c ∧ b = d) (by simp)
  | .lst _, .dk _ => isFalse (by simp) | .lst _, .dt _ => isFalse (by simp) | .lst _, .ins _ _ => isFalse (by simp) | .lst _, .sins _ _ => isFalse (by simp)
  | .dk _, .lst _ => isFalse (by simp) | .dk _, .dt _ => isFalse (by simp) | .dk _, .ins _ _ => isFalse (by simp) | .dk _, .sins _ _ => isFalse (by simp)
  | .dt _, .lst _ => isFalse (by simp) | .dt _, .dk _ => isFalse (by simp) | .dt _, .ins _ _ => isFalse (by simp) | .dt _, .sins _ _ => isFalse (by simp)
  | .ins _ _, .lst _ => isFalse (by simp) | .ins _ _, .dk _ => isFalse (by simp) | .ins _ _, .dt _ => isFalse (by simp) | .ins _ _, .sins _ _ => isFalse (by simp)
  | .fz a, .fz b => decidable_of_iff (a = b) (by simp)
  | .lst _, .fz _ => isFalse (by simp) | .dk _, .fz _ => isFalse (by simp) | .dt _, .fz _ => isFalse (by simp) | .ins _ _, .fz _ => isFalse (by simp) | .sins _ _, .fz _ => isFalse (by simp)
  | .fz _, .lst _ => isFalse (by simp) | .fz _, .dk _ => isFalse (by simp) | .fz _, .dt _ => isFalse (by simp) | .fz _, .ins _ _ => isFalse (by simp) | .fz _, .sins _ _ => isFalse (by simp)
  | .sins _ _, .lst _ => isFalse (by simp) | .sins _ _, .dk _ => isFalse (by simp) | .sins _ _, .dt _ => isFalse (by simp) | .sins _ _, .ins _ _ => isFalse (by simp)
variable [Tb]
mutual
def D.lt (n : Nat) : D → Bool
  | .tup xs => D.lts n xs
  | .tl xs => false
  | .rl xs => D.lts n xs
  | .ref k => decide (k < n)
  | .exc _ xs => D.lts n xs
  | _ => true
def D.lts (n : Nat) : List D → Bool
  | [] => true
  | x :: xs => D.lt n x && D.lts n xs
end
def AO.lt (n : Nat) : AO → Bool
  | .lst xs => D.lts n xs
  | .dk kvs => kvs.all fun p => p.2.lt n
  | .dt kvs => kvs.all fun p => p.2.lt n
  | .ins _ fs => fs.all fun p => p.2.lt n
  | .sins _ vs => vs.all fun p => p.all (D.lt n)
  | .fz kvs => kvs.all fun p => p.2.lt n
section
variable {K : PySem.W.Frag} {mg : Str → Option Value} {r r1 : List Addr} {H : Hp}
mutual
theorem Rel.lt : ∀ {v : V} {d : D}, Rel K mg r H v d → d.lt r.length = true
  | _, _, .non => rfl
  | _, _, .bl _ => rfl
  | _, _, .int _ => rfl
  | _, _, .str _ => rfl
  | _, _, .tup _ q => by simp only [D.lt]; exact Rels.lt q
  | _, _, .rl _ q => by simp only [D.lt]; exact Rels.lt q
  | _, _, .ref h => by simp only [D.lt, decide_eq_true_eq]; exact (List.getElem?_eq_some_iff.mp h).1
  | _, _, .exc0 _ _ _ => rfl
  | _, _, .exc1 _ _ _ _ _ _ q => by simp only [D.lt, D.lts, Bool.and_true]; exact Rel.lt q
  | _, _, .kt _ => rfl
theorem Rels.lt : ∀ {vs : List V} {xs : List D}, Rels K mg r H vs xs → D.lts r.length xs = true
  | _, _, .nil => rfl
  | _, _, .cons h q => by simp only [D.lts, Bool.and_eq_true]; exact ⟨Rel.lt h, Rels.lt q⟩
end
theorem SqTr.cut {a : Addr} {vs : List V} (hp : r <+: r1) (h : SqTr K H r1 a vs) : SqTr K H r a vs := by
  exact ⟨fun z => h.1 (hp.subset z), h.2⟩
theorem get_cut {n : Nat} {a : Addr} (hp : r <+: r1) (h : r1[n]? = some a) (hn : n < r.length) : r[n]? = some a := by
  obtain ⟨t, rfl⟩ := hp
  rw [List.getElem?_append_left hn] at h
  exact h
theorem SqLr.cut {a : Addr} {vs : List V} (hp : r <+: r1) (h : SqLr K H r1 a vs) : SqLr K H r a vs := by
  rcases h with ⟨h1, h⟩ | h
  · exact .inl ⟨fun z => h1 (hp.subset z), h⟩
  · exact .inr h
mutual
theorem Rel.cut (hp : r <+: r1) : ∀ {v : V} {d : D}, Rel K mg r1 H v d → d.lt r.length = true → Rel K mg r H v d
  | _, _, .non, _ => .non
  | _, _, .bl b, _ => .bl b
  | _, _, .int i, _ => .int i
  | _, _, .str x, _ => .str x
  | _, _, .tup h q, z => .tup (h.cut hp) (Rels.cut hp q (by simpa only [D.lt] using z))
  | _, _, .rl h q, z => .rl (h.cut hp) (Rels.cut hp q (by simpa only [D.lt] using z))
  | _, _, .ref h, z => .ref (get_cut hp h (by simpa only [D.lt, decide_eq_true_eq] using z))
  | _, _, .exc0 h1 h2 h3, _ => .exc0 h1 (fun z => h2 (hp.subset z)) h3
  | _, _, .exc1 h1 hf h2 h3 h4 h5 q, z => .exc1 h1 hf (fun z => h2 (hp.subset z)) (fun z => h3 (hp.subset z)) h4 h5 (Rel.cut hp q (by simpa only [D.lt, D.lts, Bool.and_true] using z))
  | _, _, .kt h, _ => .kt h
theorem Rels.cut (hp : r <+: r1) : ∀ {vs : List V} {xs : List D}, Rels K mg r1 H vs xs → D.lts r.length xs = true → Rels K mg r H vs xs
  | _, _, .nil, _ => .nil
  | _, _, .cons h q, z => by
    simp only [D.lts, Bool.and_eq_true] at z
    exact .cons (Rel.cut hp h z.1) (Rels.cut hp q z.2)
end
theorem RelK.cut (hp : r <+: r1) : ∀ {vs : List (Key × V)} {xs : List (Key × D)}, RelK K mg r1 H vs xs → (xs.all fun p => p.2.lt r.length) = true → RelK K mg r H vs xs
  | _, _, .nil, _ => .nil
  | _, _, .cons h q, z => by
    simp only [List.all_cons, Bool.and_eq_true] at z
    exact .cons (h.cut hp z.1) (RelK.cut hp q z.2)
theorem RelKT.cut (hp : r <+: r1) : ∀ {vs : List (List Key × V)} {xs : List (List Key × D)}, RelKT K mg r1 H vs xs → (xs.all fun p => p.2.lt r.length) = true → RelKT K mg r H vs xs
  | _, _, .nil, _ => .nil
  | _, _, .cons h q, z => by
    simp only [List.all_cons, Bool.and_eq_true] at z
    exact .cons (h.cut hp z.1) (RelKT.cut hp q z.2)
theorem RelF.cut (hp : r <+: r1) : ∀ {vs : List (Str × V)} {xs : List (Str × D)}, RelF K mg r1 H vs xs → (xs.all fun p => p.2.lt r.length) = true → RelF K mg r H vs xs
  | _, _, .nil, _ => .nil
  | _, _, .cons h q, z => by
    simp only [List.all_cons, Bool.and_eq_true] at z
    exact .cons (h.cut hp z.1) (RelF.cut hp q z.2)
theorem RelSl.cut (hp : r <+: r1) : ∀ {vs : List (Option V)} {xs : List (Option D)}, RelSl K mg r1 H vs xs → (xs.all fun p => p.all (D.lt r.length)) = true → RelSl K mg r H vs xs
  | _, _, .nil, _ => .nil
  | _, _, .some h q, z => by
    simp only [List.all_cons, Bool.and_eq_true, Option.all_some] at z
    exact .some (h.cut hp z.1) (RelSl.cut hp q z.2)
  | _, _, .none q, z => by
    simp only [List.all_cons, Bool.and_eq_true] at z
    exact .none (RelSl.cut hp q z.2)
theorem RelK.lt : ∀ {vs : List (Key × V)} {xs : List (Key × D)}, RelK K mg r H vs xs → (xs.all fun p => p.2.lt r.length) = true
  | _, _, .nil => rfl
  | _, _, .cons h q => by simp only [List.all_cons, Bool.and_eq_true]; exact ⟨h.lt, RelK.lt q⟩
theorem RelKT.lt : ∀ {vs : List (List Key × V)} {xs : List (List Key × D)}, RelKT K mg r H vs xs → (xs.all fun p => p.2.lt r.length) = true
  | _, _, .nil => rfl
  | _, _, .cons h q => by simp only [List.all_cons, Bool.and_eq_true]; exact ⟨h.lt, RelKT.lt q⟩
theorem RelF.lt : ∀ {vs : List (Str × V)} {xs : List (Str × D)}, RelF K mg r H vs xs → (xs.all fun p => p.2.lt r.length) = true
  | _, _, .nil => rfl
  | _, _, .cons h q => by simp only [List.all_cons, Bool.and_eq_true]; exact ⟨h.lt, RelF.lt q⟩
theorem RelSl.lt : ∀ {vs : List (Option V)} {xs : List (Option D)}, RelSl K mg r H vs xs → (xs.all fun p => p.all (D.lt r.length)) = true
  | _, _, .nil => rfl
  | _, _, .some h q => by simp only [List.all_cons, Bool.and_eq_true, Option.all_some]; exact ⟨h.lt, RelSl.lt q⟩
  | _, _, .none q => by simp only [List.all_cons, Bool.and_eq_true, Option.all_none]; exact ⟨trivial, RelSl.lt q⟩
theorem ORel.lt {a : Addr} {o : AO} (q : ORel K mg r H a o) : o.lt r.length = true := by
  cases o with
  | lst xs => obtain ⟨vs, _, h⟩ := q; exact h.lt
  | dk xs => obtain ⟨vs, _, h⟩ := q; exact h.lt
  | dt xs => obtain ⟨vs, _, h⟩ := q; exact h.lt
  | ins c fs => obtain ⟨C, dx, vs, _, _, _, _, h⟩ := q; exact h.lt
  | sins c fs => obtain ⟨C, dx, vs, _, _, _, _, h⟩ := q; exact h.lt
  | fz xs => obtain ⟨u, vs, _, h⟩ := q; exact h.lt
theorem ORel.cut {a : Addr} {o : AO} (hp : r <+: r1) (q : ORel K mg r1 H a o) (z : o.lt r.length = true) : ORel K mg r H a o := by
  cases o with
  | lst xs => obtain ⟨vs, h1, h⟩ := q; exact ⟨vs, h1, h.cut hp z⟩
  | dk xs => obtain ⟨vs, h1, h⟩ := q; exact ⟨vs, h1, h.cut hp z⟩
  | dt xs => obtain ⟨vs, h1, h⟩ := q; exact ⟨vs, h1, h.cut hp z⟩
  | ins c fs => obtain ⟨C, dx, vs, h1, h2, h3, h4, h⟩ := q; exact ⟨C, dx, vs, h1, h2, h3, fun z => h4 (hp.subset z), h.cut hp z⟩
  | sins c fs => obtain ⟨C, dx, vs, h1, h2, h3, h4, h⟩ := q; exact ⟨C, dx, vs, h1, h2, h3, fun z => h4 (hp.subset z), h.cut hp z⟩
  | fz xs => obtain ⟨u, vs, h1, h⟩ := q; exact ⟨u, vs, h1, h.cut hp z⟩
def oldOk (n : Nat) : AH → AH → Bool
  | [], _ => true
  | _ :: _, [] => false
  | o :: h, o' :: h' => (decide (o' = o) || o'.lt n) && oldOk n h h'
theorem oldOk_get {n : Nat} : ∀ {h h' : AH} {i : Nat} {o : AO}, oldOk n h h' = true → i < h.length → h'[i]? = some o → (h[i]? = some o ∨ o.lt n = true)
  | [], _, i, _, _, hi, _ => absurd hi (Nat.not_lt_zero _)
  | _ :: _, [], _, _, z, _, _ => by simp [oldOk] at z
  | a :: h, b :: h', 0, o, z, _, e => by
    simp only [oldOk, Bool.and_eq_true, Bool.or_eq_true, decide_eq_true_eq] at z
    simp at e; subst e
    rcases z.1 with q | q
    · left; rw [q]; rfl
    · exact .inr q
  | a :: h, b :: h', i + 1, o, z, hi, e => by
    simp only [oldOk, Bool.and_eq_true] at z
    have := oldOk_get (i := i) (o := o) z.2 (by simpa using hi) (by simpa using e)
    simpa using this
theorem HRel.cutOld {h h1 : AH} {H0 : Hp} (q0 : HRel K mg r h H0) (q : HRel K mg r1 h1 H) (hp : r <+: r1) (z : oldOk r.length h h1 = true) : HRel K mg r (h1.take r.length) H := by
  refine q.cut hp fun i o a e1 e2 => ?_
  have hi : i < r.length := (List.getElem?_eq_some_iff.mp e2).1
  have e3 : h1[i]? = some o := by rw [List.getElem?_take] at e1; split at e1 <;> first | exact e1 | cases e1
  have e4 : r1[i]? = some a := by obtain ⟨t, rfl⟩ := hp; rw [List.getElem?_append_left hi]; exact e2
  refine (q.obj i o a e3 e4).cut hp ?_
  rcases oldOk_get z (by rw [← q0.len]; exact hi) e3 with y | y
  · exact (q0.obj i o a y e2).lt
  · exact y
end
end BW

set_option Elab.async false
set_option linter.all false
set_option maxRecDepth 100000
set_option maxHeartbeats 4000000
namespace BW
open PySem PySem.Spec PyProof.Rows L2
variable [Tb]
theorem nrfl0 {α : Sort u} {a b : α} (h : a = b) : a = b := h
inductive Out (α : Type) where
  | stuck
  | ok (a : α) (h : AH)
  | exc (x : D) (h : AH)
def Out.bind {α β : Type} (o : Out α) (f : α → AH → Out β) : Out β :=
  match o with
  | .stuck => .stuck
  | .ok a h => f a h
  | .exc x h => .exc x h
@[simp] theorem Out.bind_ok {α β : Type} (a : α) (h : AH) (f : α → AH → Out β) : (Out.ok a h).bind f = f a h := nrfl0 rfl
abbrev Ev := Env → AH → Out D
abbrev Tv := Env → AH → Out Bool
abbrev Av := Env → AH → Out (List D)
abbrev Fd := List D → AH → Out D
inductive Fl where
  | stuck
  | nx (e : Env) (h : AH)
  | ret (d : D) (h : AH)
  | brk (e : Env) (h : AH)
  | cont (e : Env) (h : AH)
  | exc (x : D) (e : Env) (h : AH)
abbrev Sv := Env → AH → Fl
abbrev Wx := Value → Option Addr → L2.St → Hp → Prop
section
variable (K : PySem.W.Frag) (mg : Str → Option Value)
inductive RelT (H0 : Hp) (r : List Addr) (H : Hp) : V → D → Prop
  | val {v : V} {d : D} : Rel K mg r H v d → RelT H0 r H v d
  | tl {p : Addr} {vs : List V} {xs : List D} : Fr H0 p → H p = some (.lst vs) → p ∉ r → Rels K mg r H vs xs → RelT H0 r H (.ref p) (.tl xs)
abbrev RelU (r : List Addr) (H : Hp) : V → D → Prop := RelT K mg (fun _ => none) r H
inductive RelTs (r : List Addr) (H : Hp) : List V → List D → Prop
  | nil : RelTs r H [] []
  | cons {v : V} {d : D} {vs : List V} {ds : List D} : RelU K mg r H v d → RelTs r H vs ds → RelTs r H (v :: vs) (d :: ds)
inductive ExRel (r : List Addr) (H : Hp) : Value → Option Addr → D → Prop
  | e0 {c : Str} {C : Addr} : mg c = some (.ref C) → ExRel r H (.ref C) none (.exc c [])
  | e1 {c f : Str} {C dx : Addr} {v : V} {x : D} : mg c = some (.ref C) → fieldOf c = some f → dx ∉ r → H dx = some (.xd [(f, v)]) → Rel K mg r H v x → ExRel r H (.ref C) (some dx) (.exc c [x])
def OkE (W : Wx) (σ : L2.St) (r : List Addr) (H : Hp) (Q : VK) : Out D → Prop
  | .stuck => False
  | .ok d h' => ∀ v r' H', Step r H r' H' → HRel K mg r' h' H' → RelT K mg H r' H' v d → Q v H'
  | .exc x h' => ∀ c dx r' H', Step r H r' H' → HRel K mg r' h' H' → ExRel K mg r' H' c dx x → W c dx σ H'
def OkT (W : Wx) (σ : L2.St) (r : List Addr) (H : Hp) (Q : Bool → Hp → Prop) : Out Bool → Prop
  | .stuck => False
  | .ok d h' => ∀ r' H', Step r H r' H' → HRel K mg r' h' H' → Q d H'
  | .exc x h' => ∀ c dx r' H', Step r H r' H' → HRel K mg r' h' H' → ExRel K mg r' H' c dx x → W c dx σ H'
def OkA (W : Wx) (σ : L2.St) (r : List Addr) (H : Hp) (Q : List V → Hp → Prop) : Out (List D) → Prop
  | .stuck => False
  | .ok d h' => ∀ v r' H', Step r H r' H' → HRel K mg r' h' H' → RelTs K mg r' H' v d → Q v H'
  | .exc x h' => ∀ c dx r' H', Step r H r' H' → HRel K mg r' h' H' → ExRel K mg r' H' c dx x → W c dx σ H'
def OkS (W : Wx) (r : List Addr) (H : Hp) (N : Ends) : Fl → Prop
  | .stuck => False
  | .nx e' h' => ∀ σ' r' H', Step r H r' H' → ERel K mg r' e' σ' H' → HRel K mg r' h' H' → N.nx σ' H'
  | .ret d h' => ∀ v r' H', Step r H r' H' → HRel K mg r' h' H' → RelT K mg H r' H' v d → N.rt v H'
  | .brk e' h' => ∀ σ' r' H', Step r H r' H' → ERel K mg r' e' σ' H' → HRel K mg r' h' H' → N.bk σ' H'
  | .cont e' h' => ∀ σ' r' H', Step r H r' H' → ERel K mg r' e' σ' H' → HRel K mg r' h' H' → N.ct σ' H'
  | .exc x e' h' => ∀ c dx σ' r' H', Step r H r' H' → ERel K mg r' e' σ' H' → HRel K mg r' h' H' → ExRel K mg r' H' c dx x → W c dx σ' H'
def rdE (W : Wx) (f : Ev) : TE := fun σ H Q => ∃ r e h, ERel K mg r e σ H ∧ HRel K mg r h H ∧ OkE K mg W σ r H Q (f e h)
def rdT (W : Wx) (f : Tv) : TT := fun σ H Q => ∃ r e h, ERel K mg r e σ H ∧ HRel K mg r h H ∧ OkT K mg W σ r H Q (f e h)
def rdA (W : Wx) (f : Av) : TA := fun σ H Q => ∃ r e h, ERel K mg r e σ H ∧ HRel K mg r h H ∧ OkA K mg W σ r H Q (f e h)
def rdS (W : Wx) (f : Sv) : TS := fun N σ H => ∃ r e h, ERel K mg r e σ H ∧ HRel K mg r h H ∧ OkS K mg W r H N (f e h)
end
abbrev DenE (X : Cx) (W : Wx) (e : Expr) (f : Ev) : Prop := PE X e (rdE X.K X.mg W f)
abbrev DenT (X : Cx) (W : Wx) (e : Expr) (f : Tv) : Prop := PT X e (rdT X.K X.mg W f)
abbrev DenA (X : Cx) (W : Wx) (es : List Expr) (f : Av) : Prop := PA X es (rdA X.K X.mg W f)
abbrev DenS (X : Cx) (W : Wx) (st : Stmt) (f : Sv) : Prop := PS X st (rdS X.K X.mg W f)
abbrev DenB (X : Cx) (W : Wx) (st : List Stmt) (f : Sv) : Prop := PSs X st (rdS X.K X.mg W f)
section
variable {X : Cx}
theorem PE.imp {e : Expr} {t t' : TE} (h : PE X e t) (q : ∀ σ H Q, t' σ H Q → t σ H Q) : PE X e t' := ⟨fun pins s σ H Q I z => h.run pins s σ H Q I (q σ H Q z)⟩
theorem PT.imp {e : Expr} {t t' : TT} (h : PT X e t) (q : ∀ σ H Q, t' σ H Q → t σ H Q) : PT X e t' := ⟨fun pins s σ H Q I z => h.run pins s σ H Q I (q σ H Q z)⟩
theorem PW.imp {e : Expr} {t t' : TT} (h : PW X e t) (q : ∀ σ H Q, t' σ H Q → t σ H Q) : PW X e t' := ⟨fun wh pins s σ H Q I z => h.run wh pins s σ H Q I (q σ H Q z)⟩
theorem PA.imp {es : List Expr} {t t' : TA} (h : PA X es t) (q : ∀ σ H Q, t' σ H Q → t σ H Q) : PA X es t' := ⟨fun pos pins s σ H Q I z => h.run pos pins s σ H Q I (q σ H Q z)⟩
theorem PS.imp {st : Stmt} {t t' : TS} (h : PS X st t) (q : ∀ N σ H, t' N σ H → t N σ H) : PS X st t' := ⟨fun pins s σ H N I z => h.run pins s σ H N I (q N σ H z)⟩
theorem PSs.imp {st : List Stmt} {t t' : TS} (h : PSs X st t) (q : ∀ N σ H, t' N σ H → t N σ H) : PSs X st t' := ⟨fun pins s σ H N I z => h.run pins s σ H N I (q N σ H z)⟩
end
section
variable {K : PySem.W.Frag} {mg : Str → Option Value} {W : Wx} {σ : L2.St} {r r' r1 : List Addr} {H H' H1 H0 : Hp} {h : AH} {e : Env}
theorem RelT.mono {v : V} {d : D} (s : Step r H r' H') (q : RelT K mg H0 r H v d) : RelT K mg H0 r' H' v d := by
  cases q with
  | val q => exact .val (q.mono s.mn)
  | tl a b c q => exact .tl a (s.keep _ _ b c NoOwn.of) (s.notin c b NoOwn.of) (q.mono s.mn)
theorem RelT.u {v : V} {d : D} (q : RelT K mg H0 r H v d) : RelU K mg r H v d := by
  cases q with
  | val q => exact .val q
  | tl a b c q => exact .tl (.of rfl) b c q
theorem RelT.back {v : V} {d : D} (s : Step r H r1 H1) (q : RelT K mg H1 r' H' v d) : RelT K mg H r' H' v d := by
  cases q with
  | val q => exact .val q
  | tl a b c q => exact .tl (s.stay _ a) b c q
theorem OkE.after {Q : VK} {o : Out D} (s : Step r H r1 H1) (q : OkE K mg W σ r H Q o) : OkE K mg W σ r1 H1 Q o := by
  cases o with
  | stuck => exact q
  | ok d h' => exact fun v r' H' s' hr t => q v r' H' (s.trans s') hr (t.back s)
  | exc x h' => exact fun c dx r' H' s' hr t => q c dx r' H' (s.trans s') hr t
theorem OkT.after {Q : Bool → Hp → Prop} {o : Out Bool} (s : Step r H r1 H1) (q : OkT K mg W σ r H Q o) : OkT K mg W σ r1 H1 Q o := by
  cases o with
  | stuck => exact q
  | ok d h' => exact fun r' H' s' hr => q r' H' (s.trans s') hr
  | exc x h' => exact fun c dx r' H' s' hr t => q c dx r' H' (s.trans s') hr t
theorem OkA.after {Q : List V → Hp → Prop} {o : Out (List D)} (s : Step r H r1 H1) (q : OkA K mg W σ r H Q o) : OkA K mg W σ r1 H1 Q o := by
  cases o with
  | stuck => exact q
  | ok d h' => exact fun v r' H' s' hr t => q v r' H' (s.trans s') hr t
  | exc x h' => exact fun c dx r' H' s' hr t => q c dx r' H' (s.trans s') hr t
theorem OkS.after {N : Ends} {o : Fl} (s : Step r H r1 H1) (q : OkS K mg W r H N o) : OkS K mg W r1 H1 N o := by
  cases o with
  | stuck => exact q
  | nx e' h' => exact fun σ' r' H' s' => q σ' r' H' (s.trans s')
  | brk e' h' => exact fun σ' r' H' s' => q σ' r' H' (s.trans s')
  | cont e' h' => exact fun σ' r' H' s' => q σ' r' H' (s.trans s')
  | ret d h' => exact fun v r' H' s' hr t => q v r' H' (s.trans s') hr (t.back s)
  | exc x e' h' => exact fun c dx σ' r' H' s' => q c dx σ' r' H' (s.trans s')
theorem rdE_bind {f : Ev} {k : D → AH → Out D} {Q Q' : VK} (er : ERel K mg r e σ H) (hr : HRel K mg r h H) (ok : OkE K mg W σ r H Q ((f e h).bind k))
    (hk : ∀ d h1 v r1 H1, Step r H r1 H1 → HRel K mg r1 h1 H1 → RelT K mg H r1 H1 v d → ERel K mg r1 e σ H1 → OkE K mg W σ r1 H1 Q (k d h1) → Q' v H1) : rdE K mg W f σ H Q' := by
  refine ⟨r, e, h, er, hr, ?_⟩
  cases hf : f e h with
  | stuck => rw [hf] at ok; exact ok
  | ok d h1 => rw [hf] at ok; exact fun v r1 H1 s q t => hk d h1 v r1 H1 s q t (er.mono s.mn) (OkE.after s ok)
  | exc x h1 => rw [hf] at ok; exact ok
theorem rdE_bindT {f : Ev} {k : D → AH → Out Bool} {Q : Bool → Hp → Prop} {Q' : VK} (er : ERel K mg r e σ H) (hr : HRel K mg r h H) (ok : OkT K mg W σ r H Q ((f e h).bind k))
    (hk : ∀ d h1 v r1 H1, Step r H r1 H1 → HRel K mg r1 h1 H1 → RelT K mg H r1 H1 v d → ERel K mg r1 e σ H1 → OkT K mg W σ r1 H1 Q (k d h1) → Q' v H1) : rdE K mg W f σ H Q' := by
  refine ⟨r, e, h, er, hr, ?_⟩
  cases hf : f e h with
  | stuck => rw [hf] at ok; exact ok
  | ok d h1 => rw [hf] at ok; exact fun v r1 H1 s q t => hk d h1 v r1 H1 s q t (er.mono s.mn) (OkT.after s ok)
  | exc x h1 => rw [hf] at ok; exact ok
theorem rdT_bindT {f : Tv} {k : Bool → AH → Out Bool} {Q Q' : Bool → Hp → Prop} (er : ERel K mg r e σ H) (hr : HRel K mg r h H) (ok : OkT K mg W σ r H Q ((f e h).bind k))
    (hk : ∀ d h1 r1 H1, Step r H r1 H1 → HRel K mg r1 h1 H1 → ERel K mg r1 e σ H1 → OkT K mg W σ r1 H1 Q (k d h1) → Q' d H1) : rdT K mg W f σ H Q' := by
  refine ⟨r, e, h, er, hr, ?_⟩
  cases hf : f e h with
  | stuck => rw [hf] at ok; exact ok
  | ok d h1 => rw [hf] at ok; exact fun r1 H1 s q => hk d h1 r1 H1 s q (er.mono s.mn) (OkT.after s ok)
  | exc x h1 => rw [hf] at ok; exact ok
theorem rdT_bindE {f : Tv} {k : Bool → AH → Out D} {Q : VK} {Q' : Bool → Hp → Prop} (er : ERel K mg r e σ H) (hr : HRel K mg r h H) (ok : OkE K mg W σ r H Q ((f e h).bind k))
    (hk : ∀ d h1 r1 H1, Step r H r1 H1 → HRel K mg r1 h1 H1 → ERel K mg r1 e σ H1 → OkE K mg W σ r1 H1 Q (k d h1) → Q' d H1) : rdT K mg W f σ H Q' := by
  refine ⟨r, e, h, er, hr, ?_⟩
  cases hf : f e h with
  | stuck => rw [hf] at ok; exact ok
  | ok d h1 => rw [hf] at ok; exact fun r1 H1 s q => hk d h1 r1 H1 s q (er.mono s.mn) (OkE.after s ok)
  | exc x h1 => rw [hf] at ok; exact ok
theorem rdE_bindA {f : Ev} {k : D → AH → Out (List D)} {Q : List V → Hp → Prop} {Q' : VK} (er : ERel K mg r e σ H) (hr : HRel K mg r h H) (ok : OkA K mg W σ r H Q ((f e h).bind k))
    (hk : ∀ d h1 v r1 H1, Step r H r1 H1 → HRel K mg r1 h1 H1 → RelT K mg H r1 H1 v d → ERel K mg r1 e σ H1 → OkA K mg W σ r1 H1 Q (k d h1) → Q' v H1) : rdE K mg W f σ H Q' := by
  refine ⟨r, e, h, er, hr, ?_⟩
  cases hf : f e h with
  | stuck => rw [hf] at ok; exact ok
  | ok d h1 => rw [hf] at ok; exact fun v r1 H1 s q t => hk d h1 v r1 H1 s q t (er.mono s.mn) (OkA.after s ok)
  | exc x h1 => rw [hf] at ok; exact ok
theorem rdA_bindA {f : Av} {k : List D → AH → Out (List D)} {Q Q' : List V → Hp → Prop} (er : ERel K mg r e σ H) (hr : HRel K mg r h H) (ok : OkA K mg W σ r H Q ((f e h).bind k))
    (hk : ∀ d h1 v r1 H1, Step r H r1 H1 → HRel K mg r1 h1 H1 → RelTs K mg r1 H1 v d → ERel K mg r1 e σ H1 → OkA K mg W σ r1 H1 Q (k d h1) → Q' v H1) : rdA K mg W f σ H Q' := by
  refine ⟨r, e, h, er, hr, ?_⟩
  cases hf : f e h with
  | stuck => rw [hf] at ok; exact ok
  | ok d h1 => rw [hf] at ok; exact fun v r1 H1 s q t => hk d h1 v r1 H1 s q t (er.mono s.mn) (OkA.after s ok)
  | exc x h1 => rw [hf] at ok; exact ok
theorem rdA_bindE {f : Av} {k : List D → AH → Out D} {Q : VK} {Q' : List V → Hp → Prop} (er : ERel K mg r e σ H) (hr : HRel K mg r h H) (ok : OkE K mg W σ r H Q ((f e h).bind k))
    (hk : ∀ d h1 v r1 H1, Step r H r1 H1 → HRel K mg r1 h1 H1 → RelTs K mg r1 H1 v d → ERel K mg r1 e σ H1 → OkE K mg W σ r1 H1 Q (k d h1) → Q' v H1) : rdA K mg W f σ H Q' := by
  refine ⟨r, e, h, er, hr, ?_⟩
  cases hf : f e h with
  | stuck => rw [hf] at ok; exact ok
  | ok d h1 => rw [hf] at ok; exact fun v r1 H1 s q t => hk d h1 v r1 H1 s q t (er.mono s.mn) (OkE.after s ok)
  | exc x h1 => rw [hf] at ok; exact ok
def Out.toFl {α : Type} (o : Out α) (e : Env) (k : α → AH → Fl) : Fl :=
  match o with
  | .stuck => .stuck
  | .ok a h => k a h
  | .exc x h => .exc x e h
@[simp] theorem Out.toFl_ok {α : Type} (a : α) (h : AH) (e : Env) (k : α → AH → Fl) : (Out.ok a h).toFl e k = k a h := nrfl0 rfl
theorem rdE_bindS {f : Ev} {k : D → AH → Fl} {N : Ends} {Q' : VK} (er : ERel K mg r e σ H) (hr : HRel K mg r h H) (ok : OkS K mg W r H N ((f e h).toFl e k))
    (hk : ∀ d h1 v r1 H1, Step r H r1 H1 → HRel K mg r1 h1 H1 → RelT K mg H r1 H1 v d → ERel K mg r1 e σ H1 → OkS K mg W r1 H1 N (k d h1) → Q' v H1) : rdE K mg W f σ H Q' := by
  refine ⟨r, e, h, er, hr, ?_⟩
  cases hf : f e h with
  | stuck => rw [hf] at ok; exact ok
  | ok d h1 => rw [hf] at ok; exact fun v r1 H1 s q t => hk d h1 v r1 H1 s q t (er.mono s.mn) (OkS.after s ok)
  | exc x h1 => rw [hf] at ok; exact fun c dx r' H' s q t => ok c dx σ r' H' s (er.mono s.mn) q t
theorem rdT_bindS {f : Tv} {k : Bool → AH → Fl} {N : Ends} {Q' : Bool → Hp → Prop} (er : ERel K mg r e σ H) (hr : HRel K mg r h H) (ok : OkS K mg W r H N ((f e h).toFl e k))
    (hk : ∀ d h1 r1 H1, Step r H r1 H1 → HRel K mg r1 h1 H1 → ERel K mg r1 e σ H1 → OkS K mg W r1 H1 N (k d h1) → Q' d H1) : rdT K mg W f σ H Q' := by
  refine ⟨r, e, h, er, hr, ?_⟩
  cases hf : f e h with
  | stuck => rw [hf] at ok; exact ok
  | ok d h1 => rw [hf] at ok; exact fun r1 H1 s q => hk d h1 r1 H1 s q (er.mono s.mn) (OkS.after s ok)
  | exc x h1 => rw [hf] at ok; exact fun c dx r' H' s q t => ok c dx σ r' H' s (er.mono s.mn) q t
end
section
variable {X : Cx} {W : Wx}
def evVar (i : Nat) : Ev := fun e h => match e[i]? with
  | some (some d) => .ok d h
  | _ => .stuck
theorem den_var {i : Nat} {x : Str} {pos : Pos} (hN : X.N[i]? = some x) (hv : Vis X.env.scope x) (hd : (x == ("__debug__" : Str)) = false := by decide) (hcd : (x == ("__classdict__" : Str)) = false := by decide) : DenE X W (.Name x pos) (evVar i) :=
  PE.imp (pe_var hN hv hd hcd) fun σ H Q ⟨r, e, h, er, hr, ok⟩ => by
    unfold evVar at ok
    split at ok
    · rename_i d hd
      obtain ⟨v, h1, h2⟩ := er.at_ i d hd
      exact ⟨v, h1, ok v r H (Step.refl r H) hr (.val h2)⟩
    · exact ok.elim
def evC (d : D) : Ev := fun _ h => .ok d h
theorem den_int {i : Int} {j pos} : DenE X W (.Constant (.int i) j pos) (evC (.int i)) := PE.imp pe_int fun σ H Q ⟨r, e, h, er, hr, ok⟩ => ok _ r H (Step.refl r H) hr (.val (.int i))
theorem den_bl {b : Bool} {j pos} : DenE X W (.Constant (.bool b) j pos) (evC (.bl b)) := PE.imp pe_bl fun σ H Q ⟨r, e, h, er, hr, ok⟩ => ok _ r H (Step.refl r H) hr (.val (.bl b))
theorem den_non {j pos} : DenE X W (.Constant .none j pos) (evC .non) := PE.imp pe_non fun σ H Q ⟨r, e, h, er, hr, ok⟩ => ok _ r H (Step.refl r H) hr (.val .non)
theorem den_str {x : Str} {j pos} : DenE X W (.Constant (.str x) j pos) (evC (.str x)) := PE.imp pe_str fun σ H Q ⟨r, e, h, er, hr, ok⟩ => ok _ r H (Step.refl r H) hr (.val (.str x))
theorem den_glob {x : Str} {v : V} {u : Value} {d : D} {pos : Pos} (hg : Gl X x) (hm : X.mg x = some u) (rv : RelV v u) (hd : ∀ r H, Rel X.K X.mg r H v d) (hdb : (x == ("__debug__" : Str)) = false := by decide) : DenE X W (.Name x pos) (evC d) :=
  PE.imp (pe_glob hg hm rv hdb) fun σ H Q ⟨r, e, h, er, hr, ok⟩ => ok _ r H (Step.refl r H) hr (.val (hd r H))
def promote (d : D) (h : AH) : Out D := match d with
  | .tl xs => .ok (.ref h.length) (h ++ [.lst xs])
  | d => .ok d h
def pv (f : Ev) : Ev := fun e h => (f e h).bind promote
theorem Step.push {r : List Addr} {H : Hp} {p : Addr} (hp : p ∉ r) {H0 : Hp} {r0 : List Addr} (s : Step r0 H0 r H) (h0 : Fr H0 p) : Step r0 H0 (r ++ [p]) H where
  pre := s.pre.trans (List.prefix_append _ _)
  new := fun a ha hn => by
    rcases List.mem_append.mp ha with z | z
    · exact s.new a z hn
    · rw [List.mem_singleton] at z; rw [z]; exact h0
  keep := s.keep
  stay := s.stay
  frz := s.frz
theorem push_ok {K : PySem.W.Frag} {mg : Str → Option Value} {r : List Addr} {H : Hp} {h : AH} {p : Addr} {vs : List V} {xs : List D} (hr : HRel K mg r h H) (b : H p = some (.lst vs)) (c : p ∉ r) (q : Rels K mg r H vs xs) :
    HRel K mg (r ++ [p]) (h ++ [.lst xs]) H ∧ Rel K mg (r ++ [p]) H (.ref p) (.ref h.length) := by
  have m : Mo r H (r ++ [p]) H := Mo.push b (fun z => z) NoOwn.of
  have hl : (r ++ [p])[h.length]? = some p := by rw [← hr.len, List.getElem?_append_right (Nat.le_refl _), Nat.sub_self]; rfl
  exact ⟨hr.push (ob := .lst xs) c m ⟨vs, b, q.mono m.toMn⟩, .ref hl⟩
end
section
variable (K : PySem.W.Frag) (mg : Str → Option Value)
def OkV (W : Wx) (σ : L2.St) (r : List Addr) (H : Hp) (Q : VK) : Out D → Prop
  | .stuck => False
  | .ok d h' => ∀ v r' H', Step r H r' H' → HRel K mg r' h' H' → Rel K mg r' H' v d → Q v H'
  | .exc x h' => ∀ c dx r' H', Step r H r' H' → HRel K mg r' h' H' → ExRel K mg r' H' c dx x → W c dx σ H'
def OkVs (W : Wx) (σ : L2.St) (r : List Addr) (H : Hp) (Q : List V → Hp → Prop) : Out (List D) → Prop
  | .stuck => False
  | .ok d h' => ∀ v r' H', Step r H r' H' → HRel K mg r' h' H' → Rels K mg r' H' v d → Q v H'
  | .exc x h' => ∀ c dx r' H', Step r H r' H' → HRel K mg r' h' H' → ExRel K mg r' H' c dx x → W c dx σ H'
def rdV (W : Wx) (f : Ev) : TE := fun σ H Q => ∃ r e h, ERel K mg r e σ H ∧ HRel K mg r h H ∧ OkV K mg W σ r H Q (f e h)
def rdVs (W : Wx) (f : Av) : TA := fun σ H Q => ∃ r e h, ERel K mg r e σ H ∧ HRel K mg r h H ∧ OkVs K mg W σ r H Q (f e h)
end
section
variable {K : PySem.W.Frag} {mg : Str → Option Value} {W : Wx} {σ : L2.St} {r r' r1 : List Addr} {H H' H1 H0 : Hp} {h : AH} {e : Env}
theorem OkVs.after {Q : List V → Hp → Prop} {o : Out (List D)} (s : Step r H r1 H1) (q : OkVs K mg W σ r H Q o) : OkVs K mg W σ r1 H1 Q o := by
  cases o with
  | stuck => exact q
  | ok d h' => exact fun v r' H' s' hr t => q v r' H' (s.trans s') hr t
  | exc x h' => exact fun c dx r' H' s' hr t => q c dx r' H' (s.trans s') hr t
theorem rdV_then {f : Ev} {Q' : VK} (er : ERel K mg r e σ H) (hr : HRel K mg r h H) (h0 : f e h ≠ .stuck) (hx : ∀ x h1, f e h = .exc x h1 → ∀ c dx r' H', Step r H r' H' → HRel K mg r' h1 H' → ExRel K mg r' H' c dx x → W c dx σ H')
    (hk : ∀ d h1 v r1 H1, f e h = .ok d h1 → Step r H r1 H1 → HRel K mg r1 h1 H1 → Rel K mg r1 H1 v d → ERel K mg r1 e σ H1 → Q' v H1) : rdV K mg W f σ H Q' := by
  refine ⟨r, e, h, er, hr, ?_⟩
  cases hf : f e h with
  | stuck => exact absurd hf h0
  | ok d h1 => exact fun v r1 H1 s q t => hk d h1 v r1 H1 hf s q t (er.mono s.mn)
  | exc x h1 => exact hx x h1 hf
theorem rdV_bind {f : Ev} {k : D → AH → Out D} {Q Q' : VK} (er : ERel K mg r e σ H) (hr : HRel K mg r h H) (ok : OkE K mg W σ r H Q ((f e h).bind k))
    (hk : ∀ d h1 v r1 H1, Step r H r1 H1 → HRel K mg r1 h1 H1 → Rel K mg r1 H1 v d → ERel K mg r1 e σ H1 → OkE K mg W σ r1 H1 Q (k d h1) → Q' v H1) : rdV K mg W f σ H Q' :=
  rdV_then er hr (fun z => by rw [z] at ok; exact ok) (fun x h1 z => by rw [z] at ok; exact ok) fun d h1 v r1 H1 z s q t e1 => hk d h1 v r1 H1 s q t e1 (by rw [z] at ok; exact OkE.after s ok)
theorem rdV_bindVs {f : Ev} {k : D → AH → Out (List D)} {Q : List V → Hp → Prop} {Q' : VK} (er : ERel K mg r e σ H) (hr : HRel K mg r h H) (ok : OkVs K mg W σ r H Q ((f e h).bind k))
    (hk : ∀ d h1 v r1 H1, Step r H r1 H1 → HRel K mg r1 h1 H1 → Rel K mg r1 H1 v d → ERel K mg r1 e σ H1 → OkVs K mg W σ r1 H1 Q (k d h1) → Q' v H1) : rdV K mg W f σ H Q' :=
  rdV_then er hr (fun z => by rw [z] at ok; exact ok) (fun x h1 z => by rw [z] at ok; exact ok) fun d h1 v r1 H1 z s q t e1 => hk d h1 v r1 H1 s q t e1 (by rw [z] at ok; exact OkVs.after s ok)
theorem rdV_bindS {f : Ev} {k : D → AH → Fl} {N : Ends} {Q' : VK} (er : ERel K mg r e σ H) (hr : HRel K mg r h H) (ok : OkS K mg W r H N ((f e h).toFl e k))
    (hk : ∀ d h1 v r1 H1, Step r H r1 H1 → HRel K mg r1 h1 H1 → Rel K mg r1 H1 v d → ERel K mg r1 e σ H1 → OkS K mg W r1 H1 N (k d h1) → Q' v H1) : rdV K mg W f σ H Q' :=
  rdV_then er hr (fun z => by rw [z] at ok; exact ok) (fun x h1 z => by rw [z] at ok; exact fun c dx r' H' s q t => ok c dx σ r' H' s (er.mono s.mn) q t) fun d h1 v r1 H1 z s q t e1 => hk d h1 v r1 H1 s q t e1 (by rw [z] at ok; exact OkS.after s ok)
theorem rdVs_bind {f : Av} {k : List D → AH → Out D} {Q : VK} {Q' : List V → Hp → Prop} (er : ERel K mg r e σ H) (hr : HRel K mg r h H) (ok : OkE K mg W σ r H Q ((f e h).bind k))
    (hk : ∀ d h1 v r1 H1, Step r H r1 H1 → HRel K mg r1 h1 H1 → Rels K mg r1 H1 v d → ERel K mg r1 e σ H1 → OkE K mg W σ r1 H1 Q (k d h1) → Q' v H1) : rdVs K mg W f σ H Q' := by
  refine ⟨r, e, h, er, hr, ?_⟩
  cases hf : f e h with
  | stuck => rw [hf] at ok; exact ok
  | ok d h1 => rw [hf] at ok; exact fun v r1 H1 s q t => hk d h1 v r1 H1 s q t (er.mono s.mn) (OkE.after s ok)
  | exc x h1 => rw [hf] at ok; exact ok
theorem rdVs_bindVs {f : Av} {k : List D → AH → Out (List D)} {Q Q' : List V → Hp → Prop} (er : ERel K mg r e σ H) (hr : HRel K mg r h H) (ok : OkVs K mg W σ r H Q ((f e h).bind k))
    (hk : ∀ d h1 v r1 H1, Step r H r1 H1 → HRel K mg r1 h1 H1 → Rels K mg r1 H1 v d → ERel K mg r1 e σ H1 → OkVs K mg W σ r1 H1 Q (k d h1) → Q' v H1) : rdVs K mg W f σ H Q' := by
  refine ⟨r, e, h, er, hr, ?_⟩
  cases hf : f e h with
  | stuck => rw [hf] at ok; exact ok
  | ok d h1 => rw [hf] at ok; exact fun v r1 H1 s q t => hk d h1 v r1 H1 s q t (er.mono s.mn) (OkVs.after s ok)
  | exc x h1 => rw [hf] at ok; exact ok
end
abbrev DenV (X : Cx) (W : Wx) (e : Expr) (f : Ev) : Prop := PE X e (rdV X.K X.mg W f)
abbrev DenVs (X : Cx) (W : Wx) (es : List Expr) (f : Av) : Prop := PA X es (rdVs X.K X.mg W f)
section
variable {X : Cx} {W : Wx}
theorem den_pv {ex : Expr} {f : Ev} (hf : DenE X W ex f) : DenV X W ex (pv f) := PE.imp hf fun σ H Q ⟨r, e, h, er, hr, ok⟩ => by
  unfold pv at ok
  refine ⟨r, e, h, er, hr, ?_⟩
  cases hf : f e h with
  | stuck => rw [hf] at ok; exact ok
  | exc x h1 => rw [hf] at ok; exact ok
  | ok d h1 =>
    rw [hf] at ok
    intro v r1 H1 s hr1 t
    cases t with
    | @val v d q =>
      have e : promote d h1 = .ok d h1 := by cases q <;> rfl
      rw [Out.bind_ok, e] at ok
      exact ok v r1 H1 s hr1 q
    | @tl p vs xs a b c q =>
      obtain ⟨g1, g2⟩ := push_ok hr1 b c q
      exact ok _ _ _ (Step.push c s a) g1 g2
def evs : List Ev → Av
  | [], _, h => .ok [] h
  | f :: fs, e, h => (f e h).bind fun d h1 => (evs fs e h1).bind fun ds h2 => .ok (d :: ds) h2
def evsV : List Ev → Av
  | [], _, h => .ok [] h
  | f :: fs, e, h => (pv f e h).bind fun d h1 => (evsV fs e h1).bind fun ds h2 => .ok (d :: ds) h2
theorem den_nil : DenA X W [] (evs []) := PA.imp pa_nil fun σ H Q ⟨r, e, h, er, hr, ok⟩ => ok _ r H (Step.refl r H) hr .nil
theorem den_cons {ex : Expr} {es : List Expr} {f : Ev} {fs : List Ev} (hf : DenE X W ex f) (hfs : DenA X W es (evs fs)) (hs : starEach (ex :: es) X.env = (false, eval ex X.env) :: starEach es X.env := by rfl) : DenA X W (ex :: es) (evs (f :: fs)) :=
  PA.imp (pa_cons hf hfs hs) fun σ H Q ⟨r, e, h, er, hr, ok⟩ => by
    unfold evs at ok
    refine rdE_bindA er hr ok fun d h1 v r1 H1 s1 hr1 t1 er1 ok1 => ?_
    refine rdA_bindA er1 hr1 ok1 fun ds h2 vs r2 H2 s2 hr2 t2 er2 ok2 => ?_
    exact ok2 _ r2 H2 (Step.refl _ _) hr2 (.cons (t1.mono s2).u t2)
theorem den_nilV : DenVs X W [] (evsV []) := PA.imp pa_nil fun σ H Q ⟨r, e, h, er, hr, ok⟩ => ok _ r H (Step.refl r H) hr .nil
theorem den_consV {ex : Expr} {es : List Expr} {f : Ev} {fs : List Ev} (hf : DenE X W ex f) (hfs : DenVs X W es (evsV fs)) (hs : starEach (ex :: es) X.env = (false, eval ex X.env) :: starEach es X.env := by rfl) : DenVs X W (ex :: es) (evsV (f :: fs)) :=
  PA.imp (pa_cons (den_pv hf) hfs hs) fun σ H Q ⟨r, e, h, er, hr, ok⟩ => by
    unfold evsV at ok
    refine rdV_bindVs er hr ok fun d h1 v r1 H1 s1 hr1 t1 er1 ok1 => ?_
    refine rdVs_bindVs er1 hr1 ok1 fun ds h2 vs r2 H2 s2 hr2 t2 er2 ok2 => ?_
    exact ok2 _ r2 H2 (Step.refl _ _) hr2 (.cons (t1.mono s2.mn) t2)
def evTup (fs : List Ev) : Ev := fun e h => (evsV fs e h).bind fun ds h1 => if ds.length ≤ 16777216 then .ok (.tup ds) h1 else .stuck
def evLst (fs : List Ev) : Ev := fun e h => (evsV fs e h).bind fun ds h1 => if ds.length ≤ 16777216 then .ok (.tl ds) h1 else .stuck
theorem den_tup {es : List Expr} {fs : List Ev} {k : Nat} {pos : Pos} (h : DenVs X W es (evsV fs)) : DenE X W (.Tuple es k pos) (evTup fs) := PE.imp (pe_tup h) fun σ H Q ⟨r, e, h, er, hr, ok⟩ => by
  unfold evTup at ok
  refine rdVs_bind er hr ok fun ds h1 vs r1 H1 s1 hr1 t1 er1 ok1 => ?_
  split at ok1
  · rename_i hz
    refine ⟨by rw [t1.length]; exact hz, fun p hp => ?_⟩
    have s2 : Step r1 H1 r1 (upd H1 p (.tup vs)) := Step.alloc hp
    exact ok1 _ r1 _ s2 (hr1.alloc hp) (.val (.tup ⟨fun z => hr1.there z hp, upd_same⟩ (t1.mono s2.mn)))
  · exact ok1.elim
theorem den_lst {es : List Expr} {fs : List Ev} {pos : Pos} (h : DenVs X W es (evsV fs)) : DenE X W (.List es pos) (evLst fs) := PE.imp (pe_lst h) fun σ H Q ⟨r, e, h, er, hr, ok⟩ => by
  unfold evLst at ok
  refine rdVs_bind er hr ok fun ds h1 vs r1 H1 s1 hr1 t1 er1 ok1 => ?_
  split at ok1
  · rename_i hz
    refine ⟨by rw [t1.length]; exact hz, fun p hp => ?_⟩
    have s2 : Step r1 H1 r1 (upd H1 p (.lst vs)) := Step.alloc hp
    exact ok1 _ r1 _ s2 (hr1.alloc hp) (.tl (.of hp) upd_same (fun z => hr1.there z hp) (t1.mono s2.mn))
  · exact ok1.elim
end
end BW

set_option Elab.async false
set_option linter.all false
set_option maxRecDepth 100000
set_option maxHeartbeats 4000000
namespace BW
open PySem PySem.Spec PyProof.Rows L2
variable [Tb]
def ofO (o : Option D) (h : AH) : Out D := match o with
  | some d => .ok d h
  | none => .stuck
theorem nrfl {α : Sort u} {a b : α} (h : a = b) : a = b := h
@[simp] theorem ofO_some (d : D) (h : AH) : ofO (some d) h = .ok d h := nrfl rfl
section
variable (K : PySem.W.Frag) (mg : Str → Option Value)
def rdO (g : AH → D → D → Option D) : R2 := fun x y H Q => ∃ r h dx dy d, HRel K mg r h H ∧ RelU K mg r H x dx ∧ RelU K mg r H y dy ∧ g h dx dy = some d ∧ ∀ v H', Step r H r H' → HRel K mg r h H' → RelT K mg H r H' v d → Q v H'
def rdC (g : AH → List D → Option D) : List V → Hp → VK → Prop := fun vs H Q => ∃ r h ds d, HRel K mg r h H ∧ RelTs K mg r H vs ds ∧ g h ds = some d ∧ ∀ v H', Step r H r H' → HRel K mg r h H' → RelT K mg H r H' v d → Q v H'
end
abbrev OpD (X : Cx) (f : Value → Value → Sem Value) (g : AH → D → D → Option D) : Prop := OpR X f (rdO X.K X.mg g)
abbrev CallD (X : Cx) (f : Value) (g : AH → List D → Option D) : Prop := CallR X f (rdC X.K X.mg g)
def evOp (g : AH → D → D → Option D) (fa fb : Ev) : Ev := fun e h => (fa e h).bind fun x h1 => (fb e h1).bind fun y h2 => ofO (g h2 x y) h2
def evB (g : AH → List D → Option D) (fs : List Ev) : Ev := fun e h => (evs fs e h).bind fun ds h1 => ofO (g h1 ds) h1
section
variable {X : Cx} {W : Wx}
theorem rdO_of {K : PySem.W.Frag} {mg : Str → Option Value} {g : AH → D → D → Option D} {fa fb : Ev} {σ : L2.St} {H : Hp} {Q : VK} (q : rdE K mg W (evOp g fa fb) σ H Q) : tOp (rdO K mg g) (rdE K mg W fa) (rdE K mg W fb) σ H Q := by
  obtain ⟨r, e, h, er, hr, ok⟩ := q
  unfold evOp at ok
  refine rdE_bind er hr ok fun x h1 v r1 H1 s1 hr1 t1 er1 ok1 => ?_
  refine rdE_bind er1 hr1 ok1 fun y h2 w r2 H2 s2 hr2 t2 er2 ok2 => ?_
  cases hg : g h2 x y with
  | none => rw [hg] at ok2; exact ok2.elim
  | some d =>
    rw [hg] at ok2
    exact ⟨r2, h2, x, y, d, hr2, (t1.mono s2).u, t2.u, hg, fun v H' s q t => ok2 v r2 H' s q t⟩
theorem den_op {a b : Expr} {op : Operator} {pos : Pos} {g : AH → D → D → Option D} {fa fb : Ev} (ho : OpD X (binaryOp op) g) (ha : DenE X W a fa) (hb : DenE X W b fb) : DenE X W (.BinOp a op b pos) (evOp g fa fb) :=
  PE.imp (pe_op ho ha hb) fun σ H Q q => rdO_of q
theorem den_cmp {a b : Expr} {op : CmpOp} {pos : Pos} {g : AH → D → D → Option D} {fa fb : Ev} (ho : OpD X (compareOp op) g) (ha : DenE X W a fa) (hb : DenE X W b fb) (hm : behindInMarks op b = false := by first | exact nomark _ | rfl) : DenE X W (.Compare a [op] [b] pos) (evOp g fa fb) :=
  PE.imp (pe_cmpR ho ha hb hm) fun σ H Q q => rdO_of q
theorem rdC_of {K : PySem.W.Frag} {mg : Str → Option Value} {g : AH → List D → Option D} {fs : List Ev} {σ : L2.St} {H : Hp} {Q : VK} (q : rdE K mg W (evB g fs) σ H Q) : tCB (rdC K mg g) (rdA K mg W (evs fs)) σ H Q := by
  obtain ⟨r, e, h, er, hr, ok⟩ := q
  unfold evB at ok
  refine rdA_bindE er hr ok fun x h1 v r1 H1 s1 hr1 t1 er1 ok1 => ?_
  cases hg : g h1 x with
  | none => rw [hg] at ok1; exact ok1.elim
  | some d =>
    rw [hg] at ok1
    exact ⟨r1, h1, x, d, hr1, t1, hg, fun v H' s q t => ok1 v r1 H' s q t⟩
theorem den_callB {x : Str} {id : String} {ex : Expr} {es : List Expr} {p pos : Pos} {g : AH → List D → Option D} {fs : List Ev} (hc : CallD X (.builtin id) g) (hg : Gl X x) (hm : X.mg x = none) (hv : bootBuiltins x = some (.builtin id)) (ha : DenA X W (ex :: es) (evs fs))
    (hn : x ≠ "__name__" := by decide) (hdb : (x == ("__debug__" : Str)) = false := by decide) (he : starEach (ex :: es) X.env = (false, eval ex X.env) :: starEach es X.env := by rfl) (hpl : (backTo pos (starEach es X.env)).any (·.1) = false := by rfl) :
    DenE X W (.Call (.Name x p) (ex :: es) [] pos) (evB g fs) :=
  PE.imp (pe_callB hc hg hm hv ha hn hdb he hpl) fun σ H Q q => rdC_of q
theorem den_callTy {x : Str} {T : String} {ex : Expr} {es : List Expr} {p pos : Pos} {g : AH → List D → Option D} {fs : List Ev} (hc : CallD X (.type T) g) (hg : Gl X x) (hm : X.mg x = none) (hv : bootBuiltins x = some (.type T)) (ha : DenA X W (ex :: es) (evs fs))
    (hn : x ≠ "__name__" := by decide) (hdb : (x == ("__debug__" : Str)) = false := by decide) (he : starEach (ex :: es) X.env = (false, eval ex X.env) :: starEach es X.env := by rfl) (hpl : (backTo pos (starEach es X.env)).any (·.1) = false := by rfl) :
    DenE X W (.Call (.Name x p) (ex :: es) [] pos) (evB g fs) :=
  PE.imp (pe_callTy hc hg hm hv ha hn hdb he hpl) fun σ H Q q => rdC_of q
theorem OpR.or {f : Value → Value → Sem Value} {r1 r2 : R2} (a : OpR X f r1) (b : OpR X f r2) : OpR X f (fun x y H Q => r1 x y H Q ∨ r2 x y H Q) := fun pins s σ H x y v u Q I rx ry q => by
  rcases q with q | q
  · exact a pins s σ H x y v u Q I rx ry q
  · exact b pins s σ H x y v u Q I rx ry q
theorem OpR.imp {f : Value → Value → Sem Value} {r1 r2 : R2} (a : OpR X f r1) (q : ∀ x y H Q, r2 x y H Q → r1 x y H Q) : OpR X f r2 := fun pins s σ H x y v u Q I rx ry z => a pins s σ H x y v u Q I rx ry (q x y H Q z)
theorem CallR.imp {f : Value} {r1 r2 : List V → Hp → VK → Prop} (a : CallR X f r1) (q : ∀ x H Q, r2 x H Q → r1 x H Q) : CallR X f r2 := fun pins s σ H xs us Q I rx z => a pins s σ H xs us Q I rx (q xs H Q z)
theorem RelU.tup_inv {K : PySem.W.Frag} {mg : Str → Option Value} {r : List Addr} {H : Hp} {v : V} {xs : List D} (q : RelU K mg r H v (.tup xs)) : ∃ a vs, v = .ref a ∧ SqTr K H r a vs ∧ Rels K mg r H vs xs := by
  cases q with
  | val q => cases q with
    | tup h1 h2 => exact ⟨_, _, rfl, h1, h2⟩
def lstOf (h : AH) : D → Option (List D)
  | .tl xs => some xs
  | .ref n => match h[n]? with
    | some (.lst xs) => some xs
    | _ => none
  | _ => none
def lstOfR (h : AH) : D → Option (List D)
  | .tl xs => some xs
  | .rl xs => some xs
  | .ref n => match h[n]? with
    | some (.lst xs) => some xs
    | _ => none
  | _ => none
theorem lstOf_inv {K : PySem.W.Frag} {mg : Str → Option Value} {r : List Addr} {h : AH} {H : Hp} {v : V} {d : D} {xs : List D} (hr : HRel K mg r h H) (q : RelU K mg r H v d) (e : lstOf h d = some xs) : ∃ a vs, v = .ref a ∧ H a = some (.lst vs) ∧ Rels K mg r H vs xs := by
  cases q with
  | tl a b c q => cases e; exact ⟨_, _, rfl, b, q⟩
  | val q => cases q with
    | @ref n a hn =>
      simp only [lstOf] at e
      · split at e
        · rename_i ys hy
          cases e
          obtain ⟨vs, h1, h2⟩ := hr.obj _ _ _ hy hn
          exact ⟨_, vs, rfl, h1, h2⟩
        · cases e
    | _ => cases e
theorem lstOfR_inv {K : PySem.W.Frag} {mg : Str → Option Value} {r : List Addr} {h : AH} {H : Hp} {v : V} {d : D} {xs : List D} (hr : HRel K mg r h H) (q : RelU K mg r H v d) (e : lstOfR h d = some xs) : ∃ a vs, v = .ref a ∧ SqL K H a vs ∧ Rels K mg r H vs xs := by
  cases q with
  | tl a b c q => cases e; exact ⟨_, _, rfl, .inl (.inl b), q⟩
  | val q => cases q with
    | @ref n a hn =>
      simp only [lstOfR] at e
      · split at e
        · rename_i ys hy
          cases e
          obtain ⟨vs, h1, h2⟩ := hr.obj _ _ _ hy hn
          exact ⟨_, vs, rfl, .inl (.inl h1), h2⟩
        · cases e
    | rl h1 h2 => cases e; exact ⟨_, _, rfl, h1.sq, h2⟩
    | _ => cases e
theorem newT {K : PySem.W.Frag} {mg : Str → Option Value} {r : List Addr} {h : AH} {H : Hp} {p : Addr} {vs : List V} {xs : List D} {Q : VK} (hr : HRel K mg r h H) (hp : H p = none) (q : Rels K mg r H vs xs)
    (k : ∀ v H', Step r H r H' → HRel K mg r h H' → RelT K mg H r H' v (.tup xs) → Q v H') : Q (.ref p) (upd H p (.tup vs)) := by
  have s : Step r H r (upd H p (.tup vs)) := Step.alloc hp
  exact k _ _ s (hr.alloc hp) (.val (.tup ⟨fun z => hr.there z hp, upd_same⟩ (q.mono s.mn)))
theorem newL {K : PySem.W.Frag} {mg : Str → Option Value} {r : List Addr} {h : AH} {H : Hp} {p : Addr} {vs : List V} {xs : List D} {Q : VK} (hr : HRel K mg r h H) (hp : H p = none) (q : Rels K mg r H vs xs)
    (k : ∀ v H', Step r H r H' → HRel K mg r h H' → RelT K mg H r H' v (.tl xs) → Q v H') : Q (.ref p) (upd H p (.lst vs)) := by
  have s : Step r H r (upd H p (.lst vs)) := Step.alloc hp
  exact k _ _ s (hr.alloc hp) (.tl (.of hp) upd_same (fun z => hr.there z hp) (q.mono s.mn))
def opAdd (h : AH) : D → D → Option D
  | .int a, .int b => some (.int (a + b))
  | .str a, .str b => if a.length + b.length ≤ sizeLine then some (.str (a ++ b)) else none
  | .tup a, .tup b => if a.length + b.length ≤ sizeLine then some (.tup (a ++ b)) else none
  | a, b => match lstOf h a, lstOf h b with
    | some xs, some ys => if xs.length + ys.length ≤ sizeLine then some (.tl (xs ++ ys)) else none
    | _, _ => none
def opSub (_ : AH) : D → D → Option D
  | .int a, .int b => some (.int (a - b))
  | _, _ => none
def smallI (i : Int) : Bool := decide (-(2 ^ 64) < i) && decide (i < 2 ^ 64)
def opMul (h : AH) : D → D → Option D
  | .int a, .int b => if smallI a || smallI b then some (.int (a * b)) else none
  | .tup xs, .int k => if k = 1 then some (.tup xs) else if xs ≠ [] ∧ 2 ≤ k ∧ k ≤ 1000 ∧ xs.length ≤ 1000 then some (.tup (List.replicate k.toNat xs).flatten) else none
  | a, .int k => match lstOf h a with
    | some xs => if -(2 ^ 63) ≤ k ∧ k < 2 ^ 63 ∧ xs.length * k.toNat ≤ sizeLine then some (.tl (List.replicate k.toNat xs).flatten) else none
    | none => none
  | _, _ => none
def opMod (_ : AH) : D → D → Option D
  | .int a, .int b => if 0 < b then some (.int (a % b)) else none
  | _, _ => none
def opFdiv (_ : AH) : D → D → Option D
  | .int a, .int b => if 0 < b ∧ b.natAbs.log2 < 9000 then some (.int (a / b)) else none
  | _, _ => none
def opPow (_ : AH) : D → D → Option D
  | .int a, .int b => if 0 ≤ b ∧ b ≤ 1000 ∧ a.natAbs < 2 ^ 1000 then some (.int (a ^ b.toNat)) else none
  | _, _ => none
theorem RelU.int_inv {K : PySem.W.Frag} {mg : Str → Option Value} {r : List Addr} {H : Hp} {v : V} {i : Int} (q : RelU K mg r H v (.int i)) : v = .int i := by
  cases q with
  | val q => cases q; rfl
theorem RelU.str_inv {K : PySem.W.Frag} {mg : Str → Option Value} {r : List Addr} {H : Hp} {v : V} {i : Str} (q : RelU K mg r H v (.str i)) : v = .str i := by
  cases q with
  | val q => cases q; rfl
theorem RelU.bl_inv {K : PySem.W.Frag} {mg : Str → Option Value} {r : List Addr} {H : Hp} {v : V} {i : Bool} (q : RelU K mg r H v (.bl i)) : v = .bl i := by
  cases q with
  | val q => cases q; rfl
theorem opd_sub : OpD X (binaryOp .Sub) opSub := OpR.imp op_sub fun x y H Q ⟨r, h, dx, dy, d, hr, tx, ty, hg, q⟩ => by
  unfold opSub at hg
  split at hg
  · cases hg; exact ⟨_, _, tx.int_inv, ty.int_inv, q _ H (Step.refl r H) hr (.val (.int _))⟩
  · cases hg
theorem opd_mod : OpD X (binaryOp .Mod) opMod := OpR.imp op_mod fun x y H Q ⟨r, h, dx, dy, d, hr, tx, ty, hg, q⟩ => by
  unfold opMod at hg
  split at hg
  · split at hg
    · cases hg; exact ⟨_, _, tx.int_inv, ty.int_inv, by assumption, q _ H (Step.refl r H) hr (.val (.int _))⟩
    · cases hg
  · cases hg
theorem opd_fdiv : OpD X (binaryOp .FloorDiv) opFdiv := OpR.imp op_fdivW fun x y H Q ⟨r, h, dx, dy, d, hr, tx, ty, hg, q⟩ => by
  unfold opFdiv at hg
  split at hg
  · split at hg
    · cases hg; exact ⟨_, _, tx.int_inv, ty.int_inv, by assumption, q _ H (Step.refl r H) hr (.val (.int _))⟩
    · cases hg
  · cases hg
def CPowW (i j : Int) : Prop := 0 ≤ j ∧ j ≤ 1000 ∧ i.natAbs < 2 ^ 1000
theorem op_powW : OpR X (binaryOp .Pow) (rI CPowW fun i j => .int (i ^ j.toNat)) := opI fun i j _ _ _ _ _ hc q => pow_int hc.1 (by
  have hb : Builtin.Int.intBits i ≤ 1000 := intBits_le hc.2.2
  have h0 : (0 : Int) ≤ j := hc.1
  have hj : j ≤ 1000 := hc.2.1
  have h1 : (Builtin.Int.intBits i : Int) * j ≤ 1000 * j := Int.mul_le_mul_of_nonneg_right (by omega) h0
  omega) q
theorem opd_pow : OpD X (binaryOp .Pow) opPow := OpR.imp op_powW fun x y H Q ⟨r, h, dx, dy, d, hr, tx, ty, hg, q⟩ => by
  unfold opPow at hg
  split at hg
  · split at hg
    · cases hg; exact ⟨_, _, tx.int_inv, ty.int_inv, by assumption, q _ H (Step.refl r H) hr (.val (.int _))⟩
    · cases hg
  · cases hg
theorem Rels.flat {K : PySem.W.Frag} {mg : Str → Option Value} {r : List Addr} {H : Hp} {vs : List V} {xs : List D} (q : Rels K mg r H vs xs) : ∀ n : Nat, Rels K mg r H (List.replicate n vs).flatten (List.replicate n xs).flatten
  | 0 => .nil
  | n + 1 => by
    rw [List.replicate_succ, List.replicate_succ, List.flatten_cons, List.flatten_cons]
    exact q.append (Rels.flat q n)
theorem Rels.nil_iff {K : PySem.W.Frag} {mg : Str → Option Value} {r : List Addr} {H : Hp} {vs : List V} {xs : List D} (q : Rels K mg r H vs xs) : vs = [] ↔ xs = [] := by
  cases q <;> simp
theorem opd_add : OpD X (binaryOp .Add) opAdd := OpR.imp (OpR.or (OpR.or op_add op_add_str) (OpR.or op_catA op_cat)) fun x y H Q ⟨r, h, dx, dy, d, hr, tx, ty, hg, q⟩ => by
  unfold opAdd at hg
  split at hg
  · cases hg; exact .inl (.inl ⟨_, _, tx.int_inv, ty.int_inv, q _ H (Step.refl r H) hr (.val (.int _))⟩)
  · split at hg
    · cases hg; exact .inl (.inr ⟨_, _, tx.str_inv, ty.str_inv, by assumption, q _ H (Step.refl r H) hr (.val (.str _))⟩)
    · cases hg
  · split at hg
    · rename_i hz
      cases hg
      obtain ⟨a, vs, rfl, h1, h2⟩ := tx.tup_inv
      obtain ⟨b, ws, rfl, h3, h4⟩ := ty.tup_inv
      refine .inr (.inl ⟨a, b, vs, ws, rfl, rfl, h1.sq, h3.sq, by rw [h2.length, h4.length]; exact hz, fun z => ?_, fun z1 z2 => ?_, fun z1 z2 p hp => ?_⟩)
      · rw [h2.nil_iff.mp z] at q
        exact q _ H (Step.refl r H) hr (.val (.tup h3 h4))
      · rw [h4.nil_iff.mp z2, List.append_nil] at q
        exact q _ H (Step.refl r H) hr (.val (.tup h1 h2))
      · exact newT hr hp (h2.append h4) q
    · cases hg
  · split at hg
    · rename_i xs ys ex ey
      split at hg
      · rename_i hz
        cases hg
        obtain ⟨a, vs, rfl, h1, h2⟩ := lstOf_inv hr tx ex
        obtain ⟨b, ws, rfl, h3, h4⟩ := lstOf_inv hr ty ey
        refine .inr (.inr ⟨a, b, vs, ws, rfl, rfl, h1, h3, by rw [h2.length, h4.length]; exact hz, fun p hp => ?_⟩)
        exact newL hr hp (h2.append h4) q
      · cases hg
    · cases hg
theorem smallI_ok {i : Int} (h : smallI i = true) : -(2 ^ 64) < i ∧ i < 2 ^ 64 := by
  unfold smallI at h
  simpa [Bool.and_eq_true, decide_eq_true_eq] using h
theorem tuple_mul1 (l : Addr) (items : Array Value) (n : Nat) (dd : Option Addr) (sl : Array (Option Value)) (u : Tok) :
    Meets (Builtin.«tuple.__mul__» ⟨[.ref l, .int 1 u], []⟩) (fun _ R s => s.heap.get? l = some { cls := .type "tuple", dict := dd, data := .seq items n, slots := sl } ∧ R (.ok (.ret (Value.ref l))) s) :=
  .of_wp fun prog w A R s h => by
    obtain ⟨hp, g, d, tk, os⟩ := s
    obtain ⟨hl, h⟩ := h
    have f1 := AutoSeq1.idx_int
    have c1 : (items.isEmpty || (1 : Int) == 1) = true := by simp
    wp_walk using wpAny_loadPart' hl
    repeat (first | (refine wpAny_ite_true (decide_eq_true c1) ?_; wp_walk using wpAny_loadPart' hl) | (refine wpAny_ite_false (decide_eq_false (by decide)) ?_; wp_walk using wpAny_loadPart' hl))
    wp_walk using wpAny_loadPart' hl
    exact ⟨_, rfl, h⟩
theorem op_rep1 : OpR X (binaryOp .Mult) (fun x y H Q => ∃ l xs, x = .ref l ∧ y = .int 1 ∧ SqT X.K H l xs ∧ Q (.ref l) H) := by
  intro pins s σ H x y v u Q I rx ry h
  obtain ⟨l, xs, rfl, rfl, hT, q⟩ := h
  cases rx
  obtain ⟨t, rfl⟩ := ry
  obtain ⟨its, r, ⟨⟨cls, dd, data, sl⟩, ho, hc, n, hd⟩, hs⟩ := I.tuple hT
  simp only at hc hd
  subst hc hd
  refine wpAny_binaryOp_repeat_ref (T := "tuple") (U := "int") (by decide) ⟨_, ho, rfl⟩ (fun s' => typeIs_int s' 1 t) noFill_tuple_mul F.fills_int_mul F.slot_int_rmul repeat_tuple F.slot_int_index.lookup
    (call_meets F.slot_int_rmul (typeIs_int s 1 t) F.entry_int_rmul (F.args_int_rmul_2 _ _) (int_rmul_tuple 1 t l its.toArray n dd sl)
      ⟨ho, rfl, ⟨_, ho, rfl⟩, call_meets F.slot_tuple_mul ⟨_, ho, rfl⟩ F.entry_tuple_mul (F.args_tuple_mul_2 _ _) (tuple_mul1 l its.toArray n dd sl t) ⟨ho, ?_⟩⟩)
  exact ⟨.ref l, H, I, rfl, q⟩
theorem opd_mul : OpD X (binaryOp .Mult) opMul := OpR.imp (OpR.or op_mul (OpR.or op_rep1 (OpR.or op_repT op_rep))) fun x y H Q ⟨r, h, dx, dy, d, hr, tx, ty, hg, q⟩ => by
  unfold opMul at hg
  split at hg
  · split at hg
    · rename_i hc
      cases hg
      refine .inl ⟨_, _, tx.int_inv, ty.int_inv, ?_, q _ H (Step.refl r H) hr (.val (.int _))⟩
      rcases Bool.or_eq_true_iff.mp hc with z | z
      · exact .inl (smallI_ok z)
      · exact .inr (smallI_ok z)
    · cases hg
  · split at hg
    · rename_i hc
      cases hg
      subst hc
      obtain ⟨a, vs, rfl, h1, h2⟩ := tx.tup_inv
      exact .inr (.inl ⟨a, vs, rfl, ty.int_inv, h1.sq, q _ H (Step.refl r H) hr (.val (.tup h1 h2))⟩)
    · split at hg
      · rename_i hc
        cases hg
        obtain ⟨a, vs, rfl, h1, h2⟩ := tx.tup_inv
        refine .inr (.inr (.inl ⟨a, _, vs, rfl, ty.int_inv, h1.sq, fun z => hc.1 (h2.nil_iff.mp z), hc.2.1, hc.2.2.1, by rw [h2.length]; exact hc.2.2.2, fun p hp => ?_⟩))
        exact newT hr hp (h2.flat _) q
      · cases hg
  · split at hg
    · rename_i xs ex
      split at hg
      · rename_i hc
        cases hg
        obtain ⟨a, vs, rfl, h1, h2⟩ := lstOf_inv hr tx ex
        refine .inr (.inr (.inr ⟨a, _, vs, rfl, ty.int_inv, h1, hc.1, hc.2.1, by rw [h2.length]; exact hc.2.2, fun p hp => ?_⟩))
        exact newL hr hp (h2.flat _) q
      · cases hg
    · cases hg
  · cases hg
end
end BW

set_option Elab.async false
set_option linter.all false
set_option maxRecDepth 100000
set_option maxHeartbeats 4000000
namespace BW
open PySem PySem.Spec PyProof.Rows L2
variable [Tb]
def allK {α β : Type} (f : α → Option β) : List α → Option (List β)
  | [] => some []
  | x :: xs => match f x, allK f xs with
    | some y, some ys => some (y :: ys)
    | _, _ => none
def dataK (h : AH) : Nat → D → Option PyData
  | _, .non => some .none
  | _, .bl b => some (.bool b)
  | _, .int i => some (.int i)
  | _, .str x => if PyData.strOk x = true then some (.str x) else none
  | n + 1, .tup xs => (allK (dataK h n) xs).map .tuple
  | n + 1, .tl xs => (allK (dataK h n) xs).map .list
  | n + 1, .rl xs => (allK (dataK h n) xs).map .list
  | n + 1, .ref k => match h[k]? with
    | some (.lst xs) => (allK (dataK h n) xs).map .list
    | _ => none
  | _, _ => none
theorem allK_shape {f : D → Option PyData} {P : PyData → Prop} (hf : ∀ x y, f x = some y → P y) : ∀ {xs : List D} {ys : List PyData}, allK f xs = some ys → ∀ y ∈ ys, P y
  | [], _, e, y, hy => by cases e; cases hy
  | x :: xs, _, e, y, hy => by
    unfold allK at e
    split at e
    · rename_i a as h1 h2
      cases e
      rcases List.mem_cons.mp hy with rfl | hy
      · exact hf _ _ h1
      · exact allK_shape hf h2 y hy
    · cases e
theorem canAll : ∀ {ys : List PyData}, (∀ y ∈ ys, PyData.canLay0 y = true) → PyData.canLayAll0 ys = true
  | [], _ => by simp [PyData.canLayAll0]
  | y :: ys, h => by simp [PyData.canLayAll0, h y List.mem_cons_self, canAll fun z hz => h z (List.mem_cons_of_mem _ hz)]
theorem depthAll_le {n : Nat} : ∀ {ys : List PyData}, (∀ y ∈ ys, y.depth ≤ n) → PyData.depthAll ys ≤ n
  | [], _ => by simp [PyData.depthAll]
  | y :: ys, h => by
    have h1 := h y List.mem_cons_self
    have h2 := depthAll_le fun z hz => h z (List.mem_cons_of_mem _ hz)
    simp [PyData.depthAll]; omega
theorem dataK_shape (h : AH) : ∀ (n : Nat) (d : D) (p : PyData), dataK h n d = some p → PyData.canLay0 p = true ∧ p.depth ≤ n := by
  intro n
  induction n with
  | zero =>
    intro d p e
    cases d <;> simp only [dataK] at e <;> first | (cases e; done) | (cases e; simp [PyData.canLay0, PyData.depth]; done) | skip
    split at e
    · cases e; rename_i hs; exact ⟨by simp [PyData.canLay0, hs], by simp [PyData.depth]⟩
    · cases e
  | succ n ih =>
    have list_ok : ∀ {xs : List D} {ys : List PyData}, allK (dataK h n) xs = some ys → PyData.canLayAll0 ys = true ∧ PyData.depthAll ys ≤ n := fun e =>
      ⟨canAll (allK_shape (fun x y z => (ih x y z).1) e), depthAll_le (allK_shape (fun x y z => (ih x y z).2) e)⟩
    intro d p e
    cases d with
    | str x =>
      simp only [dataK] at e
      split at e
      · cases e; rename_i hs; exact ⟨by simp [PyData.canLay0, hs], by simp [PyData.depth]⟩
      · cases e
    | tup xs =>
      simp only [dataK, Option.map_eq_some_iff] at e
      obtain ⟨ys, e1, rfl⟩ := e
      have := list_ok e1
      exact ⟨by simp [PyData.canLay0, this.1], by simp [PyData.depth]; omega⟩
    | tl xs =>
      simp only [dataK, Option.map_eq_some_iff] at e
      obtain ⟨ys, e1, rfl⟩ := e
      have := list_ok e1
      exact ⟨by simp [PyData.canLay0, this.1], by simp [PyData.depth]; omega⟩
    | ref k =>
      simp only [dataK] at e
      split at e
      · simp only [Option.map_eq_some_iff] at e
        obtain ⟨ys, e1, rfl⟩ := e
        have := list_ok e1
        exact ⟨by simp [PyData.canLay0, this.1], by simp [PyData.depth]; omega⟩
      · cases e
    | rl xs =>
      simp only [dataK, Option.map_eq_some_iff] at e
      obtain ⟨ys, e1, rfl⟩ := e
      have := list_ok e1
      exact ⟨by simp [PyData.canLay0, this.1], by simp [PyData.depth]; omega⟩
    | exc c xs => cases e
    | kt xs => cases e
    | _ => simp only [dataK] at e; cases e; simp [PyData.canLay0, PyData.depth]
section
variable {K : PySem.W.Frag} {mg : Str → Option Value} {r : List Addr} {h : AH} {H : Hp}
theorem dp_all {n : Nat} (ih : ∀ (d : D) (p : PyData) (v : V), dataK h n d = some p → Rel K mg r H v d → Dp K H v p) : ∀ {vs : List V} {xs : List D} {ps : List PyData}, Rels K mg r H vs xs → allK (dataK h n) xs = some ps → DpAll K H vs ps
  | _, _, _, .nil, e => by cases e; exact .nil
  | _, _, _, .cons q t, e => by
    unfold allK at e
    split at e
    · rename_i a as h1 h2
      cases e
      exact .cons (ih _ _ _ h1 q) (dp_all ih t h2)
    · cases e
theorem dp_of (hr : HRel K mg r h H) : ∀ (n : Nat) (d : D) (p : PyData) (v : V), dataK h n d = some p → Rel K mg r H v d → Dp K H v p := by
  intro n
  induction n with
  | zero =>
    intro d p v e q
    cases q with
    | non => cases e; exact .non
    | bl b => cases e; exact .bl b
    | int i => cases e; exact .int i
    | str x => simp only [dataK] at e; split at e <;> cases e; exact .str x
    | _ => cases e
  | succ n ih =>
    intro d p v e q
    cases q with
    | non => cases e; exact .non
    | bl b => cases e; exact .bl b
    | int i => cases e; exact .int i
    | str x => simp only [dataK] at e; split at e <;> cases e; exact .str x
    | tup h1 h2 =>
      simp only [dataK, Option.map_eq_some_iff] at e
      obtain ⟨ys, e1, rfl⟩ := e
      exact .tup h1.sq (dp_all ih h2 e1)
    | ref hn =>
      simp only [dataK] at e
      split at e
      · rename_i xs hx
        simp only [Option.map_eq_some_iff] at e
        obtain ⟨ys, e1, rfl⟩ := e
        obtain ⟨vs, z1, z2⟩ := hr.obj _ _ _ hx hn
        exact .lst (.inl (.inl z1)) (dp_all ih z2 e1)
      · cases e
    | rl h1 h2 =>
      simp only [dataK, Option.map_eq_some_iff] at e
      obtain ⟨ys, e1, rfl⟩ := e
      exact .lst h1.sq (dp_all ih h2 e1)
    | _ => cases e
theorem dp_ofU (hr : HRel K mg r h H) {n : Nat} {d : D} {p : PyData} {v : V} (e : dataK h n d = some p) (q : RelU K mg r H v d) : Dp K H v p := by
  cases q with
  | val q => exact dp_of hr n d p v e q
  | tl a b c q =>
    cases n with
    | zero => cases e
    | succ n =>
      simp only [dataK, Option.map_eq_some_iff] at e
      obtain ⟨ys, e1, rfl⟩ := e
      exact .lst (.inl (.inl b)) (dp_all (fun d p v => dp_of hr n d p v) q e1)
end
theorem shaped_of {h : AH} {n : Nat} {d : D} {p : PyData} (hn : n ≤ 64) (e : dataK h n d = some p) : SeqAt.shaped p = true := by
  obtain ⟨h1, h2⟩ := dataK_shape h n d p e
  unfold SeqAt.shaped
  simp only [Bool.and_eq_true, decide_eq_true_eq]
  exact ⟨h1, by omega⟩
def eqD (h : AH) (x y : D) : Option Bool := match dataK h 9 x, dataK h 9 y with
  | some a, some b => some (PyData.eqv a b)
  | _, _ => none
def opEq (h : AH) (x y : D) : Option D := (eqD h x y).map .bl
def opNe (h : AH) (x y : D) : Option D := (eqD h x y).map fun b => .bl (!b)
def cmpI (p : Int → Int → Bool) (_ : AH) : D → D → Option D
  | .int a, .int b => some (.bl (p a b))
  | _, _ => none
def opLt := cmpI fun a b => decide (a < b)
def opLe := cmpI fun a b => decide (a ≤ b)
def opGt := cmpI fun a b => decide (b < a)
def opGe := cmpI fun a b => decide (b ≤ a)
def flatD : D → Option V
  | .non => some .non
  | .bl b => some (.bl b)
  | .int i => some (.int i)
  | .str x => some (.str x)
  | _ => none
def seqOf (h : AH) : D → Option (List D)
  | .tup xs => some xs
  | d => lstOfR h d
section
variable {X : Cx} {W : Wx}
theorem opd_eq (hu : X.A.units + 64 < cLine) : OpD X (compareOp .Eq) opEq := OpR.imp (op_eqD hu) fun x y H Q ⟨r, h, dx, dy, d, hr, tx, ty, hg, q⟩ => by
  unfold opEq eqD at hg
  split at hg
  · rename_i a b ha hb
    cases hg
    exact ⟨a, b, dp_ofU hr ha tx, dp_ofU hr hb ty, shaped_of (by decide) ha, shaped_of (by decide) hb, q _ H (Step.refl r H) hr (.val (.bl _))⟩
  · cases hg
theorem opd_ne (hu : X.A.units + 64 < cLine) : OpD X (compareOp .NotEq) opNe := OpR.imp (op_neD hu) fun x y H Q ⟨r, h, dx, dy, d, hr, tx, ty, hg, q⟩ => by
  unfold opNe eqD at hg
  split at hg
  · rename_i a b ha hb
    cases hg
    exact ⟨a, b, dp_ofU hr ha tx, dp_ofU hr hb ty, shaped_of (by decide) ha, shaped_of (by decide) hb, q _ H (Step.refl r H) hr (.val (.bl _))⟩
  · cases hg
theorem opd_cmpI {op : CmpOp} {p : Int → Int → Bool} (ho : OpR X (compareOp op) (rI0 fun i j => .bl (p i j))) : OpD X (compareOp op) (cmpI p) := OpR.imp ho fun x y H Q ⟨r, h, dx, dy, d, hr, tx, ty, hg, q⟩ => by
  unfold cmpI at hg
  split at hg
  · cases hg; exact ⟨_, _, tx.int_inv, ty.int_inv, q _ H (Step.refl r H) hr (.val (.bl _))⟩
  · cases hg
theorem opd_lt : OpD X (compareOp .Lt) opLt := opd_cmpI op_lt
theorem opd_le : OpD X (compareOp .LtE) opLe := opd_cmpI op_le
theorem opd_gt : OpD X (compareOp .Gt) opGt := opd_cmpI op_gt
theorem opd_ge : OpD X (compareOp .GtE) opGe := opd_cmpI op_ge
theorem flat_rel {K : PySem.W.Frag} {mg : Str → Option Value} {r : List Addr} {H : Hp} {v w : V} {d : D} (e : flatD d = some w) (q : RelU K mg r H v d) : v = w ∧ flatV w = true := by
  cases q with
  | val q => cases q <;> cases e <;> exact ⟨rfl, rfl⟩
  | tl => cases e
theorem seqOf_inv {K : PySem.W.Frag} {mg : Str → Option Value} {r : List Addr} {h : AH} {H : Hp} {v : V} {d : D} {xs : List D} (hr : HRel K mg r h H) (q : RelU K mg r H v d) (e : seqOf h d = some xs) : ∃ a vs, v = .ref a ∧ (SqL K H a vs ∨ SqT K H a vs) ∧ Rels K mg r H vs xs := by
  unfold seqOf at e
  split at e
  · cases e
    obtain ⟨a, vs, e1, e2, e3⟩ := q.tup_inv
    exact ⟨a, vs, e1, .inr e2.sq, e3⟩
  · obtain ⟨a, vs, e1, e2, e3⟩ := lstOfR_inv hr q e
    exact ⟨a, vs, e1, .inl e2, e3⟩
def evChain (g g' : AH → D → D → Option D) (fa fb fc : Ev) : Ev := fun e h => (fa e h).bind fun x h1 => (fb e h1).bind fun y h2 => match g h2 x y with
  | some (.bl true) => (fc e h2).bind fun z h3 => ofO (g' h3 y z) h3
  | some (.bl false) => .ok (.bl false) h2
  | _ => .stuck
theorem rd_chain {K : PySem.W.Frag} {mg : Str → Option Value} {g g' : AH → D → D → Option D} {fa fb fc : Ev} {σ : L2.St} {H : Hp} {Q : VK} (q : rdE K mg W (evChain g g' fa fb fc) σ H Q) : tChain (rdO K mg g) (rdO K mg g') (rdE K mg W fa) (rdE K mg W fb) (rdE K mg W fc) σ H Q := by
  obtain ⟨r, e, h, er, hr, ok⟩ := q
  unfold evChain at ok
  refine rdE_bind er hr ok fun x h1 v r1 H1 s1 hr1 t1 er1 ok1 => ?_
  refine rdE_bind er1 hr1 ok1 fun y h2 w r2 H2 s2 hr2 t2 er2 ok2 => ?_
  split at ok2
  · rename_i hg
    refine ⟨r2, h2, x, y, _, hr2, (t1.mono s2).u, t2.u, hg, fun v3 H3 s3 hr3 t3 => ⟨true, t3.u.bl_inv, ?_⟩⟩
    rw [if_pos rfl]
    refine rdE_bind (er2.mono s3.mn) hr3 (OkE.after s3 ok2) fun z h4 v4 r4 H4 s4 hr4 t4 er4 ok4 => ?_
    cases hg' : g' h4 y z with
    | none => rw [hg'] at ok4; exact ok4.elim
    | some d =>
      rw [hg'] at ok4
      exact ⟨r4, h4, y, z, d, hr4, ((t2.mono s3).mono s4).u, t4.u, hg', fun v H' s q t => ok4 v r4 H' s q t⟩
  · rename_i hg
    refine ⟨r2, h2, x, y, _, hr2, (t1.mono s2).u, t2.u, hg, fun v3 H3 s3 hr3 t3 => ⟨false, t3.u.bl_inv, ?_⟩⟩
    rw [if_neg Bool.false_ne_true]
    exact ok2 _ r2 H3 s3 hr3 (.val (.bl _))
  · exact ok2.elim
theorem den_chain {a b c : Expr} {op op' : CmpOp} {pos : Pos} {g g' : AH → D → D → Option D} {fa fb fc : Ev} (ho : OpD X (compareOp op) g) (ho' : OpD X (compareOp op') g') (ha : DenE X W a fa) (hb : DenE X W b fb) (hc : DenE X W c fc)
    (hm : lastMarks [op, op'] [b, c] = false := by with_unfolding_all rfl) : DenE X W (.Compare a [op, op'] [b, c] pos) (evChain g g' fa fb fc) :=
  PE.imp (pe_chain ho ho' ha hb hc hm) fun σ H Q q => rd_chain q
def tvOf (f : Ev) : Tv := fun e h => (f e h).bind fun d h1 => match d with
  | .bl b => .ok b h1
  | _ => .stuck
theorem rdT_of {K : PySem.W.Frag} {mg : Str → Option Value} {f : Ev} {σ : L2.St} {H : Hp} {Q : Bool → Hp → Prop} (q : rdT K mg W (tvOf f) σ H Q) : tB (rdE K mg W f) σ H Q := by
  obtain ⟨r, e, h, er, hr, ok⟩ := q
  unfold tvOf at ok
  refine rdE_bindT er hr ok fun d h1 v r1 H1 s1 hr1 t1 er1 ok1 => ?_
  cases d with
  | bl b => exact ⟨b, t1.u.bl_inv, ok1 r1 H1 (Step.refl _ _) hr1⟩
  | _ => exact ok1.elim
theorem den_tval {ex : Expr} {f : Ev} (hf : DenE X W ex f) (he : ∀ whole, isTrue ex X.env whole = (do let v ← whole; standAt ex.pos; holding [v] (truthy v)) := by intro _; rfl) : DenT X W ex (tvOf f) :=
  PT.imp (pt_val hf he) fun σ H Q q => rdT_of q
theorem den_tcmp {a b : Expr} {op : CmpOp} {pos : Pos} {g : AH → D → D → Option D} {fa fb : Ev} (ho : OpD X (compareOp op) g) (ha : DenE X W a fa) (hb : DenE X W b fb) (hm : behindInMarks op b = false := by first | exact nomark _ | rfl) : DenT X W (.Compare a [op] [b] pos) (tvOf (evOp g fa fb)) :=
  PT.imp (pt_cmpR ho ha hb hm) fun σ H Q q => by
    have q2 : tB (rdE X.K X.mg W (evOp g fa fb)) σ H Q := rdT_of q
    exact rdO_of q2
def tvOr (t u : Tv) : Tv := fun e h => (t e h).bind fun b h1 => if b then .ok true h1 else u e h1
def tvNot (t : Tv) : Tv := fun e h => (t e h).bind fun b h1 => .ok (!b) h1
abbrev DenW (X : Cx) (W : Wx) (e : Expr) (f : Tv) : Prop := PW X e (rdT X.K X.mg W f)
theorem den_or1 {a : Expr} {pos : Pos} {t : Tv} (ha : DenT X W a t) : DenW X W (.BoolOp .Or [a] pos) t := pw_or1 ha
theorem den_or {a b : Expr} {rest : List Expr} {pos : Pos} {t u : Tv} (ha : DenT X W a t) (hb : DenW X W (.BoolOp .Or (b :: rest) pos) u) : DenW X W (.BoolOp .Or (a :: b :: rest) pos) (tvOr t u) :=
  PW.imp (pw_or ha hb) fun σ H Q ⟨r, e, h, er, hr, ok⟩ => by
    unfold tvOr at ok
    refine rdT_bindT er hr ok fun d h1 r1 H1 s1 hr1 er1 ok1 => ?_
    cases d with
    | false => rw [if_neg Bool.false_ne_true]; exact ⟨r1, e, h1, er1, hr1, ok1⟩
    | true => rw [if_pos rfl]; exact ok1 r1 H1 (Step.refl _ _) hr1
theorem den_tnot {a : Expr} {pos : Pos} {t : Tv} (ha : DenT X W a t) : DenT X W (.UnaryOp .Not a pos) (tvNot t) := PT.imp (pt_not ha) fun σ H Q ⟨r, e, h, er, hr, ok⟩ => by
  unfold tvNot at ok
  exact rdT_bindT er hr ok fun d h1 r1 H1 s1 hr1 er1 ok1 => ok1 r1 H1 (Step.refl _ _) hr1
def evAnd (f g : Ev) : Ev := fun e h => (f e h).bind fun d h1 => match d with
  | .bl true => g e h1
  | .bl false => .ok (.bl false) h1
  | _ => .stuck
def evOr (f g : Ev) : Ev := fun e h => (f e h).bind fun d h1 => match d with
  | .bl true => .ok (.bl true) h1
  | .bl false => g e h1
  | _ => .stuck
def evNot (f : Ev) : Ev := fun e h => (f e h).bind fun d h1 => match d with
  | .bl b => .ok (.bl (!b)) h1
  | _ => .stuck
theorem den_vone {a : Expr} {op} {pos : Pos} {f : Ev} (ha : DenE X W a f) : DenE X W (.BoolOp op [a] pos) f := pe_one ha
theorem den_vand {a b : Expr} {rest : List Expr} {pos : Pos} {f g : Ev} (ha : DenE X W a f) (hb : DenE X W (.BoolOp .And (b :: rest) pos) g) : DenE X W (.BoolOp .And (a :: b :: rest) pos) (evAnd f g) :=
  PE.imp (pe_and ha hb) fun σ H Q ⟨r, e, h, er, hr, ok⟩ => by
    unfold evAnd at ok
    refine rdE_bind er hr ok fun d h1 v r1 H1 s1 hr1 t1 er1 ok1 => ?_
    split at ok1
    · exact ⟨true, t1.u.bl_inv, by rw [if_pos rfl]; exact ⟨r1, e, h1, er1, hr1, ok1⟩⟩
    · exact ⟨false, t1.u.bl_inv, by rw [if_neg Bool.false_ne_true]; exact ok1 _ r1 H1 (Step.refl _ _) hr1 (.val (.bl _))⟩
    · exact ok1.elim
theorem den_vor {a b : Expr} {rest : List Expr} {pos : Pos} {f g : Ev} (ha : DenE X W a f) (hb : DenE X W (.BoolOp .Or (b :: rest) pos) g) : DenE X W (.BoolOp .Or (a :: b :: rest) pos) (evOr f g) :=
  PE.imp (pe_or ha hb) fun σ H Q ⟨r, e, h, er, hr, ok⟩ => by
    unfold evOr at ok
    refine rdE_bind er hr ok fun d h1 v r1 H1 s1 hr1 t1 er1 ok1 => ?_
    split at ok1
    · exact ⟨true, t1.u.bl_inv, by rw [if_pos rfl]; exact ok1 _ r1 H1 (Step.refl _ _) hr1 (.val (.bl _))⟩
    · exact ⟨false, t1.u.bl_inv, by rw [if_neg Bool.false_ne_true]; exact ⟨r1, e, h1, er1, hr1, ok1⟩⟩
    · exact ok1.elim
theorem den_vnot {a : Expr} {pos : Pos} {f : Ev} (ha : DenE X W a f) : DenE X W (.UnaryOp .Not a pos) (evNot f) := PE.imp (pe_not ha) fun σ H Q ⟨r, e, h, er, hr, ok⟩ => by
  unfold evNot at ok
  refine rdE_bind er hr ok fun d h1 v r1 H1 s1 hr1 t1 er1 ok1 => ?_
  split at ok1
  · exact ⟨_, t1.u.bl_inv, ok1 _ r1 H1 (Step.refl _ _) hr1 (.val (.bl _))⟩
  · exact ok1.elim
def evIf (t : Tv) (f g : Ev) : Ev := fun e h => (t e h).bind fun b h1 => if b then f e h1 else g e h1
theorem den_if {c a b : Expr} {pos : Pos} {t : Tv} {f g : Ev} (hc : DenT X W c t) (ha : DenE X W a f) (hb : DenE X W b g) : DenE X W (.IfExp c a b pos) (evIf t f g) :=
  PE.imp (pe_ifExp hc ha hb) fun σ H Q ⟨r, e, h, er, hr, ok⟩ => by
    unfold evIf at ok
    refine rdT_bindE er hr ok fun d h1 r1 H1 s1 hr1 er1 ok1 => ?_
    cases d with
    | true => rw [if_pos rfl]; exact ⟨r1, e, h1, er1, hr1, ok1⟩
    | false => rw [if_neg Bool.false_ne_true]; exact ⟨r1, e, h1, er1, hr1, ok1⟩
end
end BW

set_option Elab.async false
set_option linter.all false
set_option maxRecDepth 100000
set_option maxHeartbeats 4000000
namespace BW
open PySem PySem.Spec PyProof.Rows L2
variable [Tb]
def opIx (h : AH) (x y : D) : Option D := match y with
  | .int i => match x with
    | .str z => if z.length ≤ sizeLine then (atI z.cps.toList i).map fun c => .str ⟨#[c]⟩ else none
    | x => (seqOf h x).bind fun xs => atI xs i
  | _ => none
theorem Rels.atI {K : PySem.W.Frag} {mg : Str → Option Value} {r : List Addr} {H : Hp} {vs : List V} {xs : List D} {i : Int} {x : D} (q : Rels K mg r H vs xs) (e : L2.atI xs i = some x) : ∃ v, L2.atI vs i = some v ∧ Rel K mg r H v x := by
  unfold L2.atI at e ⊢
  rw [q.length]
  cases hj : ixN xs.length i with
  | none => rw [hj] at e; cases e
  | some j =>
    rw [hj] at e
    simp only [Option.bind_some] at e ⊢
    exact q.get' e
def cutD (xs : List D) (lo hi : Option Int) : List D := (xs.drop (HT.sIx xs.length 0 lo)).take (HT.sIx xs.length xs.length hi - HT.sIx xs.length 0 lo)
section
variable {X : Cx} {W : Wx}
theorem ixd : IxR X (rdO X.K X.mg opIx) := fun value slice pins s σ H x y v u Q I rx ry q => by
  obtain ⟨r, h, dx, dy, d, hr, tx, ty, hg, q⟩ := q
  unfold opIx at hg
  split at hg
  · split at hg
    · split at hg
      · rename_i hz
        simp only [Option.map_eq_some_iff] at hg
        obtain ⟨c, hc, rfl⟩ := hg
        exact ix_str value slice pins s σ H x y v u Q I rx ry ⟨_, _, c, tx.str_inv, ty.int_inv, hz, hc, q _ H (Step.refl r H) hr (.val (.str _))⟩
      · cases hg
    · simp only [Option.bind_eq_some_iff] at hg
      obtain ⟨xs, h1, h2⟩ := hg
      obtain ⟨a, vs, rfl, h3, h4⟩ := seqOf_inv hr tx h1
      obtain ⟨w, h5, h6⟩ := h4.atI h2
      rcases h3 with h3 | h3
      · exact ix_list value slice pins s σ H _ y v u Q I rx ry ⟨a, vs, _, w, rfl, ty.int_inv, h3, h5, q _ H (Step.refl r H) hr (.val h6)⟩
      · exact ix_tup value slice pins s σ H _ y v u Q I rx ry ⟨a, vs, _, w, rfl, ty.int_inv, h3, h5, q _ H (Step.refl r H) hr (.val h6)⟩
  · cases hg
theorem den_ix {a b : Expr} {pos : Pos} {fa fb : Ev} (ha : DenE X W a fa) (hb : DenE X W b fb) (hs : PlainIx b := by exact fun _ _ => rfl) : DenE X W (.Subscript a b pos) (evOp opIx fa fb) :=
  PE.imp (pe_ix ixd ha hb hs) fun σ H Q q => rdO_of q
abbrev Pv := Env → AH → Out (Option Int)
def pvNone : Pv := fun _ h => .ok none h
def pvSome (f : Ev) : Pv := fun e h => (f e h).bind fun d h1 => match d with
  | .int i => .ok (some i) h1
  | _ => .stuck
def slD (h : AH) (x : D) (lo hi : Option Int) : Option D := match x with
  | .str z => if z.length ≤ sizeLine then some (.str (cutS z lo hi)) else none
  | .tup xs => some (.tup (cutD xs lo hi))
  | x => (lstOfR h x).map fun xs => .tl (cutD xs lo hi)
def evSl (f : Ev) (lo hi : Pv) : Ev := fun e h => (f e h).bind fun x h1 => (lo e h1).bind fun l h2 => (hi e h2).bind fun u h3 => ofO (slD h3 x l u) h3
def bLen (h : AH) : List D → Option D
  | [.str z] => if z.length ≤ sizeLine then some (.int z.length) else none
  | [x] => (seqOf h x).map fun xs => .int xs.length
  | _ => none
def bTuple (h : AH) : List D → Option D
  | [.tup xs] => some (.tup xs)
  | [x] => (lstOfR h x).map .tup
  | _ => none
def bList (h : AH) : List D → Option D
  | [x] => (seqOf h x).map .tl
  | _ => none
def bInt (_ : AH) : List D → Option D
  | [.int i] => some (.int i)
  | [.bl b] => some (.int (if b then 1 else 0))
  | _ => none
def blsOf : List D → Option (List Bool)
  | [] => some []
  | .bl b :: xs => (blsOf xs).map (b :: ·)
  | _ => none
def bAll (h : AH) : List D → Option D
  | [x] => ((lstOfR h x).bind blsOf).map fun bs => .bl (bs.all id)
  | _ => none
theorem RelTs.one {K : PySem.W.Frag} {mg : Str → Option Value} {r : List Addr} {H : Hp} {vs : List V} {d : D} (q : RelTs K mg r H vs [d]) : ∃ v, vs = [v] ∧ RelU K mg r H v d := by
  cases q with
  | cons a b => cases b; exact ⟨_, rfl, a⟩
theorem RelTs.two {K : PySem.W.Frag} {mg : Str → Option Value} {r : List Addr} {H : Hp} {vs : List V} {d d' : D} (q : RelTs K mg r H vs [d, d']) : ∃ v v', vs = [v, v'] ∧ RelU K mg r H v d ∧ RelU K mg r H v' d' := by
  cases q with
  | cons a b => cases b with
    | cons b c => cases c; exact ⟨_, _, rfl, a, b⟩
theorem cd_len : CallD X (.builtin "len") bLen := CallR.imp call_len fun vs H Q ⟨r, h, ds, d, hr, ts, hg, q⟩ => by
  unfold bLen at hg
  split at hg
  · split at hg
    · cases hg
      rename_i hz
      obtain ⟨v, rfl, t⟩ := ts.one
      obtain rfl := t.str_inv
      exact ⟨_, _, rfl, ⟨hz, rfl⟩, q _ H (Step.refl r H) hr (.val (.int _))⟩
    · cases hg
  · simp only [Option.map_eq_some_iff] at hg
    obtain ⟨xs, h1, rfl⟩ := hg
    obtain ⟨v, rfl, t⟩ := ts.one
    obtain ⟨a, ws, rfl, h2, h3⟩ := seqOf_inv hr t h1
    refine ⟨_, xs.length, rfl, ?_, q _ H (Step.refl r H) hr (.val (.int _))⟩
    rcases h2 with h2 | h2
    · exact .inl ⟨ws, h2, h3.length.symm⟩
    · exact .inr ⟨ws, h2, h3.length.symm⟩
  · cases hg
theorem cd_tuple : CallD X (.type "tuple") bTuple := CallR.imp call_tuple_of fun vs H Q ⟨r, h, ds, d, hr, ts, hg, q⟩ => by
  unfold bTuple at hg
  split at hg
  · cases hg
    obtain ⟨v, rfl, t⟩ := ts.one
    obtain ⟨a, ws, rfl, h1, h2⟩ := t.tup_inv
    exact ⟨a, ws, rfl, .inr ⟨h1.sq, q _ H (Step.refl r H) hr (.val (.tup h1 h2))⟩⟩
  · simp only [Option.map_eq_some_iff] at hg
    obtain ⟨xs, h1, rfl⟩ := hg
    obtain ⟨v, rfl, t⟩ := ts.one
    obtain ⟨a, ws, rfl, h2, h3⟩ := lstOfR_inv hr t h1
    exact ⟨a, ws, rfl, .inl ⟨h2, fun p hp => newT hr hp h3 q⟩⟩
  · cases hg
theorem cd_list : CallD X (.type "list") bList := CallR.imp call_list_of fun vs H Q ⟨r, h, ds, d, hr, ts, hg, q⟩ => by
  unfold bList at hg
  split at hg
  · simp only [Option.map_eq_some_iff] at hg
    obtain ⟨xs, h1, rfl⟩ := hg
    obtain ⟨v, rfl, t⟩ := ts.one
    obtain ⟨a, ws, rfl, h2, h3⟩ := seqOf_inv hr t h1
    exact ⟨a, ws, rfl, h2, fun p hp => newL hr hp h3 q⟩
  · cases hg
theorem cd_int : CallD X (.type "int") bInt := CallR.imp call_int1 fun vs H Q ⟨r, h, ds, d, hr, ts, hg, q⟩ => by
  unfold bInt at hg
  split at hg
  · cases hg
    obtain ⟨v, rfl, t⟩ := ts.one
    obtain rfl := t.int_inv
    exact .inl ⟨_, rfl, q _ H (Step.refl r H) hr (.val (.int _))⟩
  · cases hg
    obtain ⟨v, rfl, t⟩ := ts.one
    obtain rfl := t.bl_inv
    exact .inr ⟨_, rfl, q _ H (Step.refl r H) hr (.val (.int _))⟩
  · cases hg
end
end BW

set_option Elab.async false
set_option linter.all false
set_option maxRecDepth 100000
set_option maxHeartbeats 4000000
namespace BW
open PySem PySem.Spec PyProof.Rows L2
variable [Tb]
abbrev Gv := D → Env → AH → Out Env
section
variable (K : PySem.W.Frag) (mg : Str → Option Value)
def OkG (r : List Addr) (H : Hp) (Q : L2.St → Hp → Prop) : Out Env → Prop
  | .ok e' h' => ∀ σ' r' H', Step r H r' H' → ERel K mg r' e' σ' H' → HRel K mg r' h' H' → Q σ' H'
  | _ => False
def rdG (g : Gv) : TG := fun v σ H Q => ∃ r e h d, ERel K mg r e σ H ∧ HRel K mg r h H ∧ Rel K mg r H v d ∧ OkG K mg r H Q (g d e h)
def rdGs (g : List D → Env → AH → Out Env) : TGs := fun vs σ H Q => ∃ r e h ds, ERel K mg r e σ H ∧ HRel K mg r h H ∧ Rels K mg r H vs ds ∧ OkG K mg r H Q (g ds e h)
end
abbrev DenG (X : Cx) (tg : Expr) (g : Gv) : Prop := PG X tg (rdG X.K X.mg g)
abbrev DenGs (X : Cx) (tg : List Expr) (g : List D → Env → AH → Out Env) : Prop := PGs X tg (rdGs X.K X.mg g)
def gvName (i : Nat) : Gv := fun d e h => .ok (e.set i (some d)) h
def gvs : List Gv → List D → Env → AH → Out Env
  | [], [], e, h => .ok e h
  | g :: gs, d :: ds, e, h => match g d e h with
    | .ok e1 h1 => gvs gs ds e1 h1
    | _ => .stuck
  | _, _, _, _ => .stuck
def gvTup (gs : List Gv) : Gv := fun d e h => match d with
  | .tup ds => gvs gs ds e h
  | _ => .stuck
def gvSubL (fo fi : Ev) : Gv := fun d e h => match fo e h with
  | .ok o h1 => match fi e h1 with
    | .ok i h2 => match o, i with
      | .ref n, .int k => match h2[n]? with
        | some (.lst xs) => match ixN xs.length k with
          | some j => .ok e (h2.set n (.lst (xs.set j d)))
          | none => .stuck
        | _ => .stuck
      | _, _ => .stuck
    | _ => .stuck
  | _ => .stuck
section
variable {X : Cx}
theorem PG.imp {tg : Expr} {t t' : TG} (h : PG X tg t) (q : ∀ v σ H Q, t' v σ H Q → t v σ H Q) : PG X tg t' := ⟨fun pins s σ H v u Q I r z => h.run pins s σ H v u Q I r (q v σ H Q z)⟩
theorem PGs.imp {tg : List Expr} {t t' : TGs} (h : PGs X tg t) (q : ∀ v σ H Q, t' v σ H Q → t v σ H Q) : PGs X tg t' := ⟨fun pins s σ H v u Q I r z => h.run pins s σ H v u Q I r (q v σ H Q z)⟩
theorem OkG.after {K : PySem.W.Frag} {mg : Str → Option Value} {r r1 : List Addr} {H H1 : Hp} {Q : L2.St → Hp → Prop} {o : Out Env} (s : Step r H r1 H1) (q : OkG K mg r H Q o) : OkG K mg r1 H1 Q o := by
  cases o with
  | ok e' h' => exact fun σ' r' H' s' => q σ' r' H' (s.trans s')
  | _ => exact q
theorem den_gname {i : Nat} {x : Str} {pos : Pos} (hN : X.N.Nodup) (hi : X.N[i]? = some x) (hx : Loc X.env.scope x) (hf : X.fn x = true ∨ X.env.scope.names.lookup x = some .local := by first | exact .inl rfl | exact .inr rfl | assumption) : DenG X (.Name x pos) (gvName i) :=
  PG.imp (pg_name hN hi hx hf) fun v σ H Q ⟨r, e, h, d, er, hr, q, ok⟩ => ok _ r H (Step.refl r H) (er.set i q) hr
theorem den_gnil : DenGs X [] (gvs []) := PGs.imp pgs_nil fun vs σ H Q ⟨r, e, h, ds, er, hr, q, ok⟩ => by
  cases q with
  | nil => exact ⟨rfl, ok _ r H (Step.refl r H) er hr⟩
  | cons => exact ok.elim
theorem den_gcons {t : Expr} {ts : List Expr} {g : Gv} {gs : List Gv} (hg : DenG X t g) (hgs : DenGs X ts (gvs gs)) (hs : (assignEach (t :: ts) X.env).map (·.2) = assign t X.env :: (assignEach ts X.env).map (·.2) := by rfl) : DenGs X (t :: ts) (gvs (g :: gs)) :=
  PGs.imp (pgs_cons hg hgs hs) fun vs σ H Q ⟨r, e, h, ds, er, hr, q, ok⟩ => by
    cases q with
    | nil => exact ok.elim
    | @cons v vs d ds q1 q2 =>
      refine ⟨v, vs, rfl, r, e, h, d, er, hr, q1, ?_⟩
      simp only [gvs] at ok
      cases hgd : g d e h with
      | ok e1 h1 => rw [hgd] at ok; exact fun σ' r' H' s' er' hr' => ⟨r', e1, h1, ds, er', hr', q2.mono s'.mn, OkG.after s' ok⟩
      | stuck => rw [hgd] at ok; exact ok.elim
      | exc x h1 => rw [hgd] at ok; exact ok.elim
theorem gvs_len : ∀ {gs : List Gv} {ds : List D} {e : Env} {h : AH} {e' : Env} {h' : AH}, gvs gs ds e h = .ok e' h' → ds.length = gs.length
  | [], [], _, _, _, _, _ => rfl
  | [], _ :: _, _, _, _, _, z => by simp [gvs] at z
  | _ :: _, [], _, _, _, _, z => by simp [gvs] at z
  | g :: gs, d :: ds, e, h, e', h', z => by
    simp only [gvs] at z
    split at z
    · rw [List.length_cons, List.length_cons, gvs_len z]
    · cases z
theorem den_gtup {ts : List Expr} {gs : List Gv} {k : Nat} {pos : Pos} (hc : X.calm = true) (hg : DenGs X ts (gvs gs)) (hn : (assignEach ts X.env).length = gs.length := by rfl) (hst : (assignEach ts X.env).findIdx? (·.1) = none := by rfl) : DenG X (.Tuple ts k pos) (gvTup gs) :=
  PG.imp (pg_tup (n := gs.length) hc hg hn hst) fun v σ H Q ⟨r, e, h, d, er, hr, q, ok⟩ => by
    cases d with
    | tup ds =>
      obtain ⟨a, vs, rfl, h1, h2⟩ := RelU.tup_inv (RelT.val q : RelU X.K X.mg r H v (.tup ds))
      refine ⟨a, vs, rfl, h1.sq, ?_, r, e, h, ds, er, hr, h2, ok⟩
      rw [h2.length]
      simp only [gvTup] at ok
      cases hz : gvs gs ds e h with
      | ok e1 h1 => exact gvs_len hz
      | stuck => rw [hz] at ok; exact ok.elim
      | exc => rw [hz] at ok; exact ok.elim
    | _ => exact ok.elim
theorem den_gsubL {o i : Expr} {pos : Pos} {fo fi : Ev} {W : Wx} (ho : DenE X W o fo) (hi : DenE X W i fi)
    (ha : ∀ z, assign (.Subscript o i pos) X.env z = (do
      let zo ← holding [z] (eval o X.env)
      let zi ← holding [z, zo] (eval i X.env)
      standAt pos
      holding [z, zo, zi] (setItem zo zi z)
      release [z, zo, zi] []) := by intro _; rfl) : DenG X (.Subscript o i pos) (gvSubL fo fi) :=
  PG.imp (pg_sub ho hi set_list ha) fun v σ H Q ⟨r, e, h, d, er, hr, q, ok⟩ => by
    unfold gvSubL at ok
    refine ⟨r, e, h, er, hr, ?_⟩
    cases hfo : fo e h with
    | stuck => rw [hfo] at ok; exact ok.elim
    | exc => rw [hfo] at ok; exact ok.elim
    | ok o h1 =>
      rw [hfo] at ok
      dsimp only at ok
      refine fun v1 r1 H1 s1 hr1 t1 => ⟨r1, e, h1, er.mono s1.mn, hr1, ?_⟩
      cases hfi : fi e h1 with
      | stuck => rw [hfi] at ok; exact ok.elim
      | exc => rw [hfi] at ok; exact ok.elim
      | ok i h2 =>
        rw [hfi] at ok
        dsimp only at ok
        refine fun v2 r2 H2 s2 hr2 t2 => ?_
        split at ok
        · rename_i n k
          split at ok
          · rename_i xs hx
            split at ok
            · rename_i j hj
              obtain ⟨p, vs, rfl, h5, h6⟩ := lstOf_inv (d := .ref n) (xs := xs) hr2 (t1.mono s2).u (by simp only [lstOf, hx])
              obtain rfl := t2.u.int_inv
              have hn : r2[n]? = some p := by
                cases (t1.mono s2) with
                | val z => exact z.ref_inv
              have hp : p ∈ r2 := List.mem_of_getElem? hn
              have s3 : Step r2 H2 r2 (upd H2 p (.lst (vs.set j v))) := Step.mut hp (by rw [h5]; exact fun _ _ z => nomatch z)
              have q2 : Rel X.K X.mg r2 H2 v d := (q.mono s1.mn).mono s2.mn
              refine ⟨p, vs, k, j, rfl, rfl, h5, by rw [h6.length]; exact hj, ?_⟩
              refine ok σ r2 _ ((s1.trans s2).trans s3) (((er.mono s1.mn).mono s2.mn).mono s3.mn) ?_
              exact hr2.put (ob := .lst (xs.set j d)) hn ⟨vs.set j v, upd_same, (h6.set q2 j).mono s3.mn⟩
            · exact ok.elim
          · exact ok.elim
        · exact ok.elim
end
def svNil : Sv := fun e h => .nx e h
def svSeq (a b : Sv) : Sv := fun e h => match a e h with
  | .nx e1 h1 => b e1 h1
  | o => o
def svExpr (f : Ev) : Sv := fun e h => (f e h).toFl e fun _ h1 => .nx e h1
def svRet (f : Ev) : Sv := fun e h => (f e h).toFl e fun d h1 => .ret d h1
def svIf (t : Tv) (a b : Sv) : Sv := fun e h => (t e h).toFl e fun c h1 => if c then a e h1 else b e h1
def svAsg (f : Ev) (g : Gv) : Sv := fun e h => (pv f e h).toFl e fun d h1 => match g d e h1 with
  | .ok e1 h2 => .nx e1 h2
  | _ => .stuck
section
variable {X : Cx} {W : Wx}
theorem den_bnil : DenB X W [] svNil := PSs.imp pss_nil fun N σ H ⟨r, e, h, er, hr, ok⟩ => ok σ r H (Step.refl r H) er hr
theorem den_bcons {st : Stmt} {sts : List Stmt} {a b : Sv} (ha : DenS X W st a) (hb : DenB X W sts b) : DenB X W (st :: sts) (svSeq a b) := PSs.imp (pss_cons ha hb) fun N σ H ⟨r, e, h, er, hr, ok⟩ => by
  refine ⟨r, e, h, er, hr, ?_⟩
  unfold svSeq at ok
  cases ha : a e h with
  | nx e1 h1 => rw [ha] at ok; exact fun σ' r' H' s er' hr' => ⟨r', e1, h1, er', hr', OkS.after s ok⟩
  | stuck => rw [ha] at ok; exact ok
  | ret d h1 => rw [ha] at ok; exact ok
  | brk e1 h1 => rw [ha] at ok; exact ok
  | cont e1 h1 => rw [ha] at ok; exact ok
  | exc x e1 h1 => rw [ha] at ok; exact ok
theorem den_bone {st : Stmt} {a : Sv} (ha : DenS X W st a) : DenB X W [st] a := pss_one ha
theorem den_expr {ex : Expr} {pos : Pos} {f : Ev} (hf : DenE X W ex f) (hs : swapsWith ex none pos.line X.env = pure false := by rfl) : DenS X W (.Expr ex pos) (svExpr f) := PS.imp (ps_expr hf hs) fun N σ H ⟨r, e, h, er, hr, ok⟩ => by
  unfold svExpr at ok
  exact rdE_bindS er hr ok fun d h1 v r1 H1 s1 hr1 t1 er1 ok1 => ok1 σ r1 H1 (Step.refl _ _) er1 hr1
theorem den_ret {ex : Expr} {pos : Pos} {f : Ev} (hf : DenE X W ex f) : DenS X W (.Return (some ex) pos) (svRet f) := PS.imp (ps_ret hf) fun N σ H ⟨r, e, h, er, hr, ok⟩ => by
  unfold svRet at ok
  refine ⟨r, e, h, er, hr, ?_⟩
  cases hfe : f e h with
  | stuck => rw [hfe] at ok; exact ok
  | ok d h1 => rw [hfe] at ok; exact ok
  | exc x h1 => rw [hfe] at ok; exact fun c dx r' H' s hr' t => ok c dx σ r' H' s (er.mono s.mn) hr' t
theorem den_ifS {c : Expr} {a b : List Stmt} {pos : Pos} {t : Tv} {fa fb : Sv} (hc : DenT X W c t) (ha : DenB X W a fa) (hb : DenB X W b fb) : DenS X W (.If c a b pos) (svIf t fa fb) := PS.imp (ps_if hc ha hb) fun N σ H ⟨r, e, h, er, hr, ok⟩ => by
  unfold svIf at ok
  refine rdT_bindS er hr ok fun d h1 r1 H1 s1 hr1 er1 ok1 => ?_
  cases d with
  | true => rw [if_pos rfl]; exact ⟨r1, e, h1, er1, hr1, ok1⟩
  | false => rw [if_neg Bool.false_ne_true]; exact ⟨r1, e, h1, er1, hr1, ok1⟩
theorem rd_asg {K : PySem.W.Frag} {mg : Str → Option Value} {f : Ev} {g : Gv} {N : Ends} {σ : L2.St} {H : Hp} (q : rdS K mg W (svAsg f g) N σ H) : tAsg (rdV K mg W (pv f)) (rdG K mg g) N σ H := by
  obtain ⟨r, e, h, er, hr, ok⟩ := q
  unfold svAsg at ok
  refine rdV_bindS er hr ok fun d h1 v r1 H1 s1 hr1 t1 er1 ok1 => ?_
  refine ⟨r1, e, h1, d, er1, hr1, t1, ?_⟩
  cases hg : g d e h1 with
  | ok e1 h2 => rw [hg] at ok1; exact fun σ' r' H' s er' hr' => ok1 σ' r' H' s er' hr'
  | stuck => rw [hg] at ok1; exact ok1
  | exc => rw [hg] at ok1; exact ok1
theorem den_asg {tg ex : Expr} {pos : Pos} {f : Ev} {g : Gv} (hf : DenE X W ex f) (hg : DenG X tg g) (hs : swapsWithSole [tg] ex pos.line X.env = pure false := by rfl) (hw : swappedStores [tg] ex X.env = pure none := by rfl) (h1 : (assignEach [tg] X.env).map (·.2) = [assign tg X.env] := by rfl) : DenS X W (.Assign [tg] ex pos) (svAsg f g) := by
  exact PS.imp (ps_asg (den_pv hf) hg hs hw h1) fun N σ H q => rd_asg q
theorem den_set {i : Nat} {x : Str} {ex : Expr} {pos pos' : Pos} {f : Ev} (hN : X.N.Nodup) (hi : X.N[i]? = some x) (hx : Loc X.env.scope x) (hf : DenE X W ex f) (hs : swapsWith ex (some (.Name x pos')) pos.line X.env = pure false := by rfl) (hfn : X.fn x = true ∨ X.env.scope.names.lookup x = some .local := by first | exact .inl rfl | exact .inr rfl | assumption) : DenS X W (.Assign [.Name x pos'] ex pos) (svAsg f (gvName i)) :=
  PS.imp (ps_set hN hi hx (den_pv hf) hs hfn) fun N σ H q => by
    obtain ⟨r, e, h, er, hr, ok⟩ := q
    unfold svAsg at ok
    exact rdV_bindS er hr ok fun d h1 v r1 H1 s1 hr1 t1 er1 ok1 => ok1 _ r1 H1 (Step.refl _ _) (er1.set i t1) hr1
end
end BW

set_option Elab.async false
set_option linter.all false
set_option maxRecDepth 100000
set_option maxHeartbeats 4000000
namespace BW
open PySem PySem.Spec PyProof.Rows L2
variable [Tb]
inductive GO where
  | lst (xs : List D)
  | two (xs : List D) (m : Nat) (ys : List D)
  deriving DecidableEq
structure Its where
  xs : List D
  /-- the list that must stay as it is -/
  g : Option (Nat × GO) := none
def guardOk (g : Option (Nat × GO)) (h : AH) : Bool := match g with
  | none => true
  | some (n, .lst xs) => decide (h[n]? = some (.lst xs))
  | some (n, .two xs m ys) => decide (h[n]? = some (.lst xs)) && decide (h[m]? = some (.lst ys))
abbrev Iv := Env → AH → Out Its
section
variable (K : PySem.W.Frag) (mg : Str → Option Value)
def WalkRel (J : It) (r : List Addr) (H : Hp) (it : Its) : Prop := ∃ (G : Hp → Prop) (Y : Nat → Hp → V → Hp → Prop), Walk J it.xs.length G Y ∧
  (∀ r' H' h', Step r H r' H' → HRel K mg r' h' H' → guardOk it.g h' = true → G H') ∧
  (∀ i r1 h1 H1 x H2, i < it.xs.length → Step r H r1 H1 → HRel K mg r1 h1 H1 → guardOk it.g h1 = true → Y i H1 x H2 → Step r1 H1 r1 H2 ∧ HRel K mg r1 h1 H2 ∧ ∃ d, it.xs[i]? = some d ∧ Rel K mg r1 H2 x d)
def OkI (W : Wx) (σ : L2.St) (r : List Addr) (H : Hp) (R : It → Hp → Prop) : Out Its → Prop
  | .stuck => False
  | .ok it h' => ∀ J r' H', Step r H r' H' → HRel K mg r' h' H' → WalkRel K mg J r' H' it → R J H'
  | .exc x h' => ∀ c dx r' H', Step r H r' H' → HRel K mg r' h' H' → ExRel K mg r' H' c dx x → W c dx σ H'
def rdI (W : Wx) (f : Iv) : TI := fun σ H R => ∃ r e h, ERel K mg r e σ H ∧ HRel K mg r h H ∧ OkI K mg W σ r H R (f e h)
end
abbrev DenI (X : Cx) (W : Wx) (tg iter : Expr) (f : Iv) : Prop := PI X tg iter (rdI X.K X.mg W f)
section
variable {X : Cx} {W : Wx}
theorem PI.imp {tg iter : Expr} {t t' : TI} (h : PI X tg iter t) (q : ∀ σ H R, t' σ H R → t σ H R) : PI X tg iter t' := ⟨fun pins s σ H R I z => h.run pins s σ H R I (q σ H R z)⟩
theorem PI.or {tg iter : Expr} {t u : TI} (h : PI X tg iter t) (h' : PI X tg iter u) : PI X tg iter (fun σ H R => t σ H R ∨ u σ H R) := ⟨fun pins s σ H R I z => by
  rcases z with z | z
  · exact h.run pins s σ H R I z
  · exact h'.run pins s σ H R I z⟩
def itsOf (h : AH) : D → Option Its
  | .tup xs => some { xs := xs }
  | .tl xs => some { xs := xs }
  | .rl xs => some { xs := xs }
  | .ref n => match h[n]? with
    | some (.lst xs) => some { xs := xs, g := some (n, .lst xs) }
    | _ => none
  | _ => none
def ivSeq (f : Ev) : Iv := fun e h => (f e h).bind fun d h1 => match itsOf h1 d with
  | some it => .ok it h1
  | none => .stuck
theorem yat_ok {K : PySem.W.Frag} {mg : Str → Option Value} {r : List Addr} {H : Hp} {vs : List V} {xs : List D} (q : Rels K mg r H vs xs) : ∀ i r1 h1 H1 x H2, i < xs.length → Step r H r1 H1 → HRel K mg r1 h1 H1 → YAt vs i H1 x H2 → Step r1 H1 r1 H2 ∧ HRel K mg r1 h1 H2 ∧ ∃ d, xs[i]? = some d ∧ Rel K mg r1 H2 x d := by
  rintro i r1 h1 H1 x H2 hi s hr ⟨rfl, hx⟩
  obtain ⟨d, h1, h2⟩ := (q.mono s.mn).get hx
  exact ⟨Step.refl _ _, hr, d, h1, h2⟩
theorem walk_len {J : It} {n m : Nat} {G : Hp → Prop} {Y : Nat → Hp → V → Hp → Prop} (w : Walk J n G Y) (e : n = m) : Walk J m G Y := e ▸ w
theorem itsOf_list {K : PySem.W.Frag} {mg : Str → Option Value} {r : List Addr} {h : AH} {H : Hp} {v : V} {d : D} {it : Its} (hr : HRel K mg r h H) (q : RelU K mg r H v d) (e : itsOf h d = some it) (ht : ∀ xs, d ≠ .tup xs) :
    ∃ a vs, v = .ref a ∧ SqL K H a vs ∧ WalkRel K mg (Itl K a) r H it := by
  cases q with
  | @tl p vs xs a b c q =>
    cases e
    refine ⟨p, vs, rfl, .inl (.inl b), _, _, walk_len walk_list q.length, fun r' H' h' s _ _ => .inl (.inl (s.keep _ _ b c NoOwn.of)), fun i r1 h1 H1 x H2 hi s hr1 _ y => yat_ok q i r1 h1 H1 x H2 hi s hr1 y⟩
  | val q => cases q with
    | tup => exact absurd rfl (ht _)
    | @ref n a hn =>
      simp only [itsOf] at e
      split at e
      · rename_i xs hx
        cases e
        obtain ⟨vs, h1, h2⟩ := hr.obj _ _ _ hx hn
        refine ⟨a, vs, rfl, .inl (.inl h1), fun H => ∃ ws, SqL K H a ws ∧ ws.length = xs.length, fun i H1 x H2 => H2 = H1 ∧ ∀ ws, SqL K H1 a ws → ws[i]? = some x, ?_, ?_, ?_⟩
        · refine ⟨fun i H hi ⟨ws, z1, z2⟩ => ⟨ws, ws[i]'(by rw [z2]; exact hi), z1, by simp [z2, hi]⟩, fun H ⟨ws, z1, z2⟩ => ⟨ws, z1, by rw [z2]; exact Nat.le_refl _⟩, fun i H x H' hi ⟨ws, z1, z2⟩ y => ⟨y.1, y.2⟩⟩
        · intro r' H' h' s hr' hg
          simp only [guardOk, decide_eq_true_eq] at hg
          obtain ⟨ws, z1, z2⟩ := hr'.obj _ _ _ hg (s.get hn)
          exact ⟨ws, .inl (.inl z1), z2.length⟩
        · rintro i r1 h1 H1 x H2 hi s hr1 hg ⟨rfl, y⟩
          simp only [guardOk, decide_eq_true_eq] at hg
          obtain ⟨ws, z1, z2⟩ := hr1.obj _ _ _ hg (s.get hn)
          obtain ⟨d, z3, z4⟩ := z2.get (y ws (.inl (.inl z1)))
          exact ⟨Step.refl _ _, hr1, d, z3, z4⟩
      · cases e
    | @rl a vs xs h1 h2 =>
      cases e
      exact ⟨a, vs, rfl, h1.sq, _, _, walk_len walk_list h2.length, fun r' H' h' s _ _ => (h1.mono s.mn).sq, fun i r1 h1 H1 x H2 hi s hr1 _ y => yat_ok h2 i r1 h1 H1 x H2 hi s hr1 y⟩
    | _ => cases e
theorem walk_tuple {K : PySem.W.Frag} {mg : Str → Option Value} {r : List Addr} {H : Hp} {a : Addr} {vs : List V} {xs : List D} (h1 : SqTr K H r a vs) (h2 : Rels K mg r H vs xs) : WalkRel K mg (Itt K a) r H { xs := xs } :=
  ⟨_, _, walk_len walk_tup h2.length, fun r' H' h' s _ _ => (h1.mono s.mn).sq, fun i r1 h1 H1 x H2 hi s hr1 _ y => yat_ok h2 i r1 h1 H1 x H2 hi s hr1 y⟩
theorem rdI_bind {K : PySem.W.Frag} {mg : Str → Option Value} {σ : L2.St} {r : List Addr} {e : Env} {H : Hp} {h : AH} {f : Ev} {k : D → AH → Out Its} {R : It → Hp → Prop} {Q' : VK} (er : ERel K mg r e σ H) (hr : HRel K mg r h H) (ok : OkI K mg W σ r H R ((f e h).bind k))
    (hk : ∀ d h1 v r1 H1, f e h = .ok d h1 → Step r H r1 H1 → HRel K mg r1 h1 H1 → RelT K mg H r1 H1 v d → ERel K mg r1 e σ H1 → OkI K mg W σ r1 H1 R (k d h1) → Q' v H1) : rdE K mg W f σ H Q' := by
  refine ⟨r, e, h, er, hr, ?_⟩
  cases hf : f e h with
  | stuck => rw [hf] at ok; exact ok
  | ok d h1 =>
    rw [hf] at ok
    refine fun v r1 H1 s q t => hk d h1 v r1 H1 hf s q t (er.mono s.mn) ?_
    rw [Out.bind_ok] at ok
    cases hkd : k d h1 with
    | stuck => rw [hkd] at ok; exact ok
    | ok it h' => rw [hkd] at ok; exact fun J r' H' s' => ok J r' H' (s.trans s')
    | exc x h' => rw [hkd] at ok; exact fun c dx r' H' s' => ok c dx r' H' (s.trans s')
  | exc x h1 => rw [hf] at ok; exact ok
theorem den_iseq {tg ex : Expr} {f : Ev} (hf : DenE X W ex f) : DenI X W tg ex (ivSeq f) := PI.imp (PI.or (pi_list hf) (pi_tup hf)) fun σ H R ⟨r, e, h, er, hr, ok⟩ => by
  unfold ivSeq at ok
  cases hfe : f e h with
  | stuck => rw [hfe] at ok; exact ok.elim
  | exc x h1 => exact .inl ⟨r, e, h, er, hr, by rw [hfe] at ok ⊢; exact ok⟩
  | ok d h1 =>
    cases hi : itsOf h1 d with
    | none => rw [hfe, Out.bind_ok, hi] at ok; exact ok.elim
    | some it =>
      by_cases ht : ∃ xs, d = .tup xs
      · obtain ⟨xs, rfl⟩ := ht
        cases hi
        refine .inr (rdI_bind er hr ok fun d' h1' v r1 H1 hz s1 hr1 t1 er1 ok1 => ?_)
        rw [hfe] at hz
        cases hz
        obtain ⟨a, vs, rfl, z1, z2⟩ := t1.u.tup_inv
        exact ⟨a, rfl, ⟨vs, z1.sq⟩, ok1 _ r1 H1 (Step.refl _ _) hr1 (walk_tuple z1 z2)⟩
      · refine .inl (rdI_bind er hr ok fun d' h1' v r1 H1 hz s1 hr1 t1 er1 ok1 => ?_)
        rw [hfe] at hz
        cases hz
        obtain ⟨a, vs, rfl, z1, z2⟩ := itsOf_list hr1 t1.u hi (fun xs z => ht ⟨xs, z⟩)
        rw [hi] at ok1
        exact ⟨a, rfl, ⟨vs, z1⟩, ok1 _ r1 H1 (Step.refl _ _) hr1 z2⟩
def rangeD (lo : Int) (n : Nat) : List D := (List.range n).map fun i => .int (lo + (i : Nat))
def in62 (i : Int) : Bool := decide (-(2 ^ 62) ≤ i) && decide (i < 2 ^ 62)
theorem walk_rng {K : PySem.W.Frag} {mg : Str → Option Value} {r : List Addr} {H : Hp} {lo : Int} {n : Nat} : WalkRel K mg (Itr lo n) r H { xs := rangeD lo n } := by
  have hl : (rangeD lo n).length = n := by simp [rangeD]
  refine ⟨_, _, walk_len walk_range hl.symm, fun _ _ _ _ _ _ => trivial, ?_⟩
  rintro i r1 h1 H1 x H2 hi s hr1 _ ⟨rfl, rfl⟩
  rw [show (Its.mk (rangeD lo n) none).xs = rangeD lo n from rfl, hl] at hi
  exact ⟨Step.refl _ _, hr1, .int (lo + i), by simp [rangeD, hi], .int _⟩
end
end BW

set_option Elab.async false
set_option linter.all false
set_option maxRecDepth 100000
set_option maxHeartbeats 4000000
namespace BW
open PySem PySem.Spec PyProof.Rows L2
variable [Tb]
section
variable {X : Cx} {W : Wx}
theorem OkI.after {K : PySem.W.Frag} {mg : Str → Option Value} {σ : L2.St} {r r1 : List Addr} {H H1 : Hp} {R : It → Hp → Prop} {o : Out Its} (s : Step r H r1 H1) (q : OkI K mg W σ r H R o) : OkI K mg W σ r1 H1 R o := by
  cases o with
  | stuck => exact q
  | ok it h' => exact fun J r' H' s' => q J r' H' (s.trans s')
  | exc x h' => exact fun c dx r' H' s' => q c dx r' H' (s.trans s')
def ivBy (fs : List Ev) (k : List D → AH → Out Its) : Iv := fun e h => (evs fs e h).bind k
theorem rdA_bindI {K : PySem.W.Frag} {mg : Str → Option Value} {σ : L2.St} {r : List Addr} {e : Env} {H : Hp} {h : AH} {f : Av} {k : List D → AH → Out Its} {R : It → Hp → Prop} {Q' : List V → Hp → Prop} (er : ERel K mg r e σ H) (hr : HRel K mg r h H) (ok : OkI K mg W σ r H R ((f e h).bind k))
    (hk : ∀ d h1 v r1 H1, Step r H r1 H1 → HRel K mg r1 h1 H1 → RelTs K mg r1 H1 v d → ERel K mg r1 e σ H1 → OkI K mg W σ r1 H1 R (k d h1) → Q' v H1) : rdA K mg W f σ H Q' := by
  refine ⟨r, e, h, er, hr, ?_⟩
  cases hf : f e h with
  | stuck => rw [hf] at ok; exact ok
  | ok d h1 => rw [hf] at ok; exact fun v r1 H1 s q t => hk d h1 v r1 H1 s q t (er.mono s.mn) (OkI.after s ok)
  | exc x h1 => rw [hf] at ok; exact ok
def kR1 : List D → AH → Out Its
  | [.int n], h => if in62 n then .ok { xs := rangeD 0 n.toNat } h else .stuck
  | _, _ => .stuck
def kR2 : List D → AH → Out Its
  | [.int a, .int b], h => if in62 a && in62 b then .ok { xs := rangeD a (b - a).toNat } h else .stuck
  | _, _ => .stuck
theorem in62_ok {i : Int} (h : in62 i = true) : -(2 ^ 62) ≤ i ∧ i < 2 ^ 62 := by
  unfold in62 at h
  simpa [Bool.and_eq_true, decide_eq_true_eq] using h
theorem den_range1 {a tg : Expr} {p pos : Pos} {f : Ev} (hg : Gl X "range") (hm : X.mg "range" = none) (ha : DenA X W [a] (evs [f])) (hs : starEach [a] X.env = [(false, eval a X.env)] := by rfl) : DenI X W tg (.Call (.Name "range" p) [a] [] pos) (ivBy [f] kR1) :=
  PI.imp (pi_range1 hg hm ha hs) fun σ H R ⟨r, e, h, er, hr, ok⟩ => by
    refine rdA_bindI (k := kR1) er hr ok fun ds h1 vs r1 H1 s1 hr1 t1 er1 ok1 => ?_
    unfold kR1 at ok1
    split at ok1
    · split at ok1
      · rename_i hz
        obtain ⟨v, rfl, t⟩ := t1.one
        obtain rfl := t.int_inv
        obtain ⟨z1, z2⟩ := in62_ok hz
        exact ⟨_, rfl, z1, z2, ok1 _ r1 H1 (Step.refl _ _) hr1 walk_rng⟩
      · exact ok1.elim
    · exact ok1.elim
theorem den_range2 {a b tg : Expr} {p pos : Pos} {f g : Ev} (hg : Gl X "range") (hm : X.mg "range" = none) (ha : DenA X W [a, b] (evs [f, g])) (hs : starEach [a, b] X.env = [(false, eval a X.env), (false, eval b X.env)] := by rfl) (hs2 : starEach [b] X.env = [(false, eval b X.env)] := by rfl) : DenI X W tg (.Call (.Name "range" p) [a, b] [] pos) (ivBy [f, g] kR2) :=
  PI.imp (pi_range2 hg hm ha hs hs2) fun σ H R ⟨r, e, h, er, hr, ok⟩ => by
    refine rdA_bindI (k := kR2) er hr ok fun ds h1 vs r1 H1 s1 hr1 t1 er1 ok1 => ?_
    unfold kR2 at ok1
    split at ok1
    · split at ok1
      · rename_i hz
        obtain ⟨v, v', rfl, t, t'⟩ := t1.two
        obtain rfl := t.int_inv
        obtain rfl := t'.int_inv
        obtain ⟨z0, z3⟩ := Bool.and_eq_true_iff.mp hz
        exact ⟨_, _, rfl, ⟨(in62_ok z0).1, (in62_ok z0).2, (in62_ok z3).1, (in62_ok z3).2⟩, ok1 _ r1 H1 (Step.refl _ _) hr1 walk_rng⟩
      · exact ok1.elim
    · exact ok1.elim
def forGo (g : Option (Nat × GO)) (gv : Gv) (body : Sv) : List D → Env → AH → Fl
  | [], e, h => if guardOk g h then .nx e h else .stuck
  | d :: ds, e, h => if guardOk g h then match gv d e h with
    | .ok e1 h1 => match body e1 h1 with
      | .nx e2 h2 => forGo g gv body ds e2 h2
      | .cont e2 h2 => forGo g gv body ds e2 h2
      | .brk e2 h2 => .nx e2 h2
      | o => o
    | _ => .stuck
    else .stuck
def svFor (iv : Iv) (gv : Gv) (body : Sv) : Sv := fun e h => (iv e h).toFl e fun it h1 => forGo it.g gv body it.xs e h1
theorem den_for {tg iter : Expr} {body : List Stmt} {pos : Pos} {iv : Iv} {gv : Gv} {fb : Sv} (hp : PassesOwn (model X.prog X.w) X.A X.env X.xe) (hc : X.calm = true) (hi : DenI X W tg iter iv) (hg : DenG X tg gv) (hb : DenB X W body fb)
    (hs : ∀ x, foldedSetIterable iter X.env x = pure x := by intro _; rfl) : DenS X W (.For tg iter body [] pos) (svFor iv gv fb) :=
  PS.imp (ps_for hp hc hi hg hb hs) fun N σ H ⟨r, e, h, er, hr, ok⟩ => by
    unfold svFor at ok
    refine ⟨r, e, h, er, hr, ?_⟩
    cases hiv : iv e h with
    | stuck => rw [hiv] at ok; exact ok
    | exc x h1 => rw [hiv] at ok; exact fun c dx r' H' s q t => ok c dx σ r' H' s (er.mono s.mn) q t
    | ok it h1 =>
      rw [hiv, Out.toFl_ok] at ok
      intro J r1 H1 s1 hr1 ⟨G, Y, wk, wg, wy⟩
      refine for_it wk (fun i σ' H' => ∃ r' e' h', Step r1 H1 r' H' ∧ ERel X.K X.mg r' e' σ' H' ∧ HRel X.K X.mg r' h' H' ∧ OkS X.K X.mg W r' H' N (forGo it.g gv fb (it.xs.drop i) e' h'))
        ⟨r1, e, h1, Step.refl _ _, er.mono s1.mn, hr1, OkS.after s1 ok⟩ ?_ ?_ ?_
      · rintro i σ' H' hi ⟨r', e', h', s', er', hr', ok'⟩
        refine wg r' H' h' s' hr' ?_
        cases hd : it.xs.drop i with
        | nil =>
          rw [hd] at ok'
          simp only [forGo] at ok'
          split at ok'
          · assumption
          · exact ok'.elim
        | cons d ds =>
          rw [hd] at ok'
          simp only [forGo] at ok'
          split at ok'
          · assumption
          · exact ok'.elim
      · rintro i x σ' H' H2 hi ⟨r', e', h', s', er', hr', ok'⟩ hy
        have hd : it.xs.drop i = it.xs[i] :: it.xs.drop (i + 1) := List.drop_eq_getElem_cons hi
        rw [hd] at ok'
        simp only [forGo] at ok'
        split at ok'
        · rename_i hgd
          obtain ⟨s2, hr2, d, hd2, q2⟩ := wy i r' h' H' x H2 hi s' hr' hgd hy
          rw [List.getElem?_eq_getElem hi] at hd2
          cases hd2
          refine ⟨r', e', h', _, er'.mono s2.mn, hr2, q2, ?_⟩
          cases hgv : gv it.xs[i] e' h' with
          | stuck => rw [hgv] at ok'; exact ok'
          | exc => rw [hgv] at ok'; exact ok'
          | ok e3 h3 =>
            rw [hgv] at ok'
            dsimp only at ok'
            intro σ3 r3 H3 s3 er3 hr3
            refine ⟨r3, e3, h3, er3, hr3, ?_⟩
            have ok3 := OkS.after (s2.trans s3) ok'
            cases hbd : fb e3 h3 with
            | stuck => rw [hbd] at ok3; exact ok3
            | nx e4 h4 =>
              rw [hbd] at ok3
              exact fun σ4 r4 H4 s4 er4 hr4 => ⟨r4, e4, h4, ((s'.trans s2).trans s3).trans s4, er4, hr4, OkS.after s4 ok3⟩
            | cont e4 h4 =>
              rw [hbd] at ok3
              exact fun σ4 r4 H4 s4 er4 hr4 => ⟨r4, e4, h4, ((s'.trans s2).trans s3).trans s4, er4, hr4, OkS.after s4 ok3⟩
            | brk e4 h4 => rw [hbd] at ok3; exact ok3
            | ret d h4 => rw [hbd] at ok3; exact ok3
            | exc x e4 h4 => rw [hbd] at ok3; exact ok3
        · exact ok'.elim
      · rintro σ' H' ⟨r', e', h', s', er', hr', ok'⟩
        rw [List.drop_length] at ok'
        simp only [forGo] at ok'
        split at ok'
        · exact ok' σ' r' H' (Step.refl _ _) er' hr'
        · exact ok'.elim
end
end BW

set_option Elab.async false
set_option linter.all false
set_option maxRecDepth 100000
set_option maxHeartbeats 4000000
namespace BW
open PySem PySem.Spec PyProof.Rows L2
variable [Tb]
def wipeE (e : Env) : List Nat → Env
  | [] => e
  | v :: vs => (wipeE e vs).set v none
def lcGo (g : Option (Nat × GO)) (gv : Gv) (tt : Tv) (elt : Ev) (e : Env) : List D → AH → Out (List D)
  | [], h => if guardOk g h then .ok [] h else .stuck
  | d :: ds, h => if guardOk g h then match gv d e h with
    | .ok e1 h1 => match tt e1 h1 with
      | .ok true h2 => match pv elt e1 h2 with
        | .ok y h3 => (lcGo g gv tt elt e ds h3).bind fun ys h4 => .ok (y :: ys) h4
        | _ => .stuck
      | .ok false h2 => lcGo g gv tt elt e ds h2
      | _ => .stuck
    | _ => .stuck
    else .stuck
def evLc (iv : Iv) (own : List Nat) (gv : Gv) (tt : Tv) (elt : Ev) : Ev := fun e h => (iv e h).bind fun it h1 => if it.xs.length < 16777216 then (lcGo it.g gv tt elt (wipeE e own) it.xs h1).bind fun ds h2 => .ok (.tl ds) h2 else .stuck
def tvYes : Tv := fun _ h => .ok true h
inductive Tgt where
  | one (i : Nat)
  | two (i j : Nat)
  | three (i j k : Nat)
def Tgt.gv : Tgt → Gv
  | .one i => gvName i
  | .two i j => gvTup [gvName i, gvName j]
  | .three i j k => gvTup [gvName i, gvName j, gvName k]
def Tgt.own : Tgt → List Nat
  | .one i => [i]
  | .two i j => [i, j]
  | .three i j k => [i, j, k]
section
variable {X : Cx} {W : Wx}
abbrev W0 : Wx := fun _ _ _ _ => False
theorem wipe_set {σ : L2.St} {v : Option V} {i : Nat} : ∀ {vs : List Nat}, i ∈ vs → wipe (σ.set i v) vs = wipe σ vs
  | [], h => by cases h
  | w :: vs, h => by
    unfold wipe
    by_cases hm : i ∈ vs
    · rw [wipe_set hm]
    · rcases List.mem_cons.mp h with rfl | h
      · have : ∀ (ws : List Nat), i ∉ ws → wipe (σ.set i v) ws = (wipe σ ws).set i v := by
          intro ws
          induction ws with
          | nil => intro _; rfl
          | cons a ws ih =>
            intro hn
            unfold wipe
            rw [ih (fun z => hn (List.mem_cons_of_mem _ z)), List.set_comm _ _ (fun z => hn (by rw [z]; exact List.mem_cons_self))]
        rw [this vs hm, List.set_set]
      · exact absurd h hm
theorem wipe_sub {σ : L2.St} : ∀ (vs ws : List Nat), (∀ v ∈ vs, v ∈ ws) → L2.wipe (L2.wipe σ vs) ws = L2.wipe σ ws
  | [], _, _ => rfl
  | v :: vs, ws, h => by
    show L2.wipe ((L2.wipe σ vs).set v none) ws = _
    rw [wipe_set (h v List.mem_cons_self)]
    exact wipe_sub vs ws fun z hz => h z (List.mem_cons_of_mem _ hz)
theorem ERel.wipe {K : PySem.W.Frag} {mg : Str → Option Value} {r : List Addr} {e : Env} {σ : L2.St} {H : Hp} (q : ERel K mg r e σ H) : ∀ vs : List Nat, ERel K mg r (wipeE e vs) (L2.wipe σ vs) H
  | [] => q
  | v :: vs => by
    have ih := ERel.wipe q vs
    unfold wipeE L2.wipe
    refine ⟨by rw [List.length_set, List.length_set]; exact ih.len, fun j y hy => ?_⟩
    by_cases hj : v = j
    · subst hj
      rw [List.getElem?_set] at hy
      simp only [if_true] at hy
      split at hy <;> cases hy
    · rw [List.getElem?_set_ne hj] at hy ⊢
      exact ih.at_ j y hy
def Tgt.tg (K : PySem.W.Frag) : Tgt → TG
  | .one i => gName i
  | .two i j => gTup K 2 (gCons (gName i) (gCons (gName j) gNil))
  | .three i j k => gTup K 3 (gCons (gName i) (gCons (gName j) (gCons (gName k) gNil)))
theorem tgt_run {K : PySem.W.Frag} {mg : Str → Option Value} (tg : Tgt) {r : List Addr} {H : Hp} {σ : L2.St} {x : V} {d : D} {e e1 : Env} {h h1 : AH} {Q : L2.St → Hp → Prop} (z : tg.gv d e h = .ok e1 h1) (er : ERel K mg r e σ H) (q : Rel K mg r H x d)
    (k : ∀ σ1, ERel K mg r e1 σ1 H → L2.wipe σ1 tg.own = L2.wipe σ tg.own → h1 = h → Q σ1 H) : tg.tg K x σ H Q := by
  cases tg with
  | one i =>
    simp only [Tgt.gv, gvName] at z
    cases z
    exact k _ (er.set i q) (wipe_set (by simp [Tgt.own])) rfl
  | two i j =>
    simp only [Tgt.gv, gvTup] at z
    split at z
    · rename_i ds
      rcases ds with _ | ⟨a, _ | ⟨b, _ | ⟨c, ds⟩⟩⟩ <;> simp [gvs, gvName] at z
      obtain ⟨rfl, rfl⟩ := z
      obtain ⟨p, vs, rfl, h1, h2⟩ := RelU.tup_inv (RelT.val q : RelU K mg r H x _)
      cases h2 with
      | cons q1 h2 => cases h2 with
        | cons q2 h2 =>
          cases h2
          exact ⟨p, _, rfl, h1.sq, rfl, _, _, rfl, _, _, rfl, rfl, k _ ((er.set i q1).set j q2) (by rw [wipe_set (by simp [Tgt.own]), wipe_set (by simp [Tgt.own])]) rfl⟩
    · cases z
  | three i j l =>
    simp only [Tgt.gv, gvTup] at z
    split at z
    · rename_i ds
      rcases ds with _ | ⟨a, _ | ⟨b, _ | ⟨c, _ | ⟨c', ds⟩⟩⟩⟩ <;> simp [gvs, gvName] at z
      obtain ⟨rfl, rfl⟩ := z
      obtain ⟨p, vs, rfl, h1, h2⟩ := RelU.tup_inv (RelT.val q : RelU K mg r H x _)
      cases h2 with
      | cons q1 h2 => cases h2 with
        | cons q2 h2 => cases h2 with
          | cons q3 h2 =>
            cases h2
            exact ⟨p, _, rfl, h1.sq, rfl, _, _, rfl, _, _, rfl, _, _, rfl, rfl, k _ (((er.set i q1).set j q2).set l q3) (by rw [wipe_set (by simp [Tgt.own]), wipe_set (by simp [Tgt.own]), wipe_set (by simp [Tgt.own])]) rfl⟩
    · cases z
theorem Step.mutNew {r r' : List Addr} {H H' : Hp} {p : Addr} {o : HO} (s : Step r H r' H') (h0 : H p = none) : Step r H r' (upd H' p o) where
  pre := s.pre
  new := s.new
  keep := fun b u e hb ho => by rw [upd_ne (ne_of_none e h0)]; exact s.keep b u e hb ho
  stay := fun b f => by
    by_cases hb : b = p
    · rw [hb]; exact .of h0
    · exact s.stay b fun u e => f u (by rw [upd_ne hb]; exact e)
  frz := fun b u w e => by rw [upd_ne (ne_of_none e h0)]; exact s.frz b u w e
theorem Mn.mutNew {r : List Addr} {H : Hp} {p : Addr} {u o : HO} (hp : H p = some u) (hf : ¬ Fixed u) : Mn r H r (upd H p o) :=
  ⟨List.prefix_refl _, fun b w e hb hw => ⟨hb, by
    have ne : b ≠ p := fun z => by subst z; rw [hp] at e; cases e; exact hf hw
    rw [upd_ne ne]; exact e⟩⟩
theorem Mo.mutNew {r : List Addr} {H : Hp} {p : Addr} {u o : HO} (hp : H p = some u) (hf : ¬ Fixed u) (hn : NoOwn u) (ho : ∀ ps, o ≠ .tbl ps := by intro _ z; cases z) : Mo r H r (upd H p o) :=
  ⟨Mn.mutNew hp hf, fun b y e hb => ⟨hb, by
    have ne : b ≠ p := fun z => by subst z; rw [hp] at e; cases e; exact hn.1 y rfl
    rw [upd_ne ne]; exact e⟩, fun b y e hb => ⟨hb, by
    have ne : b ≠ p := fun z => by subst z; rw [hp] at e; cases e; exact hn.2 y rfl
    rw [upd_ne ne]; exact e⟩⟩
theorem HRel.mutNew {K : PySem.W.Frag} {mg : Str → Option Value} {r : List Addr} {h : AH} {H : Hp} {p : Addr} {u o : HO} (q : HRel K mg r h H) (hn : p ∉ r) (hp : H p = some u) (hf : ¬ Fixed u) (ho : NoOwn u) (ht : ∀ ps, o ≠ .tbl ps := by intro _ z; cases z) : HRel K mg r h (upd H p o) :=
  q.mono (Mo.mutNew hp hf ho ht) fun a ha => upd_ne fun z => hn (z ▸ ha)
theorem rd_lc {K : PySem.W.Frag} {mg : Str → Option Value} {iv : Iv} {tg : Tgt} {tt : Tv} {elt : Ev} {σ : L2.St} {H : Hp} {Q : VK} (q : rdE K mg W (evLc iv tg.own tg.gv tt elt) σ H Q) : tLc (rdI K mg W iv) (tg.tg K) (rdT K mg W0 tt) (rdV K mg W0 (pv elt)) tg.own σ H Q := by
  obtain ⟨r, e, h, er, hr, ok⟩ := q
  unfold evLc at ok
  refine ⟨r, e, h, er, hr, ?_⟩
  cases hiv : iv e h with
  | stuck => rw [hiv] at ok; exact ok
  | exc x h1 => rw [hiv] at ok; exact ok
  | ok it h1 =>
    rw [hiv, Out.bind_ok] at ok
    intro J r1 H1 s1 hr1 ⟨G, Y, wk, wg, wy⟩ A hA
    split at ok
    · rename_i hlen
      have sA : Step r1 H1 r1 (upd H1 A (.lst [])) := Step.alloc hA
      -- what is left to be done behind the rest
      refine lc_it wk (fun i H' => ∃ r' h' acc ys, Step r1 H1 r' H' ∧ A ∉ r' ∧ H' A = some (.lst acc) ∧ acc.length ≤ i ∧ Rels K mg r' H' acc ys ∧ HRel K mg r' h' H' ∧
          OkE K mg W σ r H Q ((lcGo it.g tg.gv tt elt (wipeE e tg.own) (it.xs.drop i) h').bind fun ds h2 => .ok (.tl (ys ++ ds)) h2))
        ⟨r1, h1, [], [], sA, fun z => hr1.there z hA, upd_same, Nat.le_refl _, .nil, hr1.alloc hA, by simpa using ok⟩ ?_ ?_ ?_
      · rintro i H' hi ⟨r', h', acc, ys, s', hn, hacc, hle, hys, hr', ok'⟩
        refine wg r' H' h' s' hr' ?_
        cases hd : it.xs.drop i with
        | nil =>
          rw [hd] at ok'
          simp only [lcGo] at ok'
          split at ok'
          · assumption
          · exact ok'.elim
        | cons d ds =>
          rw [hd] at ok'
          simp only [lcGo] at ok'
          split at ok'
          · assumption
          · exact ok'.elim
      · rintro i x H' H2 hi ⟨r', h', acc, ys, s', hn, hacc, hle, hys, hr', ok'⟩ hy
        have hd : it.xs.drop i = it.xs[i] :: it.xs.drop (i + 1) := List.drop_eq_getElem_cons hi
        rw [hd] at ok'
        simp only [lcGo] at ok'
        split at ok'
        · rename_i hgd
          obtain ⟨s2, hr2, d, hd2, q2⟩ := wy i r' h' H' x H2 hi s' hr' hgd hy
          rw [List.getElem?_eq_getElem hi] at hd2
          cases hd2
          have er2 : ERel K mg r' (wipeE e tg.own) (L2.wipe σ tg.own) H2 := (er.mono ((s1.trans s').trans s2).mn).wipe _
          cases hgv : tg.gv it.xs[i] (wipeE e tg.own) h' with
          | stuck => rw [hgv] at ok'; exact ok'.elim
          | exc => rw [hgv] at ok'; exact ok'.elim
          | ok e3 h3 =>
            rw [hgv] at ok'
            dsimp only at ok'
            refine tgt_run tg hgv er2 q2 fun σ3 er3 hw3 eh => ⟨by rw [hw3, wipe_sub _ _ fun _ z => z], ?_⟩
            subst eh
            refine ⟨r', e3, h3, er3, hr2, ?_⟩
            have hacc2 : H2 A = some (.lst acc) := s2.keep _ _ hacc hn NoOwn.of
            cases htt : tt e3 h3 with
            | stuck => rw [htt] at ok'; exact ok'.elim
            | exc => rw [htt] at ok'; exact ok'.elim
            | ok b h4 =>
              rw [htt] at ok'
              intro r4 H4 s4 hr4
              have hacc4 : H4 A = some (.lst acc) := s4.keep _ _ hacc2 hn NoOwn.of
              have hn4 : A ∉ r4 := s4.notin hn hacc2 NoOwn.of
              have s14 : Step r1 H1 r4 H4 := (s'.trans s2).trans s4
              cases b with
              | false =>
                rw [if_neg Bool.false_ne_true]
                exact ⟨r4, h4, acc, ys, s14, hn4, hacc4, Nat.le_succ_of_le hle, hys.mono (s2.trans s4).mn, hr4, ok'⟩
              | true =>
                rw [if_pos rfl]
                dsimp only at ok'
                refine ⟨r4, e3, h4, er3.mono s4.mn, hr4, ?_⟩
                cases hel : pv elt e3 h4 with
                | stuck => rw [hel] at ok'; exact ok'.elim
                | exc => rw [hel] at ok'; exact ok'.elim
                | ok y h5 =>
                  rw [hel] at ok'
                  intro v5 r5 H5 s5 hr5 q5
                  have hacc5 : H5 A = some (.lst acc) := s5.keep _ _ hacc4 hn4 NoOwn.of
                  have hn5 : A ∉ r5 := s5.notin hn4 hacc4 NoOwn.of
                  have m5 : Mn r5 H5 r5 (upd H5 A (.lst (acc ++ [v5]))) := Mn.mutNew hacc5 (fun z => z)
                  refine ⟨acc, hacc5, Nat.lt_of_le_of_lt hle (Nat.lt_trans hi hlen), r5, h5, acc ++ [v5], ys ++ [y], (s14.trans s5).mutNew hA, hn5, upd_same, by rw [List.length_append, List.length_singleton]; omega, ?_, hr5.mutNew hn5 hacc5 (fun z => z) NoOwn.of, ?_⟩
                  · exact (((hys.mono (s2.trans s4).mn).mono s5.mn).mono m5).append (.cons (q5.mono m5) .nil)
                  · dsimp only at ok'
                    cases hrest : lcGo it.g tg.gv tt elt (wipeE e tg.own) (it.xs.drop (i + 1)) h5 with
                    | stuck => rw [hrest] at ok'; exact ok'
                    | exc => rw [hrest] at ok'; exact ok'
                    | ok zs h6 =>
                      rw [hrest] at ok'
                      simp only [Out.bind_ok, List.append_assoc, List.cons_append, List.nil_append] at ok' ⊢
                      exact ok'
        · exact ok'.elim
      · rintro H' ⟨r', h', acc, ys, s', hn, hacc, hle, hys, hr', ok'⟩
        rw [List.drop_length] at ok'
        simp only [lcGo] at ok'
        split at ok'
        · simp only [Out.bind_ok, List.append_nil] at ok'
          exact ok' _ r' H' (s1.trans s') hr' (.tl (s1.stay _ (.of hA)) hacc hn hys)
        · exact ok'.elim
    · exact ok.elim
end
end BW

set_option Elab.async false
set_option linter.all false
set_option maxRecDepth 100000
set_option maxHeartbeats 4000000
namespace BW
open PySem PySem.Spec PyProof.Rows L2
variable [Tb]
section
variable {X : Cx} {W : Wx}
theorem PTs.imp {ifs : List Expr} {t t' : TT} (h : PTs X ifs t) (q : ∀ σ H Q, t' σ H Q → t σ H Q) : PTs X ifs t' := ⟨fun pins s σ H Q I z => h.run pins s σ H Q I (q σ H Q z)⟩
abbrev DenTs (X : Cx) (ifs : List Expr) (tt : Tv) : Prop := PTs X ifs (rdT X.K X.mg W0 tt)
theorem den_noif : DenTs X [] tvYes := PTs.imp pts_nil fun σ H Q ⟨r, e, h, er, hr, ok⟩ => ok r H (Step.refl _ _) hr
theorem den_oneif {c : Expr} {t : Tv} (h : DenT X W0 c t) : DenTs X [c] t := pts_one h
theorem den_lc {elt tgE iter : Expr} {ifs : List Expr} {scope : Scope} {own : List (Str × Nat)} {pos : Pos} {iv : Iv} (t : Tgt) {tt : Tv} {el : Ev} (hc : X.calm = true) (hN : X.N.Nodup) (hi : DenI X W tgE iter iv) (hown : own.map (·.2) = t.own) (ok : BlkOk X.N X.env.scope scope own)
    (hg : ∀ (s : Shared) (H : Hp) (C : Addr) (cl : List (Str × Addr)) (fp : List Addr), PG (X.blk s H scope (compEnvC scope cl C X.env) fp) tgE (t.tg X.K)) (ht : ∀ (s : Shared) (H : Hp) (C : Addr) (cl : List (Str × Addr)) (fp : List Addr), DenTs (X.blk s H scope (compEnvC scope cl C X.env) fp) ifs tt)
    (he : ∀ (s : Shared) (H : Hp) (C : Addr) (cl : List (Str × Addr)) (fp : List Addr), DenE (X.blk s H scope (compEnvC scope cl C X.env) fp) W0 elt el) (hs : ∀ x, foldedSetIterable iter X.env x = pure x := by intro _; rfl) :
    DenE X W (.ListComp elt [⟨tgE, iter, ifs, 0⟩] scope pos) (evLc iv t.own t.gv tt el) :=
  PE.imp (pe_lc hc hN hi ok hg ht (fun s H C cl fp => den_pv (he s H C cl fp)) hs) fun σ H Q q => by
    rw [hown]
    exact rd_lc q
theorem den_setLc {i : Nat} {y : Str} {py : Pos} {elt tgE iter : Expr} {ifs : List Expr} {scope : Scope} {own : List (Str × Nat)} {pos spos : Pos} {iv : Iv} (t : Tgt) {tt : Tv} {el : Ev} (hc : X.calm = true) (hN : X.N.Nodup) (hy : X.N[i]? = some y) (hyl : X.env.scope.names.lookup y = some .local)
    (hsw : swapsWith (.ListComp elt [⟨tgE, iter, ifs, 0⟩] scope pos) (some (.Name y py)) spos.line X.env = pure true) (hi : DenI X W tgE iter iv) (hown : own.map (·.2) = t.own) (ok : BlkOk X.N X.env.scope scope own)
    (hg : ∀ (s : Shared) (H : Hp) (C : Addr) (cl : List (Str × Addr)) (fp : List Addr), PG (X.blk s H scope (compEnvC scope cl C X.env) fp) tgE (t.tg X.K)) (ht : ∀ (s : Shared) (H : Hp) (C : Addr) (cl : List (Str × Addr)) (fp : List Addr), DenTs (X.blk s H scope (compEnvC scope cl C X.env) fp) ifs tt)
    (he : ∀ (s : Shared) (H : Hp) (C : Addr) (cl : List (Str × Addr)) (fp : List Addr), DenE (X.blk s H scope (compEnvC scope cl C X.env) fp) W0 elt el) (hs : ∀ x, foldedSetIterable iter X.env x = pure x := by intro _; rfl) :
    DenS X W (.Assign [.Name y py] (.ListComp elt [⟨tgE, iter, ifs, 0⟩] scope pos) spos) (svAsg (evLc iv t.own t.gv tt el) (gvName i)) :=
  PS.imp (ps_setLc hc hN hy hyl hsw hi ok hg ht (fun s H C cl fp => den_pv (he s H C cl fp)) hs) fun N σ H q => by
    rw [hown]
    obtain ⟨r, e, h, er, hr, ok⟩ := q
    unfold svAsg pv at ok
    refine rd_lc (W := W) (mg := X.mg) (tt := tt) (elt := el) ⟨r, e, h, er, hr, ?_⟩
    cases hf : evLc iv t.own t.gv tt el e h with
    | stuck => rw [hf] at ok; exact ok
    | exc x h1 => rw [hf] at ok; exact fun c dx r' H' s q t => ok c dx σ r' H' s (er.mono s.mn) q t
    | ok d h1 =>
      rw [hf] at ok
      intro v r1 H1 s hr1 t
      cases t with
      | @val v d q =>
        have e0 : promote d h1 = .ok d h1 := by cases q <;> rfl
        rw [Out.bind_ok, e0] at ok
        exact ok _ r1 H1 s ((er.mono s.mn).set i q) hr1
      | @tl p vs xs a b c q =>
        obtain ⟨g1, g2⟩ := push_ok hr1 b c q
        have s2 := Step.push c s a
        exact ok _ _ H1 s2 ((er.mono s2.mn).set i g2) g1
end
def fin (h : AH) (d : D) (h' : AH) : Out D := match promote d h' with
  | .ok d1 h1 => if d1.lt h.length && oldOk h.length h h1 then .ok d1 (h1.take h.length) else .ok d1 h1
  | o => o
def finX (h : AH) (x : D) (h' : AH) : Out D := if x.lt h.length && oldOk h.length h h' then .exc x (h'.take h.length) else .exc x h'
def startE (n : Nat) (ds : List D) : Env := ds.map some ++ List.replicate (n - ds.length) none
def fnD (n : Nat) (body : Sv) : Fd := fun ds h => match body (startE n ds) h with
  | .ret d h' => fin h d h'
  | .nx _ h' => fin h .non h'
  | .exc x _ h' => finX h x h'
  | _ => .stuck
section
variable (K : PySem.W.Frag) (mg : Str → Option Value)
def OkF (r : List Addr) (H : Hp) (Q : VK) (E : XK) : Out D → Prop
  | .stuck => False
  | .ok d h' => ∀ v r' H', Step r H r' H' → HRel K mg r' h' H' → Rel K mg r' H' v d → Q v H'
  | .exc x h' => ∀ c dx r' H', Step r H r' H' → HRel K mg r' h' H' → ExRel K mg r' H' c dx x → E c dx H'
def spF (n : Nat) (d : Fd) : Sp := fun vs H Q E => ∃ r h ds, HRel K mg r h H ∧ Rels K mg r H vs ds ∧ ds.length = n ∧ OkF K mg r H Q E (d ds h)
end
section
variable {K : PySem.W.Frag} {mg : Str → Option Value}
theorem Step.cut {r r' : List Addr} {H H' : Hp} (s : Step r H r' H') : Step r H r H' := ⟨List.prefix_refl _, fun _ a b => absurd a b, s.keep, s.stay, s.frz⟩
theorem ExRel.cut {r r1 : List Addr} {H : Hp} {c : Value} {dx : Option Addr} {x : D} (hp : r <+: r1) (q : ExRel K mg r1 H c dx x) (z : x.lt r.length = true) : ExRel K mg r H c dx x := by
  cases q with
  | e0 h => exact .e0 h
  | e1 h hf hn hd q => exact .e1 h hf (fun z => hn (hp.subset z)) hd (q.cut hp (by simpa only [D.lt, D.lts, Bool.and_true] using z))
theorem fin_ok {r r1 : List Addr} {H H1 : Hp} {h h1 : AH} {v : V} {d : D} {Q : VK} {E : XK} (hr : HRel K mg r h H) (s : Step r H r1 H1) (hr1 : HRel K mg r1 h1 H1) (q : Rel K mg r1 H1 v d)
    (ok : OkF K mg r H Q E (if d.lt h.length && oldOk h.length h h1 then .ok d (h1.take h.length) else .ok d h1)) : Q v H1 := by
  split at ok
  · rename_i hz
    obtain ⟨z1, z2⟩ := Bool.and_eq_true_iff.mp hz
    rw [← hr.len] at z1 z2 ok
    exact ok v r H1 s.cut (hr.cutOld hr1 s.pre z2) (q.cut s.pre z1)
  · exact ok v r1 H1 s hr1 q
theorem fn_end {W : Wx} {n : Nat} {body : Sv} {r : List Addr} {H : Hp} {h : AH} {ds : List D} {Q : VK} {E : XK} (hr : HRel K mg r h H) (hW : ∀ c dx σ H, E c dx H → W c dx σ H) (ok : OkF K mg r H Q E (fnD n body ds h)) :
    OkS K mg W r H { nx := fun _ H' => Q .non H', rt := Q } (body (startE n ds) h) := by
  unfold fnD at ok
  cases hb : body (startE n ds) h with
  | stuck => rw [hb] at ok; exact ok
  | brk => rw [hb] at ok; exact ok.elim
  | cont => rw [hb] at ok; exact ok.elim
  | nx e' h' =>
    rw [hb] at ok
    exact fun σ' r' H' s er hr' => fin_ok (d := .non) hr s hr' .non ok
  | ret d h' =>
    rw [hb] at ok
    intro v r' H' s hr' t
    cases t with
    | @val v d q =>
      have e0 : promote d h' = .ok d h' := by cases q <;> rfl
      unfold fin at ok
      simp only [e0] at ok
      exact fin_ok hr s hr' q ok
    | @tl p vs xs a b c q =>
      obtain ⟨g1, g2⟩ := push_ok hr' b c q
      exact fin_ok hr (Step.push c s a) g1 g2 ok
  | exc x e' h' =>
    rw [hb] at ok
    intro c dx σ' r' H' s er hr' t
    dsimp only [finX] at ok
    split at ok
    · rename_i hz
      obtain ⟨z1, z2⟩ := Bool.and_eq_true_iff.mp hz
      rw [← hr.len] at z1 z2 ok
      exact hW _ _ _ _ (ok c dx r H' s.cut (hr.cutOld hr' s.pre z2) (t.cut s.pre z1))
    · exact hW _ _ _ _ (ok c dx r' H' s hr' t)
theorem start_rel {N : List Str} {r : List Addr} {H : Hp} {vs : List V} {ds : List D} (q : Rels K mg r H vs ds) : ERel K mg r (startE N.length ds) (L2.start N vs) H := by
  refine ⟨by unfold startE L2.start; simp [q.length], fun i x hx => ?_⟩
  unfold startE at hx
  unfold L2.start
  have hi : i < ds.length := by
    by_cases h : i < ds.length
    · exact h
    · rw [List.getElem?_append_right (by rw [List.length_map]; omega)] at hx
      simp [List.getElem?_replicate] at hx
  rw [List.getElem?_append_left (by rw [List.length_map]; exact hi), List.getElem?_map] at hx
  obtain ⟨y, hy1, hy2⟩ : ∃ y, ds[i]? = some y ∧ y = x := by
    cases e : ds[i]? with
    | none => rw [e] at hx; cases hx
    | some y => rw [e] at hx; cases hx; exact ⟨_, rfl, rfl⟩
  subst hy2
  obtain ⟨v, h1, h2⟩ := q.get' hy1
  refine ⟨v, ?_, h2⟩
  rw [List.getElem?_append_left (by rw [List.length_map, q.length]; exact hi), List.getElem?_map, h1]
  rfl
theorem fn_ok {P : Program} {w : World} {base : Heap} {x qual : Str} {st : Stmt} {f : Addr} {fd : FuncData} {N ps : List Str} {k : Nat} {body : Sv} (F : Fun K x qual st f fd) (S : FnScope N ps (defScope st))
    (hb : ∀ (cdv : Value) (A : Around) (outer : List PySem.Env) (s : Shared) (H : Hp) (E : XK), Room k (A.deeper (envOfC qual (defScope st) s.heap.objs.size f cdv)) →
      DenB (cxOf (L2.CX P w) P w K mg base N qual (defScope st) f cdv A outer s H E) (fun c dx _ H => E c dx H) (defBody st) body) : FnOk P w K mg base (L2.CX P w) (k + 1) f fd ps (spF K mg ps.length (fnD N.length body)) :=
  F.okX S (fun vs H Q E ⟨r, h, ds, hr, q, e, _⟩ => by rw [q.length, e]) fun cdv A outer s H vs Q E hr ⟨r, h, ds, hrel, q, e, ok⟩ =>
    ⟨_, hb cdv A outer s H E hr, r, startE N.length ds, h, start_rel q, hrel, fn_end hrel (fun _ _ _ _ z => z) ok⟩
end
def evCall (d : Fd) (fs : List Ev) : Ev := fun e h => (evsV fs e h).bind d
theorem evsV_len : ∀ {fs : List Ev} {e : Env} {h : AH} {ds : List D} {h1 : AH}, evsV fs e h = .ok ds h1 → ds.length = fs.length
  | [], _, _, _, _, z => by cases z; rfl
  | f :: fs, e, h, ds, h1, z => by
    unfold evsV at z
    cases hf : pv f e h with
    | stuck => rw [hf] at z; cases z
    | exc => rw [hf] at z; cases z
    | ok d h2 =>
      rw [hf, Out.bind_ok] at z
      cases hr : evsV fs e h2 with
      | stuck => rw [hr] at z; cases z
      | exc => rw [hr] at z; cases z
      | ok ds' h3 =>
        rw [hr, Out.bind_ok] at z
        cases z
        rw [List.length_cons, List.length_cons, evsV_len hr]
theorem rd_call {K : PySem.W.Frag} {mg : Str → Option Value} {W : Wx} {d : Fd} {fs : List Ev} {n : Nat} {σ : L2.St} {H : Hp} {Q : VK} (hn : fs.length = n) (q : rdE K mg W (evCall d fs) σ H Q) : rdVs K mg W (evsV fs) σ H fun vs H1 => spF K mg n d vs H1 Q (WE W σ) := by
  obtain ⟨r, e, h, er, hr, ok⟩ := q
  unfold evCall at ok
  refine ⟨r, e, h, er, hr, ?_⟩
  cases hf : evsV fs e h with
  | stuck => rw [hf] at ok; exact ok
  | exc x h1 => rw [hf] at ok; exact ok
  | ok ds h1 =>
    rw [hf, Out.bind_ok] at ok
    intro vs r1 H1 s1 hr1 t1
    refine ⟨r1, h1, ds, hr1, t1, by rw [evsV_len hf, hn], ?_⟩
    have ok1 := OkE.after s1 ok
    cases hd : d ds h1 with
    | stuck => rw [hd] at ok1; exact ok1
    | exc x h2 => rw [hd] at ok1; exact ok1
    | ok y h2 => rw [hd] at ok1; exact fun v r' H' s' hr' t => ok1 v r' H' s' hr' (.val t)
section
variable {X : Cx} {W : Wx}
theorem den_call {k n : Nat} {f : Addr} {fd : FuncData} {ps : List Str} {d : Fd} {x : Str} {p pos : Pos} {ex : Expr} {es : List Expr} {fs : List Ev} (F : FnOk X.prog X.w X.K X.mg X.base (L2.CX X.prog X.w) k f fd ps (spF X.K X.mg n d)) (hr : Room k X.A) (hg : Gl X x) (hm : X.mg x = some (.ref f))
    (hk : PySem.W.keepIn X.K (.ref f) = true) (hb : Binds X.K fd ps []) (tk : Takes X W) (ha : DenVs X W (ex :: es) (evsV fs)) (hn : fs.length = n := by rfl) (hdb : (x == ("__debug__" : Str)) = false := by decide)
    (he : starEach (ex :: es) X.env = (false, eval ex X.env) :: starEach es X.env := by rfl) (hpl : (backTo pos (starEach es X.env)).any (·.1) = false := by rfl) : DenE X W (.Call (.Name x p) (ex :: es) [] pos) (evCall d fs) :=
  PE.imp (pe_callS F hr hg hm hk hb (fun σ => passAt tk σ) ha hdb he hpl) fun σ H Q q => rd_call hn q
end
end BW

set_option Elab.async false
set_option linter.all false
set_option maxRecDepth 100000
set_option maxHeartbeats 4000000
namespace BW
open PySem PySem.Spec PyProof.Rows L2
variable [Tb]
structure Bi (mg : Str → Option Value) : Prop where
  len : mg "len" = none
  tuple : mg "tuple" = none
  list : mg "list" = none
  int : mg "int" = none
  range : mg "range" = none
  enumerate : mg "enumerate" = none
  zip : mg "zip" = none
  isinstance : mg "isinstance" = none
  all : mg "all" = none
  any : mg "any" = none
  sum : mg "sum" = none
  min : mg "min" = none
  max : mg "max" = none
  sorted : mg "sorted" = none
  repr : mg "repr" = none
  str : mg "str" = none
  set : mg "set" = none
  bool : mg "bool" = none
  super : mg "super" = none
  valueError : mg "ValueError" = none
  overflowError : mg "OverflowError" = none
def Fn (P : Program) (w : World) (K : PySem.W.Frag) (mg : Str → Option Value) (base : Heap) (x : Str) (k n : Nat) (d : Fd) : Prop :=
  ∃ f fd ps, FnOk P w K mg base (L2.CX P w) k f fd ps (spF K mg n d) ∧ Binds K fd ps [] ∧ mg x = some (.ref f) ∧ PySem.W.keepIn K (.ref f) = true
section
variable {P : Program} {w : World} {K : PySem.W.Frag} {mg : Str → Option Value} {base : Heap}
theorem fn_mk {x qual : Str} {st : Stmt} {f : Addr} {fd : FuncData} {N ps : List Str} (k : Nat) {body : Sv} (F : Fun K x qual st f fd) (m : mg x = some (.ref f)) (S : FnScope N ps (defScope st)) (b : Binds K fd ps [])
    (hb : ∀ (cdv : Value) (A : Around) (outer : List PySem.Env) (s : Shared) (H : Hp) (E : XK), Room k (A.deeper (envOfC qual (defScope st) s.heap.objs.size f cdv)) →
      DenB (cxOf (L2.CX P w) P w K mg base N qual (defScope st) f cdv A outer s H E) (fun c dx _ H => E c dx H) (defBody st) body) : Fn P w K mg base x (k + 1) ps.length (fnD N.length body) :=
  ⟨f, fd, ps, fn_ok F S hb, b, m, F.kp⟩
end
section
variable {X : Cx} {W : Wx}
theorem dv (i : Nat) {x : Str} {pos : Pos} (hN : X.N[i]? = some x := by rfl) (hv : Vis X.env.scope x := by first | exact Or.inl rfl | exact Or.inr (Or.inl rfl) | exact Or.inr (Or.inr rfl)) (hd : (x == ("__debug__" : Str)) = false := by decide) (hcd : (x == ("__classdict__" : Str)) = false := by decide) : DenE X W (.Name x pos) (evVar i) := den_var hN hv hd hcd
theorem den_callF {j k n : Nat} {d : Fd} {x : Str} {p pos : Pos} {ex : Expr} {es : List Expr} {fs : List Ev} (F : Fn X.prog X.w X.K X.mg X.base x k n d) (hr : Room j X.A) (tk : Takes X W) (ha : DenVs X W (ex :: es) (evsV fs)) (hjk : k ≤ j := by decide) (hg : Gl X x := by rfl)
    (hn : fs.length = n := by rfl) (hdb : (x == ("__debug__" : Str)) = false := by decide)
    (he : starEach (ex :: es) X.env = (false, eval ex X.env) :: starEach es X.env := by rfl) (hpl : (backTo pos (starEach es X.env)).any (·.1) = false := by rfl) : DenE X W (.Call (.Name x p) (ex :: es) [] pos) (evCall d fs) := by
  obtain ⟨f, fd, ps, h1, h2, h3, h4⟩ := F
  exact den_call h1 (hr.mono hjk) hg h3 h4 h2 tk ha hn hdb he hpl
end
end BW

set_option Elab.async false
set_option linter.all false
set_option maxRecDepth 100000
set_option maxHeartbeats 4000000
namespace BW
open PySem PySem.Spec PyProof.Rows L2
variable [Tb]
def setAll : Env → List Nat → List D → Option Env
  | e, [], [] => some e
  | e, i :: is, d :: ds => setAll (e.set i (some d)) is ds
  | _, _, _ => none
def svPar (fs : List Ev) (ix : List Nat) : Sv := fun e h => (evsV fs e h).toFl e fun ds h1 => match setAll e ix ds with
  | some e1 => .nx e1 h1
  | none => .stuck
section
variable {X : Cx} {W : Wx}
theorem rdVs_bindS {K : PySem.W.Frag} {mg : Str → Option Value} {σ : L2.St} {r : List Addr} {e : Env} {H : Hp} {h : AH} {f : Av} {k : List D → AH → Fl} {N : Ends} {Q' : List V → Hp → Prop} (er : ERel K mg r e σ H) (hr : HRel K mg r h H) (ok : OkS K mg W r H N ((f e h).toFl e k))
    (hk : ∀ d h1 v r1 H1, Step r H r1 H1 → HRel K mg r1 h1 H1 → Rels K mg r1 H1 v d → ERel K mg r1 e σ H1 → OkS K mg W r1 H1 N (k d h1) → Q' v H1) : rdVs K mg W f σ H Q' := by
  refine ⟨r, e, h, er, hr, ?_⟩
  cases hf : f e h with
  | stuck => rw [hf] at ok; exact ok
  | ok d h1 => rw [hf] at ok; exact fun v r1 H1 s q t => hk d h1 v r1 H1 s q t (er.mono s.mn) (OkS.after s ok)
  | exc x h1 => rw [hf] at ok; exact fun c dx r' H' s q t => ok c dx σ r' H' s (er.mono s.mn) q t
theorem den_par2 {i j : Nat} {x y : Str} {a b : Expr} {f g : Ev} {px py pt pos : Pos} {kt k2 pt2} (ha : DenVs X W [a, b] (evsV [f, g])) (hN : X.N.Nodup) (hi : X.N[i]? = some x) (hj : X.N[j]? = some y) (hij : i ≠ j := by decide) (hc : X.calm = true := by rfl)
    (hx : X.env.scope.names.lookup x = some .local := by rfl) (hy : X.env.scope.names.lookup y = some .local := by rfl)
    (hw : swappedStores [.Tuple [.Name x px, .Name y py] kt pt] (.Tuple [a, b] k2 pt2) X.env = pure (some [x, y]) := by rfl)
    (hs : swapsWithSole [.Tuple [.Name x px, .Name y py] kt pt] (.Tuple [a, b] k2 pt2) pos.line X.env = pure false := by rfl) :
    DenS X W (.Assign [.Tuple [.Name x px, .Name y py] kt pt] (.Tuple [a, b] k2 pt2) pos) (svPar [f, g] [i, j]) :=
  PS.imp (ps_par hc hN hi hj hij hx hy ha hw hs) fun N σ H ⟨r, e, h, er, hr, ok⟩ => by
    unfold svPar at ok
    refine rdVs_bindS er hr ok fun ds h1 vs r1 H1 s1 hr1 t1 er1 ok1 => ?_
    cases t1 with
    | nil => exact ok1.elim
    | cons q1 t1 => cases t1 with
      | nil => exact ok1.elim
      | cons q2 t1 => cases t1 with
        | nil => exact ⟨_, _, rfl, ok1 _ r1 H1 (Step.refl _ _) ((er1.set i q1).set j q2) hr1⟩
        | cons => exact ok1.elim
theorem evsV_cases2 {f g : Ev} {e : Env} {h : AH} {ds : List D} {h1 : AH} (z : evsV [f, g] e h = .ok ds h1) : ∃ a b, ds = [a, b] := by
  have := evsV_len z
  match ds, this with
  | [a, b], _ => exact ⟨a, b, rfl⟩
theorem par_eq2 {f g : Ev} {i j : Nat} : svPar [f, g] [i, j] = svAsg (evTup [f, g]) (gvTup [gvName i, gvName j]) := by
  funext e h
  unfold svPar svAsg pv evTup
  cases hz : evsV [f, g] e h with
  | stuck => rfl
  | exc => rfl
  | ok ds h1 =>
    obtain ⟨a, b, rfl⟩ := evsV_cases2 hz
    rfl
theorem den_parG2 {tg ex : Expr} {pos : Pos} {f g : Ev} {i j : Nat} (hf : DenE X W ex (evTup [f, g])) (hg : DenG X tg (gvTup [gvName i, gvName j])) (hs : swapsWithSole [tg] ex pos.line X.env = pure false := by rfl) (hw : swappedStores [tg] ex X.env = pure none := by rfl) (h1 : (assignEach [tg] X.env).map (·.2) = [assign tg X.env] := by rfl) : DenS X W (.Assign [tg] ex pos) (svPar [f, g] [i, j]) := by
  rw [par_eq2]; exact den_asg hf hg hs hw h1
def svAug (i : Nat) (op : Int → Int → Int) (f : Ev) : Sv := fun e h => match e[i]? with
  | some (some (.int a)) => (f e h).toFl e fun d h1 => match d with
    | .int b => .nx (e.set i (some (.int (op a b)))) h1
    | _ => .stuck
  | _ => .stuck
def keyD : D → Option Key
  | .int i => some (.inl i)
  | .str x => some (.inr x)
  | _ => none
def keysD : D → Option (List Key)
  | .tup xs => allK keyD xs
  | _ => none
section
variable {κ β : Type} [DecidableEq κ]
def valD (kvs : List (κ × β)) (k : κ) : Option β := (kvs.find? fun kv => decide (kv.1 = k)).map (·.2)
def putD (kvs : List (κ × β)) (k : κ) (v : β) : List (κ × β) :=
  if (kvs.any fun kv => decide (kv.1 = k)) then kvs.map (fun kv => if kv.1 = k then (kv.1, v) else kv) else kvs ++ [(k, v)]
end
theorem RelK.val {K : PySem.W.Frag} {mg : Str → Option Value} {r : List Addr} {H : Hp} {k : Key} : ∀ {vs : List (Key × V)} {xs : List (Key × D)} {x : D}, RelK K mg r H vs xs → valD xs k = some x → ∃ v, valV vs k = some v ∧ Rel K mg r H v x
  | _, _, _, .nil, e => by cases e
  | _, _, x, @RelK.cons _ _ _ _ k' v y vs xs q t, e => by
    unfold valD at e
    unfold valV
    by_cases hk : k' = k
    · simp only [List.find?_cons, hk, decide_true, Option.map_some] at e ⊢
      cases e
      exact ⟨v, rfl, q⟩
    · simp only [List.find?_cons, hk, decide_false] at e ⊢
      exact RelK.val t e
theorem RelKT.val {K : PySem.W.Frag} {mg : Str → Option Value} {r : List Addr} {H : Hp} {k : List Key} : ∀ {vs : List (List Key × V)} {xs : List (List Key × D)} {x : D}, RelKT K mg r H vs xs → valD xs k = some x → ∃ v, valV vs k = some v ∧ Rel K mg r H v x
  | _, _, _, .nil, e => by cases e
  | _, _, x, @RelKT.cons _ _ _ _ k' v y vs xs q t, e => by
    unfold valD at e
    unfold valV
    by_cases hk : k' = k
    · simp only [List.find?_cons, hk, decide_true, Option.map_some] at e ⊢
      cases e
      exact ⟨v, rfl, q⟩
    · simp only [List.find?_cons, hk, decide_false] at e ⊢
      exact RelKT.val t e
theorem RelK.any {K : PySem.W.Frag} {mg : Str → Option Value} {r : List Addr} {H : Hp} {k : Key} : ∀ {vs : List (Key × V)} {xs : List (Key × D)}, RelK K mg r H vs xs → (vs.any fun kv => decide (kv.1 = k)) = (xs.any fun kv => decide (kv.1 = k))
  | _, _, .nil => rfl
  | _, _, .cons q t => by simp only [List.any_cons, RelK.any t]
theorem RelK.mapPut {K : PySem.W.Frag} {mg : Str → Option Value} {r : List Addr} {H : Hp} {k : Key} {v : V} {x : D} (q : Rel K mg r H v x) : ∀ {vs : List (Key × V)} {xs : List (Key × D)}, RelK K mg r H vs xs → RelK K mg r H (vs.map fun kv => if kv.1 = k then (kv.1, v) else kv) (xs.map fun kv => if kv.1 = k then (kv.1, x) else kv)
  | _, _, .nil => .nil
  | _, _, @RelK.cons _ _ _ _ k' _ _ _ _ q' t => by
    simp only [List.map_cons]
    by_cases hk : k' = k
    · simp only [hk, if_true]; exact .cons q (RelK.mapPut q t)
    · simp only [hk, if_false]; exact .cons q' (RelK.mapPut q t)
theorem RelK.append {K : PySem.W.Frag} {mg : Str → Option Value} {r : List Addr} {H : Hp} : ∀ {vs vs' : List (Key × V)} {xs xs' : List (Key × D)}, RelK K mg r H vs xs → RelK K mg r H vs' xs' → RelK K mg r H (vs ++ vs') (xs ++ xs')
  | _, _, _, _, .nil, q => q
  | _, _, _, _, .cons h t, q => .cons h (RelK.append t q)
theorem RelK.put {K : PySem.W.Frag} {mg : Str → Option Value} {r : List Addr} {H : Hp} {k : Key} {v : V} {x : D} {vs : List (Key × V)} {xs : List (Key × D)} (t : RelK K mg r H vs xs) (q : Rel K mg r H v x) : RelK K mg r H (putK vs k v) (putD xs k x) := by
  unfold putK putD
  rw [t.any]
  split
  · exact t.mapPut q
  · exact t.append (.cons q .nil)
theorem RelK.length {K : PySem.W.Frag} {mg : Str → Option Value} {r : List Addr} {H : Hp} : ∀ {vs : List (Key × V)} {xs : List (Key × D)}, RelK K mg r H vs xs → vs.length = xs.length
  | _, _, .nil => rfl
  | _, _, .cons _ t => by simp only [List.length_cons, RelK.length t]
theorem key_rel {K : PySem.W.Frag} {mg : Str → Option Value} {r : List Addr} {H : Hp} {v : V} {d : D} {k : Key} (e : keyD d = some k) (q : RelU K mg r H v d) : v = kV k := by
  cases d with
  | int i => cases e; exact q.int_inv
  | str x => cases e; exact q.str_inv
  | _ => cases e
theorem keys_rel {K : PySem.W.Frag} {mg : Str → Option Value} {r : List Addr} {H : Hp} : ∀ {vs : List V} {xs : List D} {ks : List Key}, allK keyD xs = some ks → Rels K mg r H vs xs → vs = ks.map kV
  | _, _, _, e, .nil => by cases e; rfl
  | _, _, _, e, .cons q t => by
    unfold allK at e
    split at e
    · rename_i a as h1 h2
      cases e
      rw [key_rel h1 (.val q), keys_rel h2 t]; rfl
    · cases e
def dgD (h : AH) (o k : D) : Option D := match o with
  | .ref n => match h[n]? with
    | some (.dk kvs) => (keyD k).bind fun q => valD kvs q
    | some (.dt kvs) => (keysD k).bind fun q => valD kvs q
    | _ => none
  | _ => none
def evDg (f g : Ev) : Ev := fun e h => (f e h).bind fun o h1 => (g e h1).bind fun k h2 => ofO (dgD h2 o k) h2
theorem den_dg {o i : Expr} {pos : Pos} {f g : Ev} (hu : X.A.units + 1 < cLine) (ho : DenE X W o f) (hi : DenE X W i g) (hs : NoSl i := by exact fun _ _ => rfl) : DenE X W (.Subscript o i pos) (evDg f g) :=
  PE.imp (pe_dget hu ho hi hs) fun σ H Q ⟨r, e, h, er, hr, ok⟩ => by
    unfold evDg at ok
    refine rdE_bind er hr ok fun x h1 v r1 H1 s1 hr1 t1 er1 ok1 => ?_
    refine rdE_bind er1 hr1 ok1 fun y h2 w r2 H2 s2 hr2 t2 er2 ok2 => ?_
    have t1' := t1.mono s2
    unfold dgD at ok2
    split at ok2
    · rename_i n
      cases t1' with
      | val t1' =>
        cases t1' with
        | @ref n a hn =>
          split at ok2
          · rename_i kvs hk
            obtain ⟨vs, z1, z2⟩ := hr2.obj _ _ _ hk hn
            cases hq : keyD y with
            | none => rw [hq] at ok2; exact ok2.elim
            | some q =>
              rw [hq] at ok2
              cases hv : valD kvs q with
              | none => simp only [Option.bind_some, hv] at ok2; exact ok2.elim
              | some d =>
                simp only [Option.bind_some, hv] at ok2
                obtain ⟨u, z3, z4⟩ := z2.val hv
                obtain rfl := key_rel hq t2.u
                exact ⟨a, u, rfl, z3 ▸ DGet.k z1, ok2 _ r2 H2 (Step.refl _ _) hr2 (.val z4)⟩
          · rename_i kvs hk
            obtain ⟨vs, z1, z2⟩ := hr2.obj _ _ _ hk hn
            cases hq : keysD y with
            | none => rw [hq] at ok2; exact ok2.elim
            | some q =>
              rw [hq] at ok2
              cases hv : valD kvs q with
              | none => simp only [Option.bind_some, hv] at ok2; exact ok2.elim
              | some d =>
                simp only [Option.bind_some, hv] at ok2
                obtain ⟨u, z3, z4⟩ := z2.val hv
                cases y with
                | tup xs =>
                  obtain ⟨b, ws, rfl, y1, y2⟩ := t2.u.tup_inv
                  obtain rfl := keys_rel hq y2
                  exact ⟨a, u, rfl, z3 ▸ DGet.t z1 y1.2, ok2 _ r2 H2 (Step.refl _ _) hr2 (.val z4)⟩
                | _ => cases hq
          · exact ok2.elim
    · exact ok2.elim
def svDput (fo fi fv : Ev) : Sv := fun e h => (pv fv e h).toFl e fun d h1 => (fo e h1).toFl e fun o h2 => (fi e h2).toFl e fun k h3 => match o with
  | .ref n => match h3[n]?, keyD k with
    | some (.dk kvs), some q => if kvs.length < 16777216 then .nx e (h3.set n (.dk (putD kvs q d))) else .stuck
    | _, _ => .stuck
  | _ => .stuck
theorem den_dput {o i ex : Expr} {pos pos' : Pos} {fo fi fv : Ev} (hu : X.A.units + 1 < cLine) (ho : DenE X W o fo) (hi : DenE X W i fi) (hv : DenE X W ex fv) (hs : swapsWith ex (some (.Subscript o i pos')) pos.line X.env = pure false := by rfl) : DenS X W (.Assign [.Subscript o i pos'] ex pos) (svDput fo fi fv) :=
  PS.imp (ps_dput hu ho hi (den_pv hv) hs) fun N σ H ⟨r, e, h, er, hr, ok⟩ => by
    unfold svDput at ok
    refine rdV_bindS er hr ok fun d h1 v r1 H1 s1 hr1 t1 er1 ok1 => ?_
    refine rdE_bindS er1 hr1 ok1 fun x h2 w r2 H2 s2 hr2 t2 er2 ok2 => ?_
    refine rdE_bindS er2 hr2 ok2 fun y h3 u r3 H3 s3 hr3 t3 er3 ok3 => ?_
    split at ok3
    · rename_i n
      split at ok3
      · rename_i kvs q hk hq
        split at ok3
        · rename_i hz
          have t2' := t2.mono s3
          cases t2' with
          | val t2' =>
            cases t2' with
            | @ref n a hn =>
              obtain ⟨vs, z1, z2⟩ := hr3.obj _ _ _ hk hn
              obtain rfl := key_rel hq t3.u
              have ha : a ∈ r3 := List.mem_of_getElem? hn
              have t1' := (t1.mono s2.mn).mono s3.mn
              have s4 : Step r3 H3 r3 (upd H3 a (.dK (putK vs q v))) := Step.mut ha (by rw [z1]; exact fun _ _ z => nomatch z)
              refine ⟨a, _, rfl, DPut.k z1 (by rw [z2.length]; exact hz), ok3 σ r3 _ s4 (er3.mono s4.mn) ?_⟩
              exact hr3.put (ob := .dk (putD kvs q d)) hn ⟨putK vs q v, upd_same, (z2.put t1').mono s4.mn⟩
        · exact ok3.elim
      · exact ok3.elim
    · exact ok3.elim
end
end BW

set_option Elab.async false
set_option linter.all false
set_option maxRecDepth 100000
set_option maxHeartbeats 4000000
namespace BW
open PySem PySem.Spec PyProof.Rows L2
variable [Tb]
def evPairs : List (Ev × Ev) → Env → AH → Out (List (Key × D))
  | [], _, h => .ok [] h
  | (k, v) :: ps, e, h => (k e h).bind fun kd h1 => (pv v e h1).bind fun d h2 => match keyD kd with
    | some q => (evPairs ps e h2).bind fun kvs h3 => .ok ((q, d) :: kvs) h3
    | none => .stuck
def mergeD (kvs : List (Key × D)) : List (Key × D) := kvs.foldl (fun acc kv => putD acc kv.1 kv.2) []
def evDisp (ps : List (Ev × Ev)) : Ev := fun e h => (evPairs ps e h).bind fun kvs h1 => if kvs.length ≤ 15 then .ok (.ref h1.length) (h1 ++ [.dk (mergeD kvs)]) else .stuck
section
variable {X : Cx} {W : Wx}
theorem RelK.merge {K : PySem.W.Frag} {mg : Str → Option Value} {r : List Addr} {H : Hp} : ∀ {vs : List (Key × V)} {xs : List (Key × D)} {as : List (Key × V)} {bs : List (Key × D)}, RelK K mg r H vs xs → RelK K mg r H as bs → RelK K mg r H (vs.foldl (fun acc kv => putK acc kv.1 kv.2) as) (xs.foldl (fun acc kv => putD acc kv.1 kv.2) bs)
  | _, _, _, _, .nil, q => q
  | _, _, _, _, .cons h t, q => by
    simp only [List.foldl_cons]
    exact RelK.merge t (q.put h)
def rdPs (K : PySem.W.Frag) (mg : Str → Option Value) (W : Wx) (ps : List (Ev × Ev)) : List (TE × TE) := ps.map fun p => (rdE K mg W p.1, rdV K mg W (pv p.2))
abbrev DenPs (X : Cx) (W : Wx) (pos : Pos) (keys : List (Option Expr)) (values : List Expr) (ps : List (Ev × Ev)) : Prop := PPs X pos keys values (rdPs X.K X.mg W ps)
theorem den_ppnil {pos : Pos} : DenPs X W pos [] [] [] := pps_nil
theorem den_ppcons {pos : Pos} {k v : Expr} {ks : List (Option Expr)} {vs : List Expr} {fk fv : Ev} {ps : List (Ev × Ev)} (hk : DenE X W k fk) (hv : DenE X W v fv) (hr : DenPs X W pos ks vs ps) : DenPs X W pos (some k :: ks) (v :: vs) ((fk, fv) :: ps) := pps_cons hk (den_pv hv) hr
theorem pairs_ok {K : PySem.W.Frag} {mg : Str → Option Value} {σ : L2.St} {e : Env} {G : Out (List (Key × D)) → Prop} : ∀ {ps : List (Ev × Ev)} {r : List Addr} {H : Hp} {h : AH} {Q : List (V × V) → Hp → Prop}, ERel K mg r e σ H → HRel K mg r h H → evPairs ps e h ≠ .stuck →
    (∀ x h1, evPairs ps e h = .exc x h1 → ∀ c dx r' H', Step r H r' H' → HRel K mg r' h1 H' → ExRel K mg r' H' c dx x → W c dx σ H') →
    (∀ kvs h1, evPairs ps e h = .ok kvs h1 → ∀ (vs : List (Key × V)) r' H', Step r H r' H' → HRel K mg r' h1 H' → RelK K mg r' H' vs kvs → Q (vs.map fun kv => (kV kv.1, kv.2)) H') → tPairs (rdPs K mg W ps) σ H Q
  | [], r, H, h, Q, er, hr, h0, hx, hk => hk [] h rfl [] r H (Step.refl _ _) hr .nil
  | (k, v) :: ps, r, H, h, Q, er, hr, h0, hx, hk => by
    show rdE K mg W k σ H fun x H1 => rdV K mg W (pv v) σ H1 fun y H2 => tPairs (rdPs K mg W ps) σ H2 fun qs H3 => Q ((x, y) :: qs) H3
    refine ⟨r, e, h, er, hr, ?_⟩
    simp only [evPairs] at h0 hx hk
    cases hfk : k e h with
    | stuck => rw [hfk] at h0; exact absurd rfl h0
    | exc x h1 => rw [hfk] at hx; exact hx x h1 rfl
    | ok kd h1 =>
      rw [hfk] at h0 hx hk
      simp only [Out.bind_ok] at h0 hx hk
      intro v1 r1 H1 s1 hr1 t1
      refine ⟨r1, e, h1, er.mono s1.mn, hr1, ?_⟩
      cases hfv : pv v e h1 with
      | stuck => rw [hfv] at h0; exact absurd rfl h0
      | exc x h2 => rw [hfv] at hx; exact fun c dx r' H' s => hx x h2 rfl c dx r' H' (s1.trans s)
      | ok d h2 =>
        rw [hfv] at h0 hx hk
        simp only [Out.bind_ok] at h0 hx hk
        intro v2 r2 H2 s2 hr2 t2
        have s12 := s1.trans s2
        cases hq : keyD kd with
        | none => rw [hq] at h0; exact absurd rfl h0
        | some q =>
          rw [hq] at h0 hx hk
          dsimp only at h0 hx hk
          obtain rfl := key_rel hq (t1.mono s2).u
          refine pairs_ok (G := G) (er.mono s12.mn) hr2 (fun z => ?_) (fun x h3 z => ?_) fun kvs h3 z vs r' H' s hr' q' => ?_
          · rw [z] at h0; exact absurd rfl h0
          · rw [z] at hx; exact fun c dx r' H' s => hx x h3 rfl c dx r' H' (s12.trans s)
          · rw [z] at hk
            exact hk ((q, d) :: kvs) h3 rfl ((q, v2) :: vs) r' H' (s12.trans s) hr' (.cons (t2.mono s.mn) q')
theorem den_disp {keys : List (Option Expr)} {values : List Expr} {pos : Pos} {ps : List (Ev × Ev)} (h : DenPs X W pos keys values ps) (hall : keys.all (·.isSome) = true := by rfl) (hl : keys.length = values.length := by rfl) (h0 : keys ≠ [] := by exact fun z => by cases z) (h15 : keys.length ≤ 15 := by decide) : DenE X W (.Dict keys values pos) (evDisp ps) :=
  PE.imp (pe_disp h hall hl h0 h15) fun σ H Q ⟨r, e, h, er, hr, ok⟩ => by
    unfold evDisp at ok
    intro p hp
    have sA : Step r H r (upd H p (.dK [])) := Step.alloc hp
    have hn : p ∉ r := fun z => hr.there z hp
    refine pairs_ok (G := fun _ => True) (er.mono sA.mn) (hr.alloc hp) (fun z => by rw [z] at ok; exact ok) (fun x h1 z => by rw [z] at ok; exact fun c dx r' H' s => ok c dx r' H' (sA.trans s)) fun kvs h1 z vs r1 H1 s1 hr1 q1 => ?_
    rw [z, Out.bind_ok] at ok
    split at ok
    · rename_i hz
      have hp1 : H1 p = some (.dK []) := s1.keep p _ upd_same hn NoOwn.of
      have hn1 : p ∉ r1 := s1.notin hn upd_same NoOwn.of
      refine ⟨hp1, vs, rfl, by rw [q1.length]; exact hz, ?_⟩
      have m2 : Mn r1 H1 r1 (upd H1 p (.dK (mergeK [] vs))) := Mn.mutNew hp1 fun z => z
      have hr2 := hr1.mutNew (o := .dK (mergeK [] vs)) hn1 hp1 (fun z => z) NoOwn.of
      have m3 : Mo r1 (upd H1 p (.dK (mergeK [] vs))) (r1 ++ [p]) (upd H1 p (.dK (mergeK [] vs))) := Mo.push upd_same (fun z => z) NoOwn.of
      have s3 : Step r H (r1 ++ [p]) (upd H1 p (.dK (mergeK [] vs))) := Step.push hn1 ((sA.trans s1).mutNew hp) (.of hp)
      refine ok _ _ _ s3 (hr2.push (ob := .dk (mergeD kvs)) hn1 m3 ⟨_, upd_same, ?_⟩) (.val (.ref ?_))
      · exact ((RelK.merge q1 .nil).mono m2).mono m3.toMn
      · rw [← hr1.len, List.getElem?_append_right (Nat.le_refl _), Nat.sub_self]; rfl
    · exact ok.elim
def evAppend (f g : Ev) : Ev := fun e h => (f e h).bind fun o h1 => match o with
  | .ref n => match h1[n]? with
    | some (.lst _) => (pv g e h1).bind fun d h2 => match h2[n]? with
      | some (.lst xs) => if xs.length < 16777216 then .ok .non (h2.set n (.lst (xs ++ [d]))) else .stuck
      | _ => .stuck
    | _ => .stuck
  | _ => .stuck
theorem PAone {ex : Expr} {t : TE} (h : PE X ex t) (hs : starEach [ex] X.env = (false, eval ex X.env) :: starEach [] X.env := by rfl) : PA X [ex] (tCons t tNil) := pa_cons h pa_nil hs
theorem hnlist {h1 : AH} {n : Nat} {K : PySem.W.Frag} {mg : Str → Option Value} {r : List Addr} {H : Hp} {v : V} (hr : HRel K mg r h1 H) (t : RelU K mg r H v (.ref n)) {xs : List D} (e : h1[n]? = some (.lst xs)) : ∃ a vs, v = .ref a ∧ r[n]? = some a ∧ H a = some (.lst vs) ∧ Rels K mg r H vs xs := by
  cases t with
  | val t => cases t with
    | @ref n a hn =>
      obtain ⟨vs, z1, z2⟩ := hr.obj _ _ _ e hn
      exact ⟨a, vs, rfl, hn, z1, z2⟩
theorem den_append {o ex : Expr} {apos cpos : Pos} {f g : Ev} (ho : DenE X W o f) (hg : DenE X W ex g)
    (hbase : attributeBase o "append" X.env (eval o X.env) = eval o X.env := by rfl)
    (hfew : ((backTo cpos (starEach [ex] X.env)).all (fun z => !z.1) && (backToKw cpos (keywordEach [] X.env)).all (fun z => z.1.isSome) && decide ([ex].length + ([] : List Keyword).length + (if ([] : List Keyword).isEmpty then 0 else 1) < 30)) = true := by rfl)
    (hline : (apos.endLine == cpos.line) = true := by rfl) (hs : starEach [ex] X.env = (false, eval ex X.env) :: starEach [] X.env := by rfl) (hplain : (backTo cpos (starEach [] X.env)).any (·.1) = false := by rfl) :
    DenE X W (.Call (.Attribute o "append" apos) [ex] [] cpos) (evAppend f g) :=
  PE.imp (pe_bm PySem.F.plainAttrs_list PySem.F.slot_list_append PySem.F.type_list_append mt_append ho (PAone (den_pv hg) hs) hbase hfew hline hs hplain) fun σ H Q ⟨r, e, h, er, hr, ok⟩ => by
    unfold evAppend at ok
    refine rdE_bind er hr ok fun x h1 v r1 H1 s1 hr1 t1 er1 ok1 => ?_
    split at ok1
    · rename_i n
      split at ok1
      · rename_i zs hz
        obtain ⟨a, vs, rfl, hn, y1, y2⟩ := hnlist hr1 t1.u hz
        refine ⟨.inl ⟨rfl, vs, .inl (.inl y1)⟩, rdV_bind er1 hr1 ok1 fun d h2 w r2 H2 s2 hr2 t2 er2 ok2 => ?_⟩
        split at ok2
        · rename_i xs hx
          split at ok2
          · rename_i hl
            have hn2 := s2.get hn
            obtain ⟨ws, y3, y4⟩ := hr2.obj _ _ _ hx hn2
            have ha : a ∈ r2 := List.mem_of_getElem? hn2
            have s3 : Step r2 H2 r2 (upd H2 a (.lst (ws ++ [w]))) := Step.mut ha (by rw [y3]; exact fun _ _ z => nomatch z)
            refine ⟨a, ws, w, rfl, rfl, y3, by rw [y4.length]; exact hl, ok2 _ r2 _ s3 ?_ (.val .non)⟩
            exact hr2.put (ob := .lst (xs ++ [d])) hn2 ⟨_, upd_same, (y4.append (.cons t2 .nil)).mono s3.mn⟩
          · exact ok2.elim
        · exact ok2.elim
      · exact ok1.elim
    · exact ok1.elim
def tyD (h : AH) : D → Option String
  | .non => some "NoneType"
  | .bl _ => some "bool"
  | .int _ => some "int"
  | .str _ => some "str"
  | .tup _ => some "tuple"
  | .tl _ => some "list"
  | .rl _ => some "list"
  | .ref n => match h[n]? with
    | some (.lst _) => some "list"
    | some (.dk _) => some "dict"
    | some (.dt _) => some "dict"
    | _ => none
  | _ => none
def isiD (T t : String) : Bool := t == T || (t == "bool" && T == "int")
def evIsi (Ts : List String) (f : Ev) : Ev := fun e h => (f e h).bind fun d h1 => match tyD h1 d with
  | some t => .ok (.bl (Ts.any fun T => isiD T t)) h1
  | none => .stuck
theorem tyX_of {K : PySem.W.Frag} {mg : Str → Option Value} {r : List Addr} {h : AH} {H : Hp} {v : V} {d : D} {t : String} (hr : HRel K mg r h H) (q : RelU K mg r H v d) (e : tyD h d = some t) : TyX K H v (.type t) ∧ t ∈ ["NoneType", "bool", "int", "str", "tuple", "list", "dict"] := by
  cases q with
  | tl a b c q => cases e; exact ⟨.base (.lst b), by decide⟩
  | val q => cases q with
    | non => cases e; exact ⟨.base .non, by decide⟩
    | bl b => cases e; exact ⟨.base (.bl b), by decide⟩
    | int b => cases e; exact ⟨.base (.int b), by decide⟩
    | str b => cases e; exact ⟨.base (.str b), by decide⟩
    | tup h1 h2 => cases e; exact ⟨.base (.tup h1.2), by decide⟩
    | ref hn =>
      simp only [tyD] at e
      split at e
      · rename_i xs hx
        cases e
        obtain ⟨vs, z1, _⟩ := hr.obj _ _ _ hx hn
        exact ⟨.base (.lst z1), by decide⟩
      · rename_i xs hx
        cases e
        obtain ⟨vs, z1, _⟩ := hr.obj _ _ _ hx hn
        exact ⟨.base (.dK z1), by decide⟩
      · rename_i xs hx
        cases e
        obtain ⟨vs, z1, _⟩ := hr.obj _ _ _ hx hn
        exact ⟨.base (.dT z1), by decide⟩
      · cases e
    | rl h1 h2 =>
      cases e
      rcases h1 with ⟨_, o, h1⟩ | h1
      · exact ⟨.base (.frz h1), by decide⟩
      · rcases h1 (fun _ => none) with (h1 | ⟨o, h1⟩) | ⟨o, its, n, h1, h2, _⟩
        · cases h1
        · cases h1
        · exact ⟨.kList h1 h2, by decide⟩
    | _ => cases e
theorem kit_all {K : PySem.W.Frag} {T t : String} (hT : T ∈ ["bool", "int", "str", "tuple", "list"]) (ht : t ∈ ["NoneType", "bool", "int", "str", "tuple", "list", "dict"]) : PySem.W.kitOne K (.type t) (.type T) = some (isiD T t) := by
  refine kit_ty ?_
  simp only [List.mem_cons, List.not_mem_nil, or_false] at hT ht
  rcases hT with rfl | rfl | rfl | rfl | rfl <;> rcases ht with rfl | rfl | rfl | rfl | rfl | rfl | rfl <;> decide +kernel
theorem den_isi {x : Str} {Ts : String} {a : Expr} {p p2 pos : Pos} {f : Ev} (hg : Gl X "isinstance") (hm : X.mg "isinstance" = none) (hg2 : Gl X x) (hm2 : X.mg x = none) (hv : bootBuiltins x = some (.type Ts)) (ha : DenE X W a f) (hT : Ts ∈ ["bool", "int", "str", "tuple", "list"] := by decide)
    (hn2 : x ≠ "__name__" := by decide) (hdb2 : (x == ("__debug__" : Str)) = false := by decide)
    (he : starEach [a, .Name x p2] X.env = (false, eval a X.env) :: starEach [.Name x p2] X.env := by rfl) (hpl : (backTo pos (starEach [.Name x p2] X.env)).any (·.1) = false := by rfl) (he2 : starEach [.Name x p2] X.env = (false, eval (.Name x p2) X.env) :: starEach [] X.env := by rfl) :
    DenE X W (.Call (.Name "isinstance" p) [a, .Name x p2] [] pos) (evIsi [Ts] f) :=
  PE.imp (pe_callB call_isi hg hm (by decide +kernel) (pa_cons ha (pa_cons (pe_bltn (v := .ty Ts) hg2 hm2 hv rfl hn2 hdb2) pa_nil he2) he) (by decide) (by decide) he hpl) fun σ H Q ⟨r, e, h, er, hr, ok⟩ => by
    unfold evIsi at ok
    refine rdE_bind er hr ok fun d h1 v r1 H1 s1 hr1 t1 er1 ok1 => ?_
    split at ok1
    · rename_i t ht
      obtain ⟨z1, z2⟩ := tyX_of hr1 t1.u ht
      refine ⟨v, .ty Ts, .type t, .type Ts, isiD Ts t, rfl, .ty Ts, z1, kit_all hT z2, ?_⟩
      have := ok1 (.bl (isiD Ts t)) r1 H1 (Step.refl _ _) hr1
      simp only [List.any_cons, List.any_nil, Bool.or_false] at this
      exact this (.val (.bl _))
    · exact ok1.elim
theorem den_isiLT {a : Expr} {p p1 p2 pos pt : Pos} {kt : Nat} {f : Ev} (hg : Gl X "isinstance") (hm : X.mg "isinstance" = none) (hg1 : Gl X "list") (hm1 : X.mg "list" = none) (hg2 : Gl X "tuple") (hm2 : X.mg "tuple" = none) (ha : DenE X W a f)
    (he : starEach [a, .Tuple [.Name "list" p1, .Name "tuple" p2] kt pt] X.env = (false, eval a X.env) :: starEach [.Tuple [.Name "list" p1, .Name "tuple" p2] kt pt] X.env := by rfl) (hpl : (backTo pos (starEach [.Tuple [.Name "list" p1, .Name "tuple" p2] kt pt] X.env)).any (·.1) = false := by rfl)
    (he2 : starEach [.Tuple [.Name "list" p1, .Name "tuple" p2] kt pt] X.env = (false, eval (.Tuple [.Name "list" p1, .Name "tuple" p2] kt pt) X.env) :: starEach [] X.env := by rfl)
    (he3 : starEach [.Name "list" p1, .Name "tuple" p2] X.env = (false, eval (.Name "list" p1) X.env) :: starEach [.Name "tuple" p2] X.env := by rfl) (he4 : starEach [.Name "tuple" p2] X.env = (false, eval (.Name "tuple" p2) X.env) :: starEach [] X.env := by rfl) :
    DenE X W (.Call (.Name "isinstance" p) [a, .Tuple [.Name "list" p1, .Name "tuple" p2] kt pt] [] pos) (evIsi ["list", "tuple"] f) :=
  PE.imp (pe_callB call_isiT hg hm (by decide +kernel) (pa_cons ha (pa_cons (pe_tup (pa_cons (pe_bltn (v := .ty "list") hg1 hm1 (by decide +kernel) rfl) (pa_cons (pe_bltn (v := .ty "tuple") hg2 hm2 (by decide +kernel) rfl) pa_nil he4) he3)) pa_nil he2) he) (by decide) (by decide) he hpl) fun σ H Q ⟨r, e, h, er, hr, ok⟩ => by
    unfold evIsi at ok
    refine rdE_bind er hr ok fun d h1 v r1 H1 s1 hr1 t1 er1 ok1 => ?_
    split at ok1
    · rename_i t ht
      refine ⟨by decide, fun q hq => ?_⟩
      have s2 : Step r1 H1 r1 (upd H1 q (.tup [.ty "list", .ty "tuple"])) := Step.alloc hq
      obtain ⟨z1, z2⟩ := tyX_of (hr1.alloc hq) (t1.mono s2).u ht
      refine ⟨v, q, [.ty "list", .ty "tuple"], .type t, [.type "list", .type "tuple"], _, rfl, upd_same, .cons (.ty _) (.cons (.ty _) .nil), z1, ?_, ok1 _ r1 _ s2 (hr1.alloc hq) (.val (.bl _))⟩
      refine kitAny_cons (kit_all (by decide) z2) (fun e1 => kitAny_cons (kit_all (by decide) z2) (fun e2 => ?_) fun e2 => ?_) fun e1 => ?_
      · show some false = some _
        simp [e1, e2]
      · simp [e2]
      · simp [e1]
    · exact ok1.elim
end
end BW

set_option Elab.async false
set_option linter.all false
set_option maxRecDepth 100000
set_option maxHeartbeats 4000000
namespace BW
open PySem PySem.Spec PyProof.Rows L2
variable [Tb]
set_option maxHeartbeats 8000000 in
theorem meets_enumT {v : Value} {o : Obj} {H : Heap → Prop} (B : Begins v o H) :
    Meets (Builtin.«enumerate.__new__» ⟨[.type "enumerate", v], []⟩) (fun _ R s => H s.heap ∧
      R (.ok (.ret (.ref (s.heap.push o).objs.size))) { s with heap := (s.heap.push o).push { cls := .type "enumerate", data := .fields #[.none, .bool false, .ref s.heap.objs.size, rawInt 0, .none, .none] } }) :=
  .of_wp fun prog w A R s h => by
    obtain ⟨hp, g, d, tk, os⟩ := s
    obtain ⟨hH, h⟩ := h
    have hsub := sub_enumerate
    have go : ∀ {B' : Around} {E : Value → Shared → Prop} {Q : Value → Shared → Prop}, Q (.ref hp.objs.size) ⟨hp.push o, g, d, tk, os⟩ → wpAny (model prog w) B' (pyIter v) Q E ⟨hp, g, d, tk, os⟩ :=
      fun q => B.iter prog w _ _ ⟨hp, g, d, tk, os⟩ _ hH q
    wp_walk using go
    refine wpAny_stack_any fun st => wpAny_pure ?_
    split
    · rename_i c _ _ _ _ _
      cases (c == Value.type "enumerate") <;> (wp_walk using go; exact ⟨_, rfl, h⟩)
    · wp_walk using go
      exact ⟨_, rfl, h⟩
section
variable {prog : Program} {w : World} {A : Around} {E : Value → Shared → Prop} {s : Shared}
theorem call_enumT {v : Value} {o : Obj} {H : Heap → Prop} {Q : Value → Shared → Prop} (B : Begins v o H) (h1 : H s.heap)
    (h : ∀ h', IsEnum h' (s.heap.objs.size + 1) s.heap.objs.size 0 .none → h'.get? s.heap.objs.size = some o → (∀ b u, s.heap.get? b = some u → h'.get? b = some u) → Q (.ref (s.heap.objs.size + 1)) { s with heap := h' }) :
    wpAny (model prog w) A (call (.type "enumerate") [v]) Q E s := by
  refine callType_new F.called_enumerate (by decide) (F.typeCall_enumerate_1 _) (F.newCall_enumerate_1 _) (fun obj => F.args_object_init_2 obj _) F.entry_enumerate_new (meets_enumT B) ⟨h1, ?_⟩
  have hz : (s.heap.push o).objs.size = s.heap.objs.size + 1 := Heap.size_push ..
  show _ ∧ _
  rw [hz]
  have he : IsEnum ((s.heap.push o).push { cls := .type "enumerate", data := .fields #[.none, .bool false, .ref s.heap.objs.size, rawInt 0, .none, .none] }) (s.heap.objs.size + 1) s.heap.objs.size 0 .none := by
    have q := Heap.get?_push_size (s.heap.push o) (o := { cls := .type "enumerate", data := .fields #[.none, .bool false, .ref s.heap.objs.size, rawInt 0, .none, .none] }) rfl
    rw [hz] at q
    exact q
  exact ⟨⟨_, he, rfl⟩, h _ he (Heap.get?_push_of_some _ (Heap.get?_push_size _ B.free)) fun b u x => Heap.get?_push_of_some _ (Heap.get?_push_of_some _ x)⟩
end
def IteT (K : PySem.W.Frag) (a : Addr) : It :=
  ⟨fun i H => ∃ (xs : List V) (x : V), SqT K H a xs ∧ xs[i]? = some x, fun i H v H' => ∃ T x, v = .ref T ∧ H T = none ∧ H' = upd H T (.tup [.int (i : Nat), x]) ∧ ∀ xs, SqT K H a xs → xs[i]? = some x, fun i H => ∃ xs : List V, SqT K H a xs ∧ xs.length = i⟩
theorem turn_enumT {P : Program} {w : World} {K : PySem.W.Frag} {elts : List Expr} {kk : Nat} {tpos : Pos} (a e it : Addr) (hai : a ≠ it) :
    Turn P w K (.Tuple elts kk tpos) (IteT K a) [e, it] e (fun i h => (∃ old, IsEnum h e it ((i : Nat) : Int) old) ∧ h.IsTupleIter it a i ∧ e ≠ it) where
  mem := by simp
  obj := fun i h st b hb => by
    obtain ⟨⟨old, he⟩, ⟨o, ho, hc, hd⟩, _⟩ := st
    have e' : b = e ∨ b = it := by simpa using hb
    rcases e' with z | z
    · rw [z]; exact ⟨_, he, fun v q => nomatch q⟩
    · rw [z]; exact ⟨o, ho, fun v q => by rw [hd] at q; cases q⟩
  keep := fun i h h' st k => let ⟨⟨old, he⟩, hi, hne⟩ := st; ⟨⟨old, k e (by simp) _ he⟩, hi.at fun o q => k it (by simp) o q, hne⟩
  item := by
    intro X hP hw hK hc i pins s σ H E I hf st hg
    subst hP hw hK
    obtain ⟨⟨old, he⟩, hit, hne⟩ := st
    obtain ⟨xs, x, hq, hx⟩ := hg
    obtain ⟨its, rv, p, hz⟩ := I.tuple hq
    obtain ⟨u, hu, ru⟩ := rv.get hx
    have hel : e < s.heap.objs.size := Heap.lt_size he
    have hil : it < s.heap.objs.size := by obtain ⟨_, q, _⟩ := hit; exact Heap.lt_size q
    have hlt : i < its.toArray.size := by
      have := (List.getElem?_eq_some_iff.mp hu).1
      simpa using this
    have hea : e ≠ a := fun z => by
      obtain ⟨o, ho, hcl, _⟩ := (id p : IsTup s.heap a its.toArray)
      rw [← z] at ho
      have he2 : s.heap.get? e = some _ := he
      rw [ho] at he2
      cases he2
      exact absurd hcl (fun q => by injection q with q; exact absurd q (by decide))
    refine wpAny_pyNext_enum_itemD (Draws.tuple (A := X.A.in1) (I.ok.hd hc) it a hai its.toArray) he ⟨hit, p⟩ hlt hne (by simp [hne, hea]) fun y h' tk hP' ho hst' hT hsz hk => ?_
    have ey : y = u := by
      have : its.toArray[i]? = some u := by simpa using hu
      rw [this] at hP'
      exact (Option.some.inj hP').symm
    subst ey
    refine ⟨_, rfl, wpAny_letOwnedTupleGo_enum (s := { s with heap := h', toks := tk + 1 }) ho fun h'' he' sb => ?_⟩
    have hT2 : h''.get? s.heap.objs.size = some { cls := .type "tuple", data := .seq #[.int i tk, y] } := (sb.2 _ (Nat.ne_of_gt hel)).trans hT
    have new : ObjOk X.prog X.w (upd H s.heap.objs.size (.tup [.int (i : Nat), x])) h'' s.heap.objs.size (.tup [.int (i : Nat), x]) :=
      ⟨by show 2 ≤ sizeLine; decide, [.int i tk, y], .cons ⟨_, rfl⟩ (.cons ru .nil), ⟨_, hT2, rfl, _, rfl⟩⟩
    have I1 : Inv X pins σ (upd H s.heap.objs.size (.tup [.int (i : Nat), x])) { s with heap := h'', toks := tk + 1 } :=
      I.turnedNew (ch := [e, it]) (fun b ob hb q => (sb.2 b (fun z => hb (by simp [z]))).trans (hk b ob (fun z => hb (by simp [z])) (fun z => hb (by simp [z])) q)) hf (Nat.le_refl _) new
    refine ⟨.ref s.heap.objs.size, _, I1, rfl, ⟨_, x, rfl, I.hok.fresh (Nat.le_refl _), rfl, fun ys hy => by rw [I.tuple_inj hy hq]; exact hx⟩, ⟨⟨y, ?_⟩, hst'.1.at fun o q => (sb.2 it (Ne.symm hne)).trans q, hne⟩, fun b hb => ?_⟩
    · have e1 : ((i + 1 : Nat) : Int) = (i : Int) + 1 := by omega
      rw [e1]; exact he'
    · have hb' : b < s.heap.objs.size := by
        have e' : b = e ∨ b = it := by simpa using hb
        rcases e' with z | z
        · rw [z]; exact hel
        · rw [z]; exact hil
      rw [upd_ne (Nat.ne_of_lt hb')]
      exact (hf b hb).1
  done := by
    intro X hP hw hK hc i pins s σ H E I hf st hg
    subst hP hw hK
    obtain ⟨⟨old, he⟩, hit, hne⟩ := st
    obtain ⟨xs, hq, hx⟩ := hg
    obtain ⟨its, rv, p, hz⟩ := I.tuple hq
    obtain ⟨f0, f1, f2, f3, f4, f5⟩ := hf it (by simp)
    have hl := rv.length
    have hn : i = its.toArray.size := by rw [List.size_toArray, ← hl, hx]
    refine wpAny_pyNext_enum_endD (Draws.tuple (A := X.A.in1) (I.ok.hd hc) it a hai its.toArray) he ⟨hn ▸ hit, p⟩ fun h' eb => ⟨rfl, I.turned (t' := s.toks) (fun b o hb q => eb b o hb q) f0 f1 f3 f4 f5⟩
  self := fun A i s Q E st h => let ⟨⟨_, he⟩, _⟩ := st; wpAny_pyIter_enum he h
def iEnumT (K : PySem.W.Frag) (ta : TA) : TI := fun σ H R => ta σ H fun vs H1 => ∃ a xs, vs = [.ref a] ∧ SqT K H1 a xs ∧ R (IteT K a) H1
theorem pi_enumT {X : Cx} {e : Expr} {ta : TA} {p pos tpos : Pos} {elts : List Expr} {kk : Nat} (hg : Gl X "enumerate") (hm : X.mg "enumerate" = none) (ha : PA X [e] ta) (hs : starEach [e] X.env = [(false, eval e X.env)] := by rfl) :
    PI X (.Tuple elts kk tpos) (.Call (.Name "enumerate" p) [e] [] pos) (iEnumT X.K ta) := by
  refine ⟨fun pins s σ H R I h => ?_⟩
  refine Call_ (ld_blt I hg hm boot_enumerate (PyProof.Rows.callWith_type1 (thn (ha.run pos pins s σ H _ I h) fun us s1 ⟨vs, H1, I1, r1, q1⟩ => ?_) hs rfl))
  obtain ⟨a, xs, ex, hq, q⟩ := q1
  subst ex
  cases r1 with
  | cons r rr =>
    cases rr
    cases r
    obtain ⟨its, rv, p', hz⟩ := I1.tuple hq
    refine call_enumT (begins_tuple a its.toArray) p' fun h' he hit hk => wpAny_pyIter_enum he ?_
    have I2 : Inv X pins σ H1 { s1 with heap := h' } := I1.kept (t' := s1.toks) hk
    have hal : a < s1.heap.objs.size := by obtain ⟨_, q, _⟩ := id p'; exact Heap.lt_size q
    refine ⟨s1.heap.objs.size + 1, [s1.heap.objs.size + 1, s1.heap.objs.size], _, _, H1, rfl, I2, turn_enumT a (s1.heap.objs.size + 1) s1.heap.objs.size (Nat.ne_of_lt hal), ⟨⟨.none, he⟩, ⟨_, hit, rfl, rfl⟩, Nat.succ_ne_self _⟩, fun b hb => ?_, q⟩
    have e' : b = s1.heap.objs.size + 1 ∨ b = s1.heap.objs.size := by simpa using hb
    have hle : s1.heap.objs.size ≤ b := by
      rcases e' with z | z
      · rw [z]; exact Nat.le_add_right _ _
      · rw [z]; exact Nat.le_refl _
    exact I1.fpOk hle (I1.hok.fresh hle)
def enumD (xs : List D) : List D := xs.mapIdx fun i x => .tup [.int (i : Nat), x]
def zipD (xs ys : List D) : List D := List.zipWith (fun x y => .tup [x, y]) xs ys
def kEnum : List D → AH → Out Its
  | [d], h => match itsOf h d with
    | some it => .ok { xs := enumD it.xs, g := it.g } h
    | none => .stuck
  | _, _ => .stuck
def zipG : Option (Nat × GO) → Option (Nat × GO) → Option (Option (Nat × GO))
  | none, g => some g
  | g, none => some g
  | some (n, .lst xs), some (m, .lst ys) => some (some (n, .two xs m ys))
  | _, _ => none
def kZip : List D → AH → Out Its
  | [.tup xs, .tup ys], h => .ok { xs := zipD xs ys } h
  | [.tup _, _], _ => .stuck
  | [_, .tup _], _ => .stuck
  | [d, d'], h => match itsOf h d, itsOf h d' with
    | some it, some it' => match zipG it.g it'.g with
      | some g => .ok { xs := zipD it.xs it'.xs, g := g } h
      | none => .stuck
    | _, _ => .stuck
  | _, _ => .stuck
section
variable {X : Cx} {W : Wx}
theorem list_walk {K : PySem.W.Frag} {mg : Str → Option Value} {r : List Addr} {h : AH} {H : Hp} {v : V} {d : D} {it : Its} (hr : HRel K mg r h H) (q : RelU K mg r H v d) (e : itsOf h d = some it) (ht : ∀ xs, d ≠ .tup xs) :
    ∃ a vs, v = .ref a ∧ SqL K H a vs ∧ (∀ r' h' H', Step r H r' H' → HRel K mg r' h' H' → guardOk it.g h' = true → ∃ ws, SqL K H' a ws ∧ Rels K mg r' H' ws it.xs) := by
  cases q with
  | @tl p vs xs a b c q =>
    cases e
    exact ⟨p, vs, rfl, .inl (.inl b), fun r' h' H' s _ _ => ⟨vs, .inl (.inl (s.keep _ _ b c NoOwn.of)), q.mono s.mn⟩⟩
  | val q => cases q with
    | tup => exact absurd rfl (ht _)
    | @ref n a hn =>
      simp only [itsOf] at e
      split at e
      · rename_i xs hx
        cases e
        obtain ⟨vs, h1, h2⟩ := hr.obj _ _ _ hx hn
        refine ⟨a, vs, rfl, .inl (.inl h1), fun r' h' H' s hr' hg => ?_⟩
        simp only [guardOk, decide_eq_true_eq] at hg
        obtain ⟨ws, z1, z2⟩ := hr'.obj _ _ _ hg (s.get hn)
        exact ⟨ws, .inl (.inl z1), z2⟩
      · cases e
    | @rl a vs xs h1 h2 =>
      cases e
      exact ⟨a, vs, rfl, h1.sq, fun r' h' H' s _ _ => ⟨vs, (h1.mono s.mn).sq, h2.mono s.mn⟩⟩
    | _ => cases e
theorem pair_ok {K : PySem.W.Frag} {mg : Str → Option Value} {r1 : List Addr} {h1 : AH} {H1 H2 : Hp} {T : Addr} {x y : V} {d d' : D} (hr1 : HRel K mg r1 h1 H1) (hT : H1 T = none) (e : H2 = upd H1 T (.tup [x, y])) (q : Rel K mg r1 H1 x d) (q' : Rel K mg r1 H1 y d') :
    Step r1 H1 r1 H2 ∧ HRel K mg r1 h1 H2 ∧ Rel K mg r1 H2 (.ref T) (.tup [d, d']) := by
  subst e
  have s : Step r1 H1 r1 (upd H1 T (.tup [x, y])) := Step.alloc hT
  exact ⟨s, hr1.alloc hT, .tup ⟨fun z => hr1.there z hT, upd_same⟩ (.cons (q.mono s.mn) (.cons (q'.mono s.mn) .nil))⟩
theorem den_enum {a : Expr} {p pos tpos : Pos} {elts : List Expr} {kk : Nat} {f : Ev} (hg : Gl X "enumerate") (hm : X.mg "enumerate" = none) (ha : DenA X W [a] (evs [f])) (hs : starEach [a] X.env = [(false, eval a X.env)] := by rfl) : DenI X W (.Tuple elts kk tpos) (.Call (.Name "enumerate" p) [a] [] pos) (ivBy [f] kEnum) :=
  PI.imp (PI.or (pi_enum hg hm ha hs) (pi_enumT hg hm ha hs)) fun σ H R ⟨r, e, h, er, hr, ok⟩ => by
    unfold ivBy at ok
    cases hfe : evs [f] e h with
    | stuck => rw [hfe] at ok; exact ok.elim
    | exc x h1 => exact .inl ⟨r, e, h, er, hr, by rw [hfe] at ok ⊢; exact ok⟩
    | ok ds h1 =>
      rw [hfe, Out.bind_ok] at ok
      unfold kEnum at ok
      split at ok
      · rename_i d
        split at ok
        · rename_i it hi
          by_cases ht : ∃ xs, d = .tup xs
          · obtain ⟨xs, rfl⟩ := ht
            cases hi
            refine .inr ⟨r, e, h, er, hr, ?_⟩
            rw [hfe]
            intro vs r1 H1 s1 hr1 t1
            obtain ⟨v, rfl, t⟩ := t1.one
            obtain ⟨b, ws, rfl, z1, z2⟩ := t.tup_inv
            refine ⟨b, ws, rfl, z1.sq, ok _ r1 H1 s1 hr1 ⟨fun H => SqT X.K H b ws, fun i H x H' => ∃ T y, x = .ref T ∧ H T = none ∧ H' = upd H T (.tup [.int (i : Nat), y]) ∧ ws[i]? = some y, ?_, fun r' H' h' s _ _ => (z1.mono s.mn).sq, ?_⟩⟩
            · have hl : (enumD xs).length = ws.length := by simp [enumD, z2.length]
              refine walk_len (n := ws.length) ⟨fun i H hi q => ⟨ws, ws[i], q, by simp [hi]⟩, fun H q => ⟨ws, q, rfl⟩, fun i H x H' hi q y => ?_⟩ hl.symm
              obtain ⟨T, u, y1, y2, y3, y4⟩ := y
              exact ⟨T, u, y1, y2, y3, y4 ws q⟩
            · rintro i r2 h2 H2 x H3 hi s2 hr2 hgd ⟨T, y, rfl, hT, eH, hy⟩
              obtain ⟨d, g1, g2⟩ := (z2.mono s2.mn).get hy
              obtain ⟨w1, w2, w3⟩ := pair_ok hr2 hT eH (.int _) g2
              exact ⟨w1, w2, _, by simp [enumD, g1], w3⟩
          · refine .inl ⟨r, e, h, er, hr, ?_⟩
            rw [hfe]
            intro vs r1 H1 s1 hr1 t1
            obtain ⟨v, rfl, t⟩ := t1.one
            obtain ⟨b, ws, rfl, z1, z2⟩ := list_walk hr1 t hi (fun xs z => ht ⟨xs, z⟩)
            refine ⟨b, ws, rfl, z1, ok _ r1 H1 s1 hr1 ⟨fun H => ∃ us, SqL X.K H b us ∧ us.length = it.xs.length, fun i H x H' => ∃ T y, x = .ref T ∧ H T = none ∧ H' = upd H T (.tup [.int (i : Nat), y]) ∧ ∀ us, SqL X.K H b us → us[i]? = some y, ?_, fun r' H' h' s hr' hg' => ?_, ?_⟩⟩
            · have hl : (enumD it.xs).length = it.xs.length := by simp [enumD]
              refine walk_len (n := it.xs.length) ⟨fun i H hi ⟨us, q, ql⟩ => ⟨us, us[i]'(by rw [ql]; exact hi), q, by simp [ql, hi]⟩, fun H ⟨us, q, ql⟩ => ⟨us, q, by rw [ql]; exact Nat.le_refl _⟩, fun i H x H' hi q y => ?_⟩ hl.symm
              obtain ⟨T, u, y1, y2, y3, y4⟩ := y
              exact ⟨T, u, y1, y2, y3, y4⟩
            · obtain ⟨us, g1, g2⟩ := z2 r' h' H' s hr' hg'
              exact ⟨us, g1, g2.length⟩
            · rintro i r2 h2 H2 x H3 hi s2 hr2 hgd ⟨T, y, rfl, hT, eH, hy⟩
              obtain ⟨us, g1, g2⟩ := z2 r2 h2 H2 s2 hr2 hgd
              obtain ⟨d, g3, g4⟩ := g2.get (hy us g1)
              obtain ⟨w1, w2, w3⟩ := pair_ok hr2 hT eH (.int _) g4
              exact ⟨w1, w2, _, by simp [enumD, g3], w3⟩
        · exact ok.elim
      · exact ok.elim
end
end BW

set_option Elab.async false
set_option linter.all false
set_option maxRecDepth 100000
set_option maxHeartbeats 4000000
namespace BW
open PySem PySem.Spec PyProof.Rows L2
variable [Tb]
def Wc (W : Wx) : Prop := ∀ c dx σ σ' H, W c dx σ H → W c dx σ' H
theorem wc_E {E : XK} : Wc (fun c dx _ H => E c dx H) := fun _ _ _ _ _ z => z
structure SC (K : PySem.W.Frag) (mg : Str → Option Value) (c f : Str) : Prop where
  ex : ∃ C p, mg c = some (.ref C) ∧ SlX.SCls K C ∧ SlX.Slot1 K C f p 0
def Mt (P : Program) (w : World) (K : PySem.W.Frag) (mg : Str → Option Value) (base : Heap) (c m : Str) (k n : Nat) (d : Fd) : Prop :=
  ∃ C f, mg c = some (.ref C) ∧ Meth K C m f ∧ FnR P w K mg base (L2.CX P w) k f (spF K mg n d)
def Mkr (P : Program) (w : World) (K : PySem.W.Frag) (mg : Str → Option Value) (base : Heap) (c : Str) (k n : Nat) (d : Fd) : Prop :=
  ∃ C f fd ps, mg c = some (.ref C) ∧ Mk K C f ∧ FnOk P w K mg base (L2.CX P w) k f fd ps (spF K mg n d) ∧ Binds K fd ps []
def evMake (c : Str) (d : Fd) (fs : List Ev) : Ev := fun e h => (evsV fs e h).bind fun ds h1 => (d (.ref h1.length :: ds) (h1 ++ [.ins c []])).bind fun v h2 => match v with
  | .non => .ok (.ref h1.length) h2
  | _ => .stuck
def slotD (h : AH) (o : D) : Option D := match o with
  | .ref n => match h[n]? with
    | some (.sins _ [some d]) => some d
    | _ => none
  | _ => none
def evSlot (c : Str) (f : Ev) : Ev := fun e h => (f e h).bind fun o h1 => match o with
  | .ref n => match h1[n]? with
    | some (.sins c' [some d]) => if c' = c then .ok d h1 else .stuck
    | _ => .stuck
  | _ => .stuck
def svSlot (c : Str) (fo fv : Ev) : Sv := fun e h => (pv fv e h).toFl e fun d h1 => (fo e h1).toFl e fun o h2 => match o with
  | .ref n => if h2[n]? = some (.ins c []) then .nx e (h2.set n (.sins c [some d])) else .stuck
  | _ => .stuck
section
variable {X : Cx} {W : Wx}
theorem passesW (tk : Takes X W) (hc : Wc W) : Passes (L2.CX X.prog X.w) X (fun c dx H => ∃ σ, W c dx σ H) := passes_call tk fun c dx σ H ⟨σ', z⟩ => hc c dx σ' σ H z
theorem den_make {c : Str} {k n : Nat} {d : Fd} {p pos : Pos} {ex : Expr} {es : List Expr} {fs : List Ev} {j : Nat} (M : Mkr X.prog X.w X.K X.mg X.base c k n d) (hr : Room j X.A) (tk : Takes X W) (hc : Wc W) (ha : DenVs X W (ex :: es) (evsV fs)) (hjk : k + 1 ≤ j := by decide) (hn : fs.length + 1 = n := by rfl) (hg : Gl X c := by rfl)
    (hdb : (c == ("__debug__" : Str)) = false := by decide) (he : starEach (ex :: es) X.env = (false, eval ex X.env) :: starEach es X.env := by rfl) (hpl : (backTo pos (starEach es X.env)).any (·.1) = false := by rfl) : DenE X W (.Call (.Name c p) (ex :: es) [] pos) (evMake c d fs) := by
  obtain ⟨C, f, fd, ps, hm, M, F, b⟩ := M
  refine PE.imp (pe_make M F (hr.mono hjk) hg hm b .nil (passesW tk hc) ha hdb he hpl) fun σ H Q ⟨r, e, h, er, hrel, ok⟩ => ?_
  unfold evMake at ok
  refine ⟨r, e, h, er, hrel, ?_⟩
  cases hf : evsV fs e h with
  | stuck => rw [hf] at ok; exact ok
  | exc x h1 => rw [hf] at ok; exact ok
  | ok ds h1 =>
    rw [hf, Out.bind_ok] at ok
    intro vs r1 H1 s1 hr1 t1 x dx hx hdx hne
    have hxr : x ∉ r1 := fun z => hr1.there z hx
    have hdr : dx ∉ r1 := fun z => hr1.there z hdx
    have sd : Step r1 H1 r1 (upd H1 dx (.own x)) := Step.alloc hdx
    have hx2 : upd H1 dx (.own x) x = none := by rw [upd_ne hne.symm]; exact hx
    have sx : Step r1 (upd H1 dx (.own x)) r1 (upd (upd H1 dx (.own x)) x (.ins C dx [])) := Step.alloc hx2
    have h2 : HRel X.K X.mg r1 h1 (upd (upd H1 dx (.own x)) x (.ins C dx [])) := (hr1.alloc hdx).alloc hx2
    have mo : Mo r1 (upd (upd H1 dx (.own x)) x (.ins C dx [])) (r1 ++ [x]) (upd (upd H1 dx (.own x)) x (.ins C dx [])) := Mo.push upd_same (fun z => z) NoOwn.of
    have s3 : Step r1 H1 (r1 ++ [x]) (upd (upd H1 dx (.own x)) x (.ins C dx [])) := Step.push hxr (sd.trans sx) (.of hx)
    have h3 : HRel X.K X.mg (r1 ++ [x]) (h1 ++ [.ins c []]) (upd (upd H1 dx (.own x)) x (.ins C dx [])) :=
      h2.push (ob := .ins c []) hxr mo ⟨C, dx, [], hm, upd_same, by rw [upd_ne hne, upd_same], fun z => by
        rcases List.mem_append.mp z with z | z
        · exact hdr z
        · exact hne (List.mem_singleton.mp z), .nil⟩
    have hl : (r1 ++ [x])[h1.length]? = some x := by rw [← hr1.len, List.getElem?_append_right (Nat.le_refl _), Nat.sub_self]; rfl
    rw [List.append_nil]
    refine ⟨r1 ++ [x], h1 ++ [.ins c []], .ref h1.length :: ds, h3, .cons (.ref hl) (t1.mono s3.mn), by rw [List.length_cons, evsV_len hf]; exact hn, ?_⟩
    have ok1 := OkE.after (s1.trans s3) ok
    cases hd : d (.ref h1.length :: ds) (h1 ++ [.ins c []]) with
    | stuck => rw [hd] at ok1; exact ok1
    | exc y h4 => rw [hd] at ok1; exact fun cc dd r' H' s' hr' t => ⟨σ, ok1 cc dd r' H' s' hr' t⟩
    | ok v h4 =>
      rw [hd, Out.bind_ok] at ok1
      intro u r' H' s' hr' t
      cases v with
      | non =>
        cases t
        exact ⟨rfl, ok1 _ r' H' s' hr' (.val (.ref (s'.get hl)))⟩
      | _ => exact ok1.elim
theorem den_slot {c f : Str} {ex : Expr} {pos : Pos} {fe : Ev} (S : SC X.K X.mg c f) (he : DenE X W ex fe) (hb : attributeBase ex f X.env (eval ex X.env) = eval ex X.env := by rfl) : DenE X W (.Attribute ex f pos) (evSlot c fe) := by
  obtain ⟨C, p, hm, sc, sl⟩ := S.ex
  refine PE.imp (SlX.pe_sl he hb) fun σ H Q ⟨r, e, h, er, hr, ok⟩ => ?_
  unfold evSlot at ok
  refine rdE_bind er hr ok fun o h1 v r1 H1 s1 hr1 t1 er1 ok1 => ?_
  split at ok1
  · rename_i n
    split at ok1
    · rename_i c' d hd
      split at ok1
      · rename_i hcc
        subst hcc
        cases t1 with
        | val t1 => cases t1 with
          | @ref n a hn =>
            obtain ⟨C', dx, vs, z1, z2, z3, z4, z5⟩ := hr1.obj _ _ _ hd hn
            rw [hm] at z1
            cases z1
            cases z5 with
            | @some v x vs xs q z5 =>
              cases z5
              exact ⟨a, C, dx, p, [some v], 0, v, rfl, .inr ⟨z2, z3⟩, sc, sl, rfl, ok1 _ r1 H1 (Step.refl _ _) hr1 (.val q)⟩
      · exact ok1.elim
    · exact ok1.elim
  · exact ok1.elim
theorem den_setslot {c f : Str} {o ex : Expr} {pos pos' : Pos} {fo fv : Ev} (S : SC X.K X.mg c f) (ho : DenE X W o fo) (hv : DenE X W ex fv) (hs : swapsWith ex (some (.Attribute o f pos')) pos.line X.env = pure false := by rfl) : DenS X W (.Assign [.Attribute o f pos'] ex pos) (svSlot c fo fv) := by
  obtain ⟨C, p, hm, sc, sl⟩ := S.ex
  refine PS.imp (SlX.ps_sl ho (den_pv hv) hs) fun N σ H ⟨r, e, h, er, hr, ok⟩ => ?_
  unfold svSlot at ok
  refine rdV_bindS er hr ok fun d h1 v r1 H1 s1 hr1 t1 er1 ok1 => ?_
  refine rdE_bindS er1 hr1 ok1 fun o h2 w r2 H2 s2 hr2 t2 er2 ok2 => ?_
  split at ok2
  · rename_i n
    split at ok2
    · rename_i hi
      cases t2 with
      | val t2 => cases t2 with
        | @ref n a hn =>
          obtain ⟨C', dx, vs, z1, z2, z3, z4, z5⟩ := hr2.obj _ _ _ hi hn
          rw [hm] at z1
          cases z1
          cases z5
          have ha : a ∈ r2 := List.mem_of_getElem? hn
          have hne : dx ≠ a := fun z => z4 (z ▸ ha)
          refine ⟨a, C, dx, p, [], 0, rfl, .inl ⟨z2, rfl⟩, sc, sl, ?_⟩
          have e0 : SlX.putS 0 v [] = [some v] := rfl
          rw [e0]
          have q := t1.mono s2.mn
          -- the steps
          have st : Step r2 H2 r2 (SlX.slH H2 a C dx [some v]) := ⟨List.prefix_refl _, fun _ x y => absurd x y, fun b o hb hn' ho => by
              have n1 : b ≠ a := fun z => hn' (z ▸ ha)
              have n2 : b ≠ dx := fun z => by subst z; rw [z3] at hb; cases hb; exact ho.1 a rfl
              rw [SlX.slH_ne n1 n2]; exact hb, fun b f => by
              by_cases n1 : b = a
              · subst n1
                obtain ⟨ps, z⟩ := f _ (by unfold SlX.slH; rw [upd_same])
                unfold SlX.SlO at z
                cases z
              · by_cases n2 : b = dx
                · subst n2
                  obtain ⟨ps, z⟩ := f _ (by unfold SlX.slH; rw [upd_ne n1, upd_same])
                  cases z
                · intro u e
                  exact f u (by rw [SlX.slH_ne n1 n2]; exact e), fun b u w hb => by
              have n1 : b ≠ a := fun z => by subst z; rw [z2] at hb; cases hb
              have n2 : b ≠ dx := fun z => by subst z; rw [z3] at hb; cases hb
              rw [SlX.slH_ne n1 n2]; exact hb⟩
          have tb : TbOk r2 (SlX.slH H2 a C dx [some v]) := ⟨fun p hp => by
              obtain ⟨ps, y1, y2, y3, y4⟩ := hr2.tbs.tab p hp
              have n1 : p.1 ≠ a := fun z => y2 (z ▸ ha)
              have n2 : p.1 ≠ dx := fun z => by rw [z, z3] at y1; cases y1
              refine ⟨ps, by rw [SlX.slH_ne n1 n2]; exact y1, y2, y3, fun pos cv hc => ?_⟩
              obtain ⟨k, k1, k2, k3⟩ := y4 pos cv hc
              have m1 : k ≠ a := fun z => k2 (z ▸ ha)
              have m2 : k ≠ dx := fun z => by rw [z, z3] at k3; unfold LamX.CodeO at k3; cases k3
              exact ⟨k, k1, k2, by rw [SlX.slH_ne m1 m2]; exact k3⟩⟩
          refine ok2 σ r2 _ st (er2.mono st.mn) ⟨by rw [List.length_set]; exact hr2.len, hr2.nd, tb, fun i ob b e1 e2 => ?_⟩
          by_cases hij : n = i
          · subst hij
            rw [hn] at e2
            cases e2
            rw [List.getElem?_set] at e1
            simp only [if_true] at e1
            split at e1
            · cases e1
              exact ⟨C, dx, [some v], hm, by unfold SlX.slH; rw [upd_same], by unfold SlX.slH; rw [upd_ne hne, upd_same], z4, .some (q.mono st.mn) .nil⟩
            · cases e1
          · rw [List.getElem?_set_ne hij] at e1
            have nb : b ≠ a := fun z => by
              subst z
              exact hij ((List.getElem?_inj (List.getElem?_eq_some_iff.mp hn).1 hr2.nd).mp (hn.trans e2.symm))
            have nbd : b ≠ dx := fun z => z4 (z ▸ List.mem_of_getElem? e2)
            have keepOwn : ∀ x y, H2 x = some (.own y) → y ≠ a → x ∉ r2 → SlX.slH H2 a C dx [some v] x = some (.own y) := fun x y hx hy hxr => by
              have n1 : x ≠ a := fun z => hxr (z ▸ ha)
              have n2 : x ≠ dx := fun z => by subst z; rw [z3] at hx; cases hx; exact hy rfl
              rw [SlX.slH_ne n1 n2]; exact hx
            have eb : SlX.slH H2 a C dx [some v] b = H2 b := SlX.slH_ne nb nbd
            have old := hr2.obj i ob b e1 e2
            cases ob with
            | lst xs => obtain ⟨us, y1, y2⟩ := old; exact ⟨us, eb.trans y1, y2.mono st.mn⟩
            | dk xs => obtain ⟨us, y1, y2⟩ := old; exact ⟨us, eb.trans y1, y2.mono st.mn⟩
            | dt xs => obtain ⟨us, y1, y2⟩ := old; exact ⟨us, eb.trans y1, y2.mono st.mn⟩
            | ins c2 fs => obtain ⟨C2, dy, us, y0, y1, y2, y3, y4⟩ := old; exact ⟨C2, dy, us, y0, eb.trans y1, keepOwn dy b y2 nb y3, y3, y4.mono st.mn⟩
            | sins c2 fs => obtain ⟨C2, dy, us, y0, y1, y2, y3, y4⟩ := old; exact ⟨C2, dy, us, y0, eb.trans y1, st.keep _ _ y2 y3 NoOwn.of, y3, y4.mono st.mn⟩
            | fz xs => obtain ⟨u, us, y1, y2⟩ := old; exact ⟨u, us, eb.trans y1, y2.mono st.mn⟩
    · exact ok2.elim
  · exact ok2.elim
def isC (h : AH) (c : Str) (o : D) : Bool := match o with
  | .ref n => match h[n]? with
    | some (.sins c' _) => decide (c' = c)
    | some (.ins c' []) => decide (c' = c)
    | _ => false
  | _ => false
theorem isC_ok {K : PySem.W.Frag} {mg : Str → Option Value} {r : List Addr} {h : AH} {H : Hp} {v : V} {o : D} {c : Str} {C : Addr} (hr : HRel K mg r h H) (hm : mg c = some (.ref C)) (t : RelU K mg r H v o) (z : isC h c o = true) : ∃ a dx vs, v = .ref a ∧ SlX.Slt H a C dx vs ∧ Rel K mg r H v o := by
  unfold isC at z
  split at z
  · rename_i n
    cases t with
    | val t => cases t with
      | @ref n a hn =>
        split at z
        · rename_i c' vs hv
          have := of_decide_eq_true z
          subst this
          obtain ⟨C', dx, us, y0, y1, y2, y3, y4⟩ := hr.obj _ _ _ hv hn
          rw [hm] at y0
          cases y0
          exact ⟨a, dx, us, rfl, .inr ⟨y1, y2⟩, .ref hn⟩
        · rename_i c' hv
          have := of_decide_eq_true z
          subst this
          obtain ⟨C', dx, us, y0, y1, y2, y3, y4⟩ := hr.obj _ _ _ hv hn
          rw [hm] at y0
          cases y0
          cases y4
          exact ⟨a, dx, [], rfl, .inl ⟨y1, rfl⟩, .ref hn⟩
        · cases z
  · cases z
end
end BW

set_option Elab.async false
set_option linter.all false
set_option maxRecDepth 100000
set_option maxHeartbeats 4000000
namespace BW
open PySem PySem.Spec PyProof.Rows L2
variable [Tb]
structure FnG (P : Program) (w : World) (K : PySem.W.Frag) (mg : Str → Option Value) (base : Heap) (k : Nat) (f : Addr) (fd : FuncData) (ps : List Str) (sp : Sp) : Prop where
  len : ∀ vs H Q E, sp vs H Q E → vs.length = ps.length
  go : ∀ (A : Around) (fr : List PySem.Env) (s : Shared) (H : Hp) (ar : Args) (us : List Value) (vs : List V) (Q : VK) (E : XK), Room k A → A.guards = some [] → Env0 P w K mg base A fr s H → BindsTo s fd ar (ps.zip us) → Vals vs us → sp vs H Q E →
    codeAny (model P w) A (.call (.ref f) ar) (CR (L2.CX P w) fr P w H s Q E) s
theorem deeper_guards {A : Around} {e : PySem.Env} (h : A.guards = some []) : (A.deeper e).guards = some [] := by
  first
    | exact h
    | (simp [Around.deeper, Around.under, Code.guards, Code.isGuard, pushGuards, h])
theorem fnG_of {P : Program} {w : World} {K : PySem.W.Frag} {mg : Str → Option Value} {base : Heap} {x qual : Str} {st : Stmt} {f : Addr} {fd : FuncData} {N ps : List Str} {k : Nat} {sp : Sp} (F : Fun K x qual st f fd) (S : FnScope N ps (defScope st))
    (len : ∀ vs H Q E, sp vs H Q E → vs.length = ps.length)
    (hb : ∀ (cdv : Value), fd.code = cdv → ∀ (A : Around) (fr : List PySem.Env) (s : Shared) (H : Hp) (vs : List V) (Q : VK) (E : XK), Room k (A.deeper (envOfC qual (defScope st) s.heap.objs.size f cdv)) → A.guards = some [] → sp vs H Q E →
      ∃ t, PSs (cxOf (L2.CX P w) P w K mg base N qual (defScope st) f cdv A fr s H E) (defBody st) t ∧ t { nx := fun _ H' => Q .non H', rt := Q } (L2.start N vs) H) : FnG P w K mg base (k + 1) f fd ps sp := by
  obtain ⟨oc, od, kV, doc, pm, an, cdv, ct, osl, rfl, lk, hcd⟩ := F.ex
  refine ⟨len, fun A fr s H ar us vs Q E hr hg e0 bd r z => ?_⟩
  have keep : ∀ b o, base.get? b = some o → s.heap.get? b = some o := fun b o e => (e0.bs b o e).1
  have KX : K.In s.heap := e0.mod.kin.keeps keep
  refine codeAny_call_function hr.depth (KX _ _ lk) rfl S.co S.gen rfl (PySem.W.codeRec_of KX hcd) (bd _ _ _ _ ?_)
  refine wpAny_newFunctionEnv_cells S.kind (fun y hy => ?_) fun ev he s1 z1 => ?_
  · rcases S.par y.1 (List.of_mem_zip (show (y.1, y.2) ∈ ps.zip us from hy)).1 with q | q
    · exact .inl q
    · exact .inr ⟨q, PySem.W.cellsFrom_some _ _ _ (.inl q)⟩
  subst he
  refine ⟨(e0.mod.nolimit.keeps keep).keeps z1.toInCall.keep, codeAny_func ?_⟩
  obtain ⟨t, ht, hq⟩ := hb cdv rfl A fr s H vs Q E (hr.deeper _) hg z
  have J0 := inv_start (CX := L2.CX P w) (E := E) S hr.hd e0 (len _ _ _ _ z) r z1
  refine wpAny_mono (ht.run [] s1 (L2.start N vs) H _ J0 hq) (fun fl s' hs => ?_) fun _ _ y => y
  cases fl with
  | brk => obtain ⟨_, _, _, q⟩ := hs; exact q.elim
  | cont => obtain ⟨_, _, _, q⟩ := hs; exact q.elim
  | ret u =>
    obtain ⟨v, σ', H', J, rv, q⟩ := hs
    exact ⟨v, H', J.os, J.bare, J.base, J.hok, rv, q⟩
  | next =>
    obtain ⟨σ', H', J, q⟩ := hs
    exact ⟨.non, H', J.os, J.bare, J.base, J.hok, rfl, q⟩
def FnN (P : Program) (w : World) (K : PySem.W.Frag) (mg : Str → Option Value) (base : Heap) (x : Str) (k n : Nat) (d : Fd) : Prop :=
  ∃ f fd ps, FnG P w K mg base k f fd ps (spF K mg n d) ∧ Binds K fd ps [] ∧ mg x = some (.ref f) ∧ PySem.W.keepIn K (.ref f) = true
section
variable {P : Program} {w : World} {K : PySem.W.Frag} {mg : Str → Option Value} {base : Heap}
theorem fng_ok {x qual : Str} {st : Stmt} {f : Addr} {fd : FuncData} {N ps : List Str} {k : Nat} {body : Sv} (F : Fun K x qual st f fd) (S : FnScope N ps (defScope st))
    (hb : ∀ (cdv : Value) (A : Around) (outer : List PySem.Env) (s : Shared) (H : Hp) (E : XK), Room k (A.deeper (envOfC qual (defScope st) s.heap.objs.size f cdv)) → (A.deeper (envOfC qual (defScope st) s.heap.objs.size f cdv)).guards = some [] →
      DenB (cxOf (L2.CX P w) P w K mg base N qual (defScope st) f cdv A outer s H E) (fun c dx _ H => E c dx H) (defBody st) body) : FnG P w K mg base (k + 1) f fd ps (spF K mg ps.length (fnD N.length body)) :=
  fnG_of F S (fun vs H Q E ⟨r, h, ds, hr, q, e, _⟩ => by rw [q.length, e]) fun cdv _ A outer s H vs Q E hr hg ⟨r, h, ds, hrel, q, e, ok⟩ =>
    ⟨_, hb cdv A outer s H E hr (deeper_guards hg), r, startE N.length ds, h, start_rel q, hrel, fn_end hrel (fun _ _ _ _ z => z) ok⟩
theorem fng_mk {x qual : Str} {st : Stmt} {f : Addr} {fd : FuncData} {N ps : List Str} (k : Nat) {body : Sv} (F : Fun K x qual st f fd) (m : mg x = some (.ref f)) (S : FnScope N ps (defScope st)) (b : Binds K fd ps [])
    (hb : ∀ (cdv : Value) (A : Around) (outer : List PySem.Env) (s : Shared) (H : Hp) (E : XK), Room k (A.deeper (envOfC qual (defScope st) s.heap.objs.size f cdv)) → (A.deeper (envOfC qual (defScope st) s.heap.objs.size f cdv)).guards = some [] →
      DenB (cxOf (L2.CX P w) P w K mg base N qual (defScope st) f cdv A outer s H E) (fun c dx _ H => E c dx H) (defBody st) body) : FnN P w K mg base x (k + 1) ps.length (fnD N.length body) :=
  ⟨f, fd, ps, fng_ok F S hb, b, m, F.kp⟩
end
section
variable {X : Cx} {W : Wx}
theorem run_G {k : Nat} {f : Addr} {fd : FuncData} {ps : List Str} {sp : Sp} {E : L2.St → XK} {pins : List (Addr × Obj)} {σ : L2.St} {H : Hp} {s : Shared} {Q : VK} {us : List Value} {vs : List V} (F : FnG X.prog X.w X.K X.mg X.base k f fd ps sp) (hr : Room k X.A) (hg : X.A.guards = some []) (hb : Binds X.K fd ps []) (hx : PassesAt (L2.CX X.prog X.w) X σ (E σ))
    (I : Inv X pins σ H s) (r : Vals vs us) (z : sp vs H Q (E σ)) : wpAny (model X.prog X.w) X.A (call (.ref f) us) (EP X pins σ Q) X.xe s := by
  have hl : (us ++ []).length = ps.length := by rw [List.append_nil, ← r.length]; exact F.len _ _ _ _ z
  have b2 := hb s us I.kIn hl
  rw [List.append_nil] at b2
  refine wpAny_call (codeAny_mono (F.go X.A X.stack s H ⟨us, []⟩ us vs Q (E σ) hr hg I.env0 b2 r z) fun rr s' q => ?_)
  rcases rr with e | (u | _ | _ | _)
  · exact hx pins H s e s' I q
  all_goals first | exact I.after q | exact q.elim
theorem den_callN {j k n : Nat} {d : Fd} {x : Str} {p pos : Pos} {ex : Expr} {es : List Expr} {fs : List Ev} (F : FnN X.prog X.w X.K X.mg X.base x k n d) (hr : Room j X.A) (hG : X.A.guards = some []) (tk : Takes X W) (ha : DenVs X W (ex :: es) (evsV fs)) (hjk : k ≤ j := by decide) (hg : Gl X x := by rfl)
    (hn : fs.length = n := by rfl) (hdb : (x == ("__debug__" : Str)) = false := by decide)
    (he : starEach (ex :: es) X.env = (false, eval ex X.env) :: starEach es X.env := by rfl) (hpl : (backTo pos (starEach es X.env)).any (·.1) = false := by rfl) : DenE X W (.Call (.Name x p) (ex :: es) [] pos) (evCall d fs) := by
  obtain ⟨f, fd, ps, h1, h2, h3, h4⟩ := F
  refine ⟨fun pins s σ H Q I q => ?_⟩
  refine wpAny_Call_Name_kw (ld_glob I hg h3 ?_ hdb)
  refine PySem.W.callWith_K (h₀ := X.base) I.ok.mod.kin h4 (thn (ha.run pos pins s σ H _ I (rd_call hn q)) fun us s1 ⟨vs, H1, I1, r, z⟩ => ⟨I1.kIn, ?_⟩) he hpl
  exact run_G (E := WE W) h1 (hr.mono hjk) hG h2 (passAt tk σ) I1 r z
def bRepr (h : AH) : List D → Option D
  | [d] => (dataK h 9 d).bind fun p => if p.showable && decide (p.shown.length ≤ sizeLine) then some (.str p.shown) else none
  | _ => none
theorem reads_ref {h₀ : Heap} {u : Value} {d : PyData} {as : List Addr} (r : Reads h₀ u d as) : (∃ a, u = .ref a) ∨ (∃ b, d = .bool b ∧ u = .bool b) ∨ (∃ i t, d = .int i ∧ u = .int i t) ∨ (∃ x t, d = .str x ∧ u = .str x t) ∨ (d = .none ∧ u = .none) := by
  cases r <;> simp
theorem cd_repr (hu : X.A.units + 64 < cLine) (hG : X.A.guards = some []) : CallD X (.builtin "repr") bRepr := fun pins s σ H xs us Q I rv q => by
  obtain ⟨r, h, ds, d, hr, ts, hg, q⟩ := q
  unfold bRepr at hg
  split at hg
  · rename_i d0
    simp only [Option.bind_eq_some_iff] at hg
    obtain ⟨p, hp, hg⟩ := hg
    split at hg
    · rename_i hz
      cases hg
      obtain ⟨z1, z2⟩ := Bool.and_eq_true_iff.mp hz
      have z2 := of_decide_eq_true z2
      obtain ⟨v, rfl, t⟩ := ts.one
      cases rv with
      | cons ru rr =>
        cases rr
        have hdp := dp_ofU hr hp t
        obtain ⟨as, rd⟩ := Dp.reads I p v _ hdp ru
        obtain ⟨c1, c2⟩ := dataK_shape h 9 d0 p hp
        rcases reads_ref rd with ⟨a, rfl⟩ | ⟨b, rfl, rfl⟩ | ⟨i, t, rfl, rfl⟩ | ⟨x, t, rfl, rfl⟩ | ⟨rfl, rfl⟩
        · exact repr_of_reads' rd z1 (PyData.noDict_hsm (PyData.hasDict_of_canLay p c1)) hG (by omega) (fun b o e => e) (fun h' u tk hk => ⟨.str p.shown, H, I.kept (t' := tk) hk, ⟨u, rfl⟩, q _ H (Step.refl r H) hr (.val (.str _))⟩) z2
        · exact PySem.P.repr_of_bool ⟨.str _, H, I.tok _, ⟨_, rfl⟩, q _ H (Step.refl r H) hr (.val (.str _))⟩
        · refine PySem.P.repr_of_int (by simpa [PyData.showable] using z1) ⟨.str _, H, I.tok _, ⟨_, rfl⟩, q _ H (Step.refl r H) hr (.val (.str _))⟩
        · refine PySem.P.repr_of_str (hsz := z2) ⟨.str _, H, I.tok _, ⟨_, rfl⟩, q _ H (Step.refl r H) hr (.val (.str _))⟩
        · exact PySem.P.repr_of_none ⟨.str _, H, I.tok _, ⟨_, rfl⟩, q _ H (Step.refl r H) hr (.val (.str _))⟩
    · cases hg
  · cases hg
end
end BW

set_option Elab.async false
set_option linter.all false
set_option maxRecDepth 100000
set_option maxHeartbeats 4000000
namespace BW
open PySem PySem.Spec PyProof.Rows L2
variable [Tb]
def evLenO (c : Str) (d : Fd) (f : Ev) : Ev := fun e h => (f e h).bind fun o h1 => if isC h1 c o then (d [o] h1).bind fun v h2 => match v with
  | .int n => if 0 ≤ n ∧ n < 2 ^ 63 then .ok (.int n) h2 else .stuck
  | _ => .stuck
  else .stuck
section
variable {X : Cx} {W : Wx}
theorem den_lenO {c f : Str} {k j : Nat} {d : Fd} {ex : Expr} {p pos : Pos} {fe : Ev} (S : SC X.K X.mg c f) (M : Mt X.prog X.w X.K X.mg X.base c "__len__" k 1 d) (hr : Room j X.A) (tk : Takes X W) (hc : Wc W) (hgl : Gl X "len") (hml : X.mg "len" = none) (he : DenE X W ex fe) (hjk : k + 1 ≤ j := by decide)
    (hs : starEach [ex] X.env = (false, eval ex X.env) :: starEach [] X.env := by rfl) (hpl : (backTo pos (starEach [] X.env)).any (·.1) = false := by rfl) : DenE X W (.Call (.Name "len" p) [ex] [] pos) (evLenO c d fe) := by
  obtain ⟨C, pp, hm, sc, sl⟩ := S.ex
  obtain ⟨C', g, hm', me, F⟩ := M
  rw [hm] at hm'
  cases hm'
  have cr : CallR X (.builtin "len") (fun xs H Q => ∃ a dx vs, xs = [V.ref a] ∧ SlX.Slt H a C dx vs ∧ spF X.K X.mg 1 d [.ref a] H (fun z H' => ∃ n, z = .int n ∧ (0 ≤ n ∧ n < 2 ^ 63) ∧ Q z H') (fun cc dd H => ∃ σ, W cc dd σ H)) := by
    intro pins s σ H xs us Q I r z
    obtain ⟨a, dx, vs, rfl, hsl, q⟩ := z
    obtain ⟨u, rfl, ru⟩ := r.one
    cases (show u = Value.ref a from ru)
    obtain ⟨sl', od, _, J, _⟩ := SlX.slt_inst I hsl
    obtain ⟨m, hF⟩ := I.fr
    have hr1 : Room k X.A.in1 := Room.in1 (hr.mono hjk)
    refine PySem.W.len_K hF I.ok.mod.kin J me.at_ me.fn (wpAny_mono (wpAny_call (SlX.run_at (us := [.ref a]) (ws := [.ref a]) F hr1 I.env0.in1 (passesW tk hc) I (.cons rfl .nil) q)) (fun v s' z => ?_) fun _ _ y => y)
    obtain ⟨zv, H', I', rz, n, en, hn, qz⟩ := z
    subst en
    obtain ⟨t, e⟩ := (show ∃ t, v = Value.int n t from rz)
    subst e
    exact ⟨hn, .int n, H', I'.tok _, ⟨_, rfl⟩, qz⟩
  refine PE.imp (pe_callB cr hgl hml (by decide +kernel) (PAone he hs) (by decide) (by decide) hs hpl) fun σ H Q ⟨r, e, h, er, hrel, ok⟩ => ?_
  unfold evLenO at ok
  refine rdE_bind er hrel ok fun o h1 v r1 H1 s1 hr1 t1 er1 ok1 => ?_
  split at ok1
  · rename_i hi
    obtain ⟨a, dx, vs, rfl, z1, z2⟩ := isC_ok hr1 hm t1.u hi
    refine ⟨a, dx, vs, rfl, z1, r1, h1, [o], hr1, .cons z2 .nil, rfl, ?_⟩
    cases hd : d [o] h1 with
    | stuck => rw [hd] at ok1; exact ok1
    | exc y h4 => rw [hd] at ok1; exact fun cc dd r' H' s' hr' t => ⟨σ, ok1 cc dd r' H' s' hr' t⟩
    | ok y h4 =>
      rw [hd, Out.bind_ok] at ok1
      intro v r' H' s' hr' t
      cases y with
      | int n =>
        dsimp only at ok1
        split at ok1
        · rename_i hn
          cases t
          exact ⟨n, rfl, hn, ok1 _ r' H' s' hr' (.val (.int _))⟩
        · exact ok1.elim
      | _ => exact ok1.elim
  · exact ok1.elim
def TupG (K : PySem.W.Frag) (mg : Str → Option Value) (x : Str) (vs : List V) : Prop := ∃ a, mg x = some (.ref a) ∧ ∀ H, SqT K H a vs
def evInG (neg : Bool) (vs : List V) (f : Ev) : Ev := fun e h => (f e h).bind fun d h1 => match flatD d with
  | some v => .ok (.bl (if neg then !inV v vs else inV v vs)) h1
  | none => .stuck
theorem den_inG {x : Str} {vs : List V} {a : Expr} {p pos : Pos} {f : Ev} (T : TupG X.K X.mg x vs) (hf : vs.all flatV = true) (hg : Gl X x) (ha : DenE X W a f) (hdb : (x == ("__debug__" : Str)) = false := by decide) (hm : behindInMarks .In (.Name x p) = false := by rfl) : DenE X W (.Compare a [.In] [.Name x p] pos) (evInG false vs f) := by
  obtain ⟨b, hb, hs⟩ := T
  refine PE.imp (pe_cmpR op_in_seq ha (pe_glob (v := .ref b) hg hb rfl hdb) hm) fun σ H Q ⟨r, e, h, er, hr, ok⟩ => ?_
  unfold evInG at ok
  refine rdE_bind er hr ok fun d h1 v r1 H1 s1 hr1 t1 er1 ok1 => ?_
  cases hd : flatD d with
  | none => rw [hd] at ok1; exact ok1.elim
  | some w =>
    rw [hd] at ok1
    obtain ⟨rfl, fw⟩ := flat_rel hd t1.u
    exact ⟨b, vs, rfl, .inr (hs H1), fw, hf, ok1 _ r1 H1 (Step.refl _ _) hr1 (.val (.bl _))⟩
end
end BW

set_option Elab.async false
set_option linter.all false
set_option maxRecDepth 100000
set_option maxHeartbeats 4000000
namespace BW
open PySem PySem.Spec PyProof.Rows L2
variable [Tb]
def GI (mg : Str → Option Value) (x : Str) (i : Int) : Prop := ∃ t, mg x = some (.int i t)
section
variable {X : Cx} {W : Wx}
theorem den_gi {x : Str} {i : Int} {pos : Pos} (h : GI X.mg x i) (hg : Gl X x := by rfl) (hdb : (x == ("__debug__" : Str)) = false := by decide) : DenE X W (.Name x pos) (evC (.int i)) := by
  obtain ⟨t, h⟩ := h
  exact den_glob (v := .int i) hg h ⟨t, rfl⟩ (fun r H => .int i) hdb
end
section
variable {P : Program} {w : World} {K : PySem.W.Frag} {mg : Str → Option Value} {base : Heap}
theorem mt_mk {x qual c : Str} {st : Stmt} {f C : Addr} {fd : FuncData} {N ps : List Str} (k : Nat) {body : Sv} (F : Fun K x qual st f fd) (hC : mg c = some (.ref C)) (me : Meth K C x f) (S : FnScope N ps (defScope st)) (b : Binds K fd ps [])
    (hb : ∀ (cdv : Value) (A : Around) (outer : List PySem.Env) (s : Shared) (H : Hp) (E : XK), Room k (A.deeper (envOfC qual (defScope st) s.heap.objs.size f cdv)) →
      DenB (cxOf (L2.CX P w) P w K mg base N qual (defScope st) f cdv A outer s H E) (fun c dx _ H => E c dx H) (defBody st) body) : Mt P w K mg base c x (k + 1) ps.length (fnD N.length body) :=
  ⟨C, f, hC, me, ((fn_ok F S hb).raw b .nil).imp fun vs H Q E z => by rw [List.append_nil]; exact z⟩
theorem mkr_mk {x qual c : Str} {st : Stmt} {f C : Addr} {fd : FuncData} {N ps : List Str} (k : Nat) {body : Sv} (F : Fun K x qual st f fd) (hC : mg c = some (.ref C)) (mk : Mk K C f) (S : FnScope N ps (defScope st)) (b : Binds K fd ps [])
    (hb : ∀ (cdv : Value) (A : Around) (outer : List PySem.Env) (s : Shared) (H : Hp) (E : XK), Room k (A.deeper (envOfC qual (defScope st) s.heap.objs.size f cdv)) →
      DenB (cxOf (L2.CX P w) P w K mg base N qual (defScope st) f cdv A outer s H E) (fun c dx _ H => E c dx H) (defBody st) body) : Mkr P w K mg base c (k + 1) ps.length (fnD N.length body) :=
  ⟨C, f, fd, ps, hC, mk, fn_ok F S hb, b⟩
end
end BW

set_option Elab.async false
set_option linter.all false
set_option maxRecDepth 100000
set_option maxHeartbeats 4000000
namespace BW
open PySem PySem.Spec PyProof.Rows L2
variable [Tb]
section
variable {X : Cx} {W : Wx}
end
end BW

set_option Elab.async false
set_option linter.all false
set_option maxRecDepth 100000
set_option maxHeartbeats 4000000
namespace BW
open PySem PySem.Spec PyProof.Rows L2
theorem law_run {P : Program} {w : World} {K : PySem.W.Frag} {mg mb : Str → Option Value} {k : Nat} {fa a : Addr} {fd : FuncData} {x : Str} {d : Fd} {s1 : Shared} {vs : List Value} {ns : List Int} {cs : List (Addr × Addr × Str)}
    (KX : K.In s1.heap) (gl : s1.heap.Ns mainGlobals mg) (bl : s1.heap.Ns builtinsNs mb) (bb : ∀ x : Str, x ≠ "__name__" → mb x = bootBuiltins x) (lim : s1.heap.NoLimit) (hg : s1.gens = #[])
    (hT : ∀ p ∈ cs, s1.heap.get? p.2.1 = some { cls := .none, data := .fields #[] }) (nT : ∀ p ∈ cs, K.lookup p.2.1 = none) (C : ∀ p ∈ cs, PySem.W.CodeHd s1.heap p.1 p.2.1)
    (hbm : ∃ (bm : Addr) (ob : Obj), mg "__builtins__" = some (.ref bm) ∧ bm ≠ builtinsNs ∧ s1.heap.get? bm = some ob ∧ ob.cls = .type "module" ∧ ob.dict = some builtinsNs ∧ ob.data = .plain)
    (ha : s1.heap.get? a = some { cls := .type "list", data := .seq vs.toArray }) (hi : IntsAre vs ns) (hl : ns.length ≤ sizeLine) (hr : Room k callerA)
    (F : ∀ base : Heap, K.In base → base.Ns mainGlobals mg → (∀ p ∈ cs, LamX.TabB base mg p.1 p.2.1) → FnG P w K mg base k fa fd [x] (@spF ⟨cs.map (·.2)⟩ K mg 1 d)) (bd : ∀ (s : Shared) (u : Value), BindsTo s fd ⟨[u], []⟩ [(x, u)]) (hd : ∃ h, d [.rl (ns.map .int)] [] = .ok (.bl true) h) :
    codeAny (model P w) callerA (.call (.ref fa) ⟨[.ref a], []⟩) (fun r s' => r = .ok (.ret (.bool true)) ∧ OldK s1.heap s'.heap ∧ s'.os = s1.os ∧ AllBare s'.gens) s1 := by
  letI : Tb := ⟨cs.map (·.2)⟩
  have rv := vals_ints hi
  have lenV := hi.length
  obtain ⟨hz, hd⟩ := hd
  have rels : ∀ (H : Hp) (ms : List Int), Rels K mg [] H (ms.map V.int) (ms.map D.int) := fun H ms => by
    induction ms with
    | nil => exact .nil
    | cons m ms ih => exact .cons (.int m) ih
  have isT : ∀ b : Addr, b ∈ cs.map (·.2.1) → s1.heap.get? b = some { cls := .none, data := .fields #[] } := fun b hb => by
    obtain ⟨p, hp, e⟩ := List.mem_map.mp hb
    rw [← e]
    exact hT p hp
  have aT : a ∉ cs.map (·.2.1) := fun z => by
    have q := isT a z
    rw [ha] at q
    have z' : Data.seq vs.toArray _ = Data.fields #[] := congrArg Obj.data (Option.some.inj q)
    cases z'
  have memT : ∀ p ∈ cs, p.2.1 ∈ cs.map (·.2.1) := fun p hp => List.mem_map.mpr ⟨p, hp, rfl⟩
  have core : ∀ H : Hp, (∀ p ∈ cs, H p.2.1 = some (.tbl #[])) → (∀ b, H b = none ∨ b ∈ cs.map (·.2.1) ∨ ∃ o xs, H b = some (.frz o (.lst xs))) → SqLr K H [] a (ns.map V.int) → HOk P w H s1.heap → (∀ b, H b ≠ none → b = a ∨ b ∈ cs.map (·.2.1)) → (H a ≠ none → K.lookup a = none) →
      codeAny (model P w) callerA (.call (.ref fa) ⟨[.ref a], []⟩) (fun r s' => r = .ok (.ret (.bool true)) ∧ OldK s1.heap s'.heap ∧ s'.os = s1.os ∧ AllBare s'.gens) s1 := by
    intro H hH hO hS hok hA hK
    have base_of : ∀ {b : Addr} {o : Obj}, s1.heap.get? b = some o → H b = none → (hidT s1.heap H).get? b = some o := fun e n => hidT_get e n
    have noD : ∀ {b : Addr} {o : Obj}, s1.heap.get? b = some o → (∀ vs n, o.data ≠ .seq vs n) → o.data ≠ .fields #[] → H b = none := fun {b o} e h1 h2 => by
      cases q : H b with
      | none => rfl
      | some u =>
        rcases hA b (by rw [q]; simp) with e' | e'
        · rw [e', ha] at e
          cases e
          exact (h1 _ _ rfl).elim
        · rw [isT b e'] at e
          cases e
          exact (h2 rfl).elim
    have noA : ∀ {b : Addr} {o : Obj} {es : Array DictEntry} {ep : Nat}, s1.heap.get? b = some o → o.data = .dict es ep → H b = none := fun {b o es ep} e d => by
      refine noD e (fun vs n z => ?_) fun z => ?_
      · rw [d] at z
        cases z
      · rw [d] at z
        cases z
    have nsK : ∀ {b : Addr} {m : Str → Option Value}, s1.heap.Ns b m → (hidT s1.heap H).Ns b m := fun {b m} ⟨o, es, ep, e, d, r⟩ => ⟨o, es, ep, base_of e (noA e d), d, r⟩
    have kb : K.In (hidT s1.heap H) := fun b o e => base_of (KX b o e) (by
      cases q : H b with
      | none => rfl
      | some u =>
        rcases hA b (by rw [q]; simp) with e' | e'
        · rw [e'] at e q
          rw [hK (by rw [q]; simp)] at e
          cases e
        · obtain ⟨p, hp, ep⟩ := List.mem_map.mp e'
          rw [← ep, nT p hp] at e
          cases e)
    have md : Mod K mg (hidT s1.heap H) := ⟨kb, nsK gl, ⟨mb, nsK bl, bb⟩, let ⟨mc, y1, y2⟩ := lim; ⟨mc, nsK y1, y2⟩⟩
    have TB : ∀ p ∈ cs, LamX.TabB (hidT s1.heap H) mg p.1 p.2.1 := fun p hp => by
      have hTp := hT p hp
      refine ⟨?_, ?_, fun z => ?_⟩
      · obtain ⟨o, us, file, tf, flags, tg, inF, text, tt, e1, r1, r2, r3, r4, r5, r6, r7, r8, hne⟩ := C p hp
        refine ⟨o, us, file, tf, flags, tg, inF, text, tt, base_of e1 (noD e1 (fun vs n z => ?_) fun z => ?_), r1, r2, r3, r4, r5, r6, r7, r8, hne⟩
        · rw [r2] at z
          cases z
        · rw [r2] at z
          cases z
          simp at r3
      · obtain ⟨bm, ob, b1, b2, b3, b4, b5, b6⟩ := hbm
        have nG : bm ≠ mainGlobals := fun q => by
          obtain ⟨o, es, ep, e, hd, _⟩ := gl
          rw [q, e] at b3
          cases b3
          rw [hd] at b6
          cases b6
        have nP : bm ≠ p.2.1 := fun q => by
          rw [q, hTp] at b3
          cases b3
          cases b6
        refine ⟨bm, ob, b1, b2, nG, nP, base_of b3 (noD b3 (fun vs n z => ?_) fun z => ?_), b4, b5, b6⟩
        · rw [b6] at z
          cases z
        · rw [b6] at z
          cases z
      · obtain ⟨o, es, ep, e, hd, _⟩ := gl
        rw [z, hTp] at e
        cases e
        cases hd
    have e0 : Env0 P w K mg (hidT s1.heap H) callerA [] s1 H := ⟨rfl, md, fun b o e => of_hidT e, Nat.le_of_eq (hidT_size _ _), trivial, fun b hb => (nomatch (show b ∈ ([] : List Addr) from hb)), hok, .of_eq hg⟩
    have tbs : TbOk [] H := ⟨fun p hp => by
      obtain ⟨q, hq, rfl⟩ := List.mem_map.mp (show p ∈ cs.map (·.2) from hp)
      exact ⟨#[], hH q hq, (fun z => nomatch z), True.intro, fun pos cv hc => by
        have z : codeAmong pos [] = some cv := hc
        simp [codeAmong] at z⟩⟩
    have sp : spF K mg 1 d [.ref a] H (fun v _ => v = .bl true) (fun _ _ _ => False) := by
      refine ⟨[], [], [.rl (ns.map .int)], ⟨rfl, List.nodup_nil, tbs, fun i o b e => by simp at e⟩, .cons (.rl hS (rels H ns)) .nil, rfl, ?_⟩
      rw [hd]
      intro v r' H' _ _ q
      cases q
      rfl
    refine codeAny_mono ((F _ kb (nsK gl) TB).go callerA [] s1 H ⟨[.ref a], []⟩ [.ref a] [.ref a] _ _ hr rfl e0 (bd s1 (.ref a)) (.cons rfl .nil) sp) fun r s' z => ?_
    cases r with
    | error e =>
      obtain ⟨_, _, _, _, _, _, _, _, _, _, _, _, q⟩ := z
      exact (show False by first | exact q | (simp at q)).elim
    | ok fl =>
      cases fl with
      | next => exact z.elim
      | brk => exact z.elim
      | cont => exact z.elim
      | ret u =>
        obtain ⟨v, H', os, bare, un, hok', r', q⟩ := z
        have q' : v = .bl true := q
        subst q'
        obtain rfl : u = Value.bool true := r'
        have key : ∀ b o, b ∉ cs.map (·.2.1) → s1.heap.get? b = some o → s'.heap.get? b = some o := fun b o nb e => by
          cases q : H b with
          | none => exact un.keep b o e q (by intro z; exact absurd (show b ∈ ([] : List Addr) from z) (by simp)) (by simp)
          | some u =>
            rcases hO b with z | z | ⟨ob, xs, z⟩
            · rw [q] at z; cases z
            · exact absurd z nb
            · have z2 := un.frzs b ob _ z
              obtain ⟨e1, _⟩ := hok b _ z
              obtain ⟨e2, _⟩ := hok' b _ z2
              rw [e] at e1; cases e1
              exact e2
        have grown : ∀ p ∈ cs, ∃ more : Array Value, s'.heap.get? p.2.1 = some { cls := .none, data := .fields more } := fun p hp => by
          obtain ⟨more, z⟩ := un.tbls p.2.1 #[] (hH p hp)
          exact ⟨_, hok' p.2.1 _ z⟩
        refine ⟨rfl, ⟨fun b o e => ?_, fun b o e => ?_⟩, os, bare⟩
        · by_cases hb : b ∈ cs.map (·.2.1)
          · obtain ⟨p, hp, ep⟩ := List.mem_map.mp hb
            obtain ⟨more, hm⟩ := grown p hp
            rw [← ep] at e ⊢
            rw [hT p hp] at e
            cases e
            exact .inr (.inl ⟨((C p hp).tab (hT p hp)).isCodeTable, rfl, #[], more, rfl, by rw [Array.empty_append]; exact hm⟩)
          · exact .inl (key b o hb e)
        · by_cases hb : b ∈ cs.map (·.2.1)
          · obtain ⟨p, hp, ep⟩ := List.mem_map.mp hb
            obtain ⟨more, hm⟩ := grown p hp
            rw [← ep]
            exact ⟨_, hm⟩
          · exact ⟨o, key b o hb e⟩
  cases hk : K.lookup a with
  | some o =>
    have e := KX a o hk
    rw [ha] at e
    cases e
    refine core (fun b => if b ∈ cs.map (·.2.1) then some (.tbl #[]) else none) (fun p hp => if_pos (memT p hp)) (fun b => ?_) (.inr fun H' => .inr ⟨_, vs.toArray, _, hk, rfl, rfl, rfl, by rw [List.size_toArray, lenV]; exact hl, by simpa using rv⟩) (fun b u z => ?_) (fun b z => ?_) fun z => absurd (show (if a ∈ cs.map (·.2.1) then some (HO.tbl #[]) else none) = none from if_neg aT) z
    · by_cases hb : b ∈ cs.map (·.2.1)
      · exact .inr (.inl hb)
      · exact .inl (if_neg hb)
    · by_cases hb : b ∈ cs.map (·.2.1)
      · have z' := (if_pos hb).symm.trans z
        cases z'
        exact isT b hb
      · have z' := (if_neg hb).symm.trans z
        cases z'
    · by_cases hb : b ∈ cs.map (·.2.1)
      · exact .inr hb
      · exact absurd (if_neg hb) z
  | none =>
    refine core (fun b => if b = a then some (.frz { cls := .type "list", data := .seq vs.toArray } (.lst (ns.map V.int))) else if b ∈ cs.map (·.2.1) then some (.tbl #[]) else none) (fun p hp => (if_neg (show ¬ p.2.1 = a from fun z => aT (by rw [← z]; exact memT p hp))).trans (if_pos (memT p hp))) (fun b => ?_)
      (.inl ⟨(fun z => nomatch z), _, if_pos rfl⟩) (fun b u z => ?_) (fun b z => ?_) fun _ => hk
    · by_cases hb : b = a
      · exact .inr (.inr ⟨_, _, if_pos hb⟩)
      · by_cases hb2 : b ∈ cs.map (·.2.1)
        · exact .inr (.inl hb2)
        · exact .inl ((if_neg hb).trans (if_neg hb2))
    · by_cases hb : b = a
      · have z' := (if_pos hb).symm.trans z
        cases z'
        rw [hb]
        exact ⟨ha, by rw [List.length_map]; exact hl, vs, _, rv, ha⟩
      · have z1 := (if_neg hb).symm.trans z
        by_cases hb2 : b ∈ cs.map (·.2.1)
        · have z' := (if_pos hb2).symm.trans z1
          cases z'
          exact isT b hb2
        · have z' := (if_neg hb2).symm.trans z1
          cases z'
    · by_cases hb : b = a
      · exact .inl hb
      · by_cases hb2 : b ∈ cs.map (·.2.1)
        · exact .inr hb2
        · exact absurd ((if_neg hb).trans (if_neg hb2)) z
theorem walk_end {l : PySem.W.OpenLaw} {n k : Nat} {q : Program} {loose : List Str} {XP : (Str → Option Value) → Heap → Prop} {YP : World → Heap → Prop} {d : DefRec} {K : Params → PySem.W.Frag} {x : Str} {dL : Fd}
    (hn : l.most = some n) (hn2 : n ≤ sizeLine) (hdf : d.params.defaults = []) (hr : Room k callerA) (hY : ∀ (w : World) (h : Heap), YP w h → (K w.params).In h)
    (F : ∀ (w : World) (mg : Str → Option Value) (fa : Addr) (h : Heap), YP w h → (K w.params).In h → h.Ns mainGlobals mg → mg d.name = some (.ref fa) →
      ∃ (fd : FuncData) (cs : List (Addr × Addr × Str)), (∀ p ∈ cs, (K w.params).lookup p.2.1 = none ∧ ∃ y, ((recsOf q).find? (fun e => e.name == y)).isSome = true ∧ PySem.W.tabIn (K w.params) y = some (p.1, p.2.1)) ∧
        (∀ (s : Shared) (u : Value), BindsTo s fd ⟨[u], []⟩ [(x, u)]) ∧ ∀ base : Heap, (K w.params).In base → base.Ns mainGlobals mg → (∀ p ∈ cs, LamX.TabB base mg p.1 p.2.1) → FnG l.prog w (K w.params) mg base k fa fd [x] (@spF ⟨cs.map (·.2)⟩ (K w.params) mg 1 dL))
    (hd : ∀ ns : List Int, ns.length ≤ n → (∀ z ∈ ns, Builtin.Int.intBits z ≤ 1048576) → ∃ h, dL [.rl (ns.map .int)] [] = .ok (.bl true) h) :
    PySem.W.WalkO q loose XP YP l.row.toRowW d [] (fun f vs => PySem.call f vs) := by
  refine Att.attach_callB hn hdf fun w s0 s1 mg mb fa o pm cd doc a vs ns G Y ho hdd hcd hmg hobj hints hlen hbits hg => ?_
  have KX := hY w _ Y
  obtain ⟨fd, cs, hT, hb, hF⟩ := F w mg fa _ Y KX G.T.g hmg
  have tb : ∀ p ∈ cs, PySem.W.CodeHd s1.heap p.1 p.2.1 ∧ s1.heap.get? p.2.1 = some { cls := .none, data := .fields #[] } := fun p hp => by
    obtain ⟨_, y, h1, h2⟩ := hT p hp
    obtain ⟨dr, h3⟩ := Option.isSome_iff_exists.mp h1
    exact PySem.W.tab_of G.T KX h3 h2
  exact law_run KX G.T.g G.T.b G.T.builtins G.T.nolimit hg (fun p hp => (tb p hp).2) (fun p hp => (hT p hp).1) (fun p hp => (tb p hp).1) G.T.bmain hobj hints (Nat.le_trans hlen hn2) hr hF hb (hd ns hlen hbits)
end BW

set_option Elab.async false
set_option linter.all false
set_option maxRecDepth 100000
set_option maxHeartbeats 4000000
namespace BW
open PySem PySem.Spec PyProof.Rows L2
section
open PySem.W PySem.Calls Builtin Builtin.ObjectAttr
variable {prog : Program} {w : World} {A : Around} {E : Value → Shared → Prop} {hp : Heap} {g : Array GenState} {d : Drawn} {t : Nat} {os : OsState} {K : Frag} {C : Addr} {B newId i : String} {bmB : List Value}
structure XCls (K : Frag) (C : Addr) (B newId i : String) (bmB : List Value) : Prop where
  fb : ExcBaseFacts B newId i bmB
  kf : KxsFacts B i
  sf : StoreFacts B bmB "object.__setattr__" "object"
  q : excInitIn K C bmB newId = true
  ov : excOver K C bmB = true
  dct : hasDictIn K C = true
  sa : findIn K (.ref C) "__setattr__" = some (some (.builtin "object.__setattr__"))
  sub : subIn K (.ref C) (.type B) = some true
  su : ks_superIn K C C "__init__" = some (some (.builtin i))
  op : nsIn K cStatics "thirdparty.any" = some none
  self_ : mroIn K C (.ref C) = some true
theorem XCls.cd (X : XCls K C B newId i bmB) : ∃ cd bm, clsIn K C = some cd ∧ cd.mro = .ref C :: bm ∧ excTail bmB bm = true ∧ cd.hasDict = true := by
  obtain ⟨cd, hc, ho⟩ := any_some X.ov
  (try dsimp only at ho)
  have hd := X.dct
  unfold hasDictIn at hd
  rw [hc] at hd
  split at ho
  · rename_i C' bm hm
    rw [Bool.and_eq_true, beq_iff_eq] at ho
    obtain ⟨rfl, ho⟩ := ho
    exact ⟨cd, bm, hc, hm, ho, by simpa using hd⟩
  · cases ho
theorem xset_new {name : Str} {v : Value} {x t1 : Addr} {Q : Unit → Shared → Prop} (XC : XCls K C B newId i bmB) (X : K.In hp) (hx : hp.get? x = some (excObj C t1 none .none)) (ha : findIn K (.ref C) name = some none)
    (hq : ∀ h' tk' dx, (∀ b o, b ≠ x → hp.get? b = some o → h'.get? b = some o) → hp.objs.size ≤ dx → dx ≠ x → h'.get? x = some (excObj C t1 (some dx) .none) →
      h'.Ns1 dx (fun y => if y = name then some v else none) → Q () ⟨h', g, d, tk', os⟩) :
    wpAny (model prog w) A (setAttr (.ref x) name v) Q E ⟨hp, g, d, t, os⟩ := by
  have I : InstAt hp x (excObj C t1 none .none) C none := ⟨hx, rfl, rfl, trivial⟩
  refine set_plain X I XC.sa ?_
  have hxs : x ≠ hp.objs.size := Nat.ne_of_lt (Heap.lt_size hx)
  refine osa_openX (r := none) XC.sf X I XC.ov (by unfold takerIn; rw [ha]; rfl) fun b => ?_
  obtain ⟨cd, bm, hcd, hm, _, hh⟩ := XC.cd
  have hcls : Looks (model prog w) hp (classData C) cd := looks_clsIn X hcd
  obtain ⟨nm, bs, mro, ns, qn, hd, sn, sb, ab, col, del⟩ := cd
  dsimp only at hh
  subst hh
  unfold storeInOwnDict ownDictForStores
  repeat (first | with_reducible refine HandSPX.store_in_new ?_ ?_ | with_reducible refine wpAny_loadPart_at hx ?_ | with_reducible refine hcls.at ?_ | wp_step)
  · exact ⟨_, #[], _, (Heap.get?_update_ne _ _ _ _ hxs.symm).trans (Heap.get?_push_at rfl rfl), rfl, fun e he => absurd he (by simp), fun _ => rfl⟩
  · intro h' tk' hn' hs
    have hx₁ : (hp.push { cls := .type "dict", data := .dict #[] }).get? x = some (excObj C t1 none .none) := Heap.get?_push_of_some _ hx
    refine hq h' tk' hp.objs.size (fun b o hb ho => ?_) (Nat.le_refl _) hxs.symm ?_ hn'
    · exact (hs.2 b (Nat.ne_of_lt (Heap.lt_size ho))).trans ((Heap.get?_update_ne _ _ _ _ hb).trans (Heap.get?_push_of_some _ ho))
    · exact (hs.2 x hxs).trans (Heap.get?_update_self _ hx₁ rfl)
theorem xcall_mw {u x t1 : Addr} {rest : List Value} {Q : Value → Shared → Prop} (XC : XCls K C B newId i bmB) (X : K.In hp) (hu : hp.get? u = some (kxs_mw i x)) (hx : hp.get? x = some (excObj C t1 none .none)) (hz : rest.length ≤ sizeLine)
    (hq : ∀ h' t2, (∀ b o, b ≠ x → hp.get? b = some o → h'.get? b = some o) → h'.get? x = some (excObj C t2 none .none) → Q .none ⟨h', g, d, t, os⟩) :
    wpAny (model prog w) A (call (.ref u) rest) Q E ⟨hp, g, d, t, os⟩ := by
  obtain ⟨nm, N', qn, bs, bm, hdct, sn, sub, ab, col, dd, k0, k1, k2, k3, k5, hC, hT⟩ := excInit_of X XC.q
  refine wpAny_call (codeAny_of_tree ?_)
  show wpAny _ A.in1 (callAny (.ref u) ⟨rest, []⟩) _ _ _
  simp only [callAny]
  refine wpAny_bind (wpAny_load hu ?_)
  simp only [kxs_mw, show (Value.type "method-wrapper" == Value.type "method" || Value.type "method-wrapper" == Value.type "builtin_function_or_method" || Value.type "method-wrapper" == Value.type "method-wrapper") = true by decide, if_true]
  refine KFB.if_so (by decide) ?_
  refine wpAny_bind (check_bound_init XC.fb.toExcCallFacts hC hx rfl ?_)
  refine wpAny_bind (wpAny_pure (wpAny_pure ?_))
  refine ⟨plainId_quiet XC.fb.init.plain _, codeAny_builtin XC.fb.initEntry ?_⟩
  exact exc_init_tree (cls := .ref C) (t0 := t1) (dv := none) (c2 := .none) (c3 := .none) (b4 := .bool false) hx hz fun h' k e1 _ => hq h' _ k e1
def xbody (msg f p : Str) (p0 p1 p2 p3 p4 p5 p6 p7 p8 p9 : Pos) (j : Nat) : List Stmt :=
  [.Expr (.Call (.Attribute (.Call (.Name "super" p0) [] [] p1) "__init__" p2) [.Constant (.str msg) j p3] [] p4) p5, .Assign [.Attribute (.Name "self" p6) f p7] (.Name p p8) p9]
def xbody0 (msg : Str) (p0 p1 p2 p3 p4 p5 : Pos) (j : Nat) : List Stmt :=
  [.Expr (.Call (.Attribute (.Call (.Name "super" p0) [] [] p1) "__init__" p2) [.Constant (.str msg) j p3] [] p4) p5]
structure XFun (prog : Program) (K : Frag) (C fI : Addr) (qual : Str) (params : Arguments) (body : List Stmt) (scope : Scope) : Prop where
  lk : ∃ oc od osl dV kV doc pm an cda ct cc vs ccl cdd ccs tf cl cld csl, K.lookup fI = some ⟨oc, od, .func (ksFn "__init__" qual params body scope dV kV doc pm an (.ref cda) ct cc), osl⟩ ∧ codeIn K (.ref cda) qual = true ∧
    K.lookup cda = some ⟨ccl, cdd, .fields vs, ccs⟩ ∧ vs[2]? = some (.str prog.main.file tf) ∧ K.lookup cc = some ⟨cl, cld, .cell (some (.ref C)), csl⟩ ∧
    (∀ (s : Shared) (us : List Value), us.length = params.args.length → BindsTo s (ksFn "__init__" qual params body scope dV kV doc pm an (.ref cda) ct cc) ⟨us, []⟩ ((params.args.map (·.arg)).zip us))
  fn : isFn K (.ref fI) = true
  ini : findIn K (.ref C) "__init__" = some (some (.ref fI))
  po : params.posonlyargs = []
  top : (prog.main.scope.names.lookup ("super" : Str)).isSome = false
  ks : scope.names.lookup ("super" : Str) = some .globalImplicit
  kc : scope.names.lookup ("__class__" : Str) = some .free
  kn : scope.kind = .function
  co : scope.isCoroutine = false
  gn : scope.isGenerator = false
  nc : ∀ x ∈ scope.names, x.2 ≠ .cell
  lo : ∀ x ∈ params.args, scope.names.lookup x.arg = some .local
section
variable {mg mb : Str → Option Value} {msg f p qual : Str} {p0 p1 p2 p3 p4 p5 p6 p7 p8 p9 : Pos} {j : Nat} {fI : Addr} {params : Arguments} {scope : Scope} {v : Value}
theorem xsuper {a1 : Around} {env : PySem.Env} {body : List Stmt} {m : Str → Option Value} {x t1 : Addr} {cc cda : Addr} {of : Obj} {fd : FuncData} {vs : Array Value} {tf : Tok} {ccl cl : Value} {cdd cld : Option Addr} {ccs csl : Array (Option Value)} {ar : Arg} {Q : Flow → Shared → Prop} {pl : Sem Bool}
    (XC : XCls K C B newId i bmB) (X : K.In hp) (G : hp.Ns mainGlobals mg) (hs : mg "super" = none) (Bn : hp.Ns builtinsNs mb) (hb : mb "super" = some (.type "super"))
    (hx : hp.get? x = some (excObj C t1 none .none)) (hL : hp.Ns env.locals m) (hm : m ar.arg = some (.ref x))
    (hks : env.kindOf "super" = some .globalImplicit) (hkc : env.kindOf "__class__" = some .free) (hka : env.kindOf ar.arg = some .local) (hk : env.scope.kind = .function) (hfu : env.func = some fI) (hf : hp.get? fI = some of) (hfd : of.data = .func fd)
    (hpar : (fd.params.posonlyargs ++ fd.params.args).head? = some ar) (hco : env.code = .ref cda) (hcc : K.lookup cda = some ⟨ccl, cdd, .fields vs, ccs⟩) (hvs : vs[2]? = some (.str prog.main.file tf)) (htop : (prog.main.scope.names.lookup ("super" : Str)).isSome = false)
    (hgl : env.globals = mainGlobals) (hbu : env.builtins = builtinsNs) (hcl : env.cells.lookup ("__class__" : Str) = some cc) (hcell : K.lookup cc = some ⟨cl, cld, .cell (some (.ref C)), csl⟩)
    (he : eval (.Call (.Attribute (.Call (.Name "super" p0) [] [] p1) "__init__" p2) [.Constant (.str msg) j p3] [] p4) env = (do
      let ov ← attributeBase (.Call (.Name "super" p0) [] [] p1) "__init__" env (eval (.Call (.Name "super" p0) [] [] p1) env)
      standAt p2.atName
      let (f, first) ← holding [ov] (getMethod ov "__init__" pl)
      callWith p4 f first (backTo p4 (starEach [.Constant (.str msg) j p3] env)) []))
    (hi : interactive env = false) (hsw : swapsWith (.Call (.Attribute (.Call (.Name "super" p0) [] [] p1) "__init__" p2) [.Constant (.str msg) j p3] [] p4) none p5.line env = pure false)
    (hq : ∀ h' t2 tk, (∀ b o, b ≠ x → hp.get? b = some o → h'.get? b = some o) → h'.get? x = some (excObj C t2 none .none) → Q .next ⟨h', g, d, tk, os⟩) :
    _root_.PySem.wpAt (model prog w) a1 (.func body env) (exec (.Expr (.Call (.Attribute (.Call (.Name "super" p0) [] [] p1) "__init__" p2) [.Constant (.str msg) j p3] [] p4) p5) env) Q E ⟨hp, g, d, t, os⟩ := by
  obtain ⟨cd, bm, hcd, hmro, htl, hdct⟩ := XC.cd
  obtain ⟨oD, hD1, hD2⟩ : ∃ oD, hp.get? C = some oD ∧ oD.data = .cls cd := by
    have hcd' := hcd
    unfold clsIn at hcd'
    split at hcd'
    · rename_i c d cd' sl ho
      cases hcd'
      exact ⟨_, X _ _ ho, rfl⟩
    · cases hcd'
  have I : InstAt hp x (excObj C t1 none .none) C none := ⟨hx, rfl, rfl, trivial⟩
  refine ks_wpAt_Expr_any (ks_wpAt_MethodCall (pl := pl) (ks_wpAt_super_base (s := ⟨hp, g, d, t, os⟩) hks hkc (by decide) hfu hf hfd hpar hco (X _ _ hcc) rfl hvs (by simp) htop ?_) he) hi hsw
  refine ks_loadName_global hk hks (loadGlobal_builtin (by rw [hgl]; exact G) hs (by rw [hbu]; exact Bn) hb ⟨rfl, ?_⟩)
  refine wpAny_loadName_free hk hkc hcl ⟨_, X _ _ hcell, rfl⟩ ?_
  refine wpAny_loadName_local hk hka hL hm ?_
  refine ks_wpAny_isType_cls hD1 hD2 ⟨rfl, ?_⟩
  refine ks_wpAny_call_super hD1 hD2 hx rfl (fun c e => by cases e) (looks_mroIn X XC.self_) (fun h' e k => ?_)
  have X' : K.In h' := X.keeps k
  have hx' := k _ _ hx
  have I' : InstAt h' x (excObj C t1 none .none) C none := ⟨hx', rfl, rfl, trivial⟩
  have hsu := XC.su
  unfold ks_superIn at hsu
  rw [hcd] at hsu
  refine kxs_getMethod XC.kf e (looks_opaque X' XC.op) (l₀ := cd.mro) (fun A Q E s k q => wpAny_bind ((looks_clsIn X' hcd) A _ E s k (wpAny_pure q))) rfl X' hsu (I'.type.andThen (looks_subIn X' XC.sub)) (ks_ne X I hcd) (by decide) ?_
  have hu : (h'.push (kxs_mw i x)).get? h'.objs.size = some (kxs_mw i x) := Heap.get?_push_at rfl rfl
  have k2 : ∀ b o, h'.get? b = some o → (h'.push (kxs_mw i x)).get? b = some o := fun b o e => Heap.get?_push_of_some _ e
  refine kxs_callWith (i := i) (x := x) (by rfl) (evalArgs_plain ?_)
  refine Calls.spliced_cons (wpAny_Constant_str (k := j) (pos := p3) ?_)
  refine Calls.spliced_nil ⟨hu, ?_⟩
  refine xcall_mw XC (X'.keeps k2) hu (k2 _ _ hx') (by simp [sizeLine_eq]) fun h3 t2 k3 e3 => ?_
  exact hq h3 t2 _ (fun b o hb ho => k3 b o hb (k2 b o (k b o ho))) e3
theorem xmake1 {Q : Value → Shared → Prop} (XC : XCls K C B newId i bmB) (XF : XFun prog K C fI qual params (xbody msg f p p0 p1 p2 p3 p4 p5 p6 p7 p8 p9 j) scope) (hpar : params.args.map (·.arg) = [("self" : Str), p]) (hps : p ≠ "self") (hf : findIn K (.ref C) f = some none)
    (hev : ∀ env : PySem.Env, env.scope = scope → ∃ pl, eval (.Call (.Attribute (.Call (.Name "super" p0) [] [] p1) "__init__" p2) [.Constant (.str msg) j p3] [] p4) env = (do
      let ov ← attributeBase (.Call (.Name "super" p0) [] [] p1) "__init__" env (eval (.Call (.Name "super" p0) [] [] p1) env)
      standAt p2.atName
      let (f, first) ← holding [ov] (getMethod ov "__init__" pl)
      callWith p4 f first (backTo p4 (starEach [.Constant (.str msg) j p3] env)) []))
    (hsw : ∀ env : PySem.Env, env.scope = scope → swapsWith (.Call (.Attribute (.Call (.Name "super" p0) [] [] p1) "__init__" p2) [.Constant (.str msg) j p3] [] p4) none p5.line env = pure false)
    (hsw2 : ∀ env : PySem.Env, env.scope = scope → swapsWith (.Name p p8) (some (.Attribute (.Name "self" p6) f p7)) p9.line env = pure false) (hdb : (p == ("__debug__" : Str)) = false)
    (X : K.In hp) (G : hp.Ns mainGlobals mg) (hs : mg "super" = none) (Bn : hp.Ns builtinsNs mb) (hb : mb "super" = some (.type "super")) (lim : hp.NoLimit) (room : (A.under (.builtin "type.__call__" ⟨[.ref C, v], []⟩)).depth < recursionLimit)
    (hq : ∀ h' tk' a dx t1, (∀ b o, hp.get? b = some o → h'.get? b = some o) → hp.objs.size ≤ a → hp.objs.size ≤ dx → dx ≠ a → h'.get? a = some (excObj C t1 (some dx) .none) → h'.Ns1 dx (fun y => if y = f then some v else none) → Q (.ref a) ⟨h', g, d, tk', os⟩) :
    wpAny (model prog w) A (call (.ref C) [v]) Q E ⟨hp, g, d, t, os⟩ := by
  obtain ⟨nm, N', qn, bs, bm, hdct, sn, sub, ab, col, dd, k0, k1, k2, k3, k5, hC, hT⟩ := excInit_of X XC.q
  obtain ⟨oc, od, osl, dV, kV, doc, pm, an, cda, ct, cc, vs, ccl, cdd, ccs, tf, cl, cld, csl, lk, hcode, hcc, hvs, hcell, hbind⟩ := XF.lk
  obtain ⟨oI, hoI, hcI⟩ : ∃ oI, hp.get? fI = some oI ∧ oI.cls = .type "function" := by
    obtain ⟨o, ho, hc⟩ := Option.map_eq_some_iff.mp (show (K.lookup fI).map (·.cls) = some (.type "function") from beq_iff_eq.mp XF.fn)
    exact ⟨o, X _ _ ho, hc⟩
  refine wpAny_call (PX.call_own XC.fb hT hC (looks_findIn X XF.ini) (fun self => exc_bind hoI hcI self) (by simp [sizeLine_eq]) ?_)
  have kk : ∀ b o, hp.get? b = some o → ((hp.push (kdv_tup [v])).push (PX.excO C hp.objs.size)).get? b = some o := fun b o e => Heap.get?_push_of_some _ (Heap.get?_push_of_some _ e)
  have hx : ((hp.push (kdv_tup [v])).push (PX.excO C hp.objs.size)).get? (hp.objs.size + 1) = some (excObj C hp.objs.size none .none) := by heap_get
  have X2 := X.keeps kk
  have hl : ([Value.ref (hp.objs.size + 1), v] : List Value).length = params.args.length := by
    have e := congrArg List.length hpar
    rw [List.length_map] at e
    exact e.symm
  have hb0 := hbind ⟨(hp.push (kdv_tup [v])).push (PX.excO C hp.objs.size), g, d, t, os⟩ [.ref (hp.objs.size + 1), v] hl
  rw [hpar] at hb0
  have lo1 : scope.names.lookup ("self" : Str) = some .local := by
    have z : ("self" : Str) ∈ params.args.map (·.arg) := by rw [hpar]; simp
    obtain ⟨x, hx, e⟩ := List.mem_map.mp z
    rw [← e]; exact XF.lo x hx
  have lo2 : scope.names.lookup p = some .local := by
    have z : p ∈ params.args.map (·.arg) := by rw [hpar]; simp
    obtain ⟨x, hx, e⟩ := List.mem_map.mp z
    rw [← e]; exact XF.lo x hx
  obtain ⟨ar, hd1, har⟩ : ∃ ar, (params.posonlyargs ++ params.args).head? = some ar ∧ ar.arg = "self" := by
    rw [XF.po, List.nil_append]
    cases h : params.args with
    | nil => rw [h] at hpar; cases hpar
    | cons x l =>
      rw [h, List.map_cons] at hpar
      exact ⟨x, rfl, (List.cons.inj hpar).1⟩
  refine ks_codeAny_call_defAt (fd := ksFn "__init__" qual params (xbody msg f p p0 p1 p2 p3 p4 p5 p6 p7 p8 p9 j) scope dV kV doc pm an (.ref cda) ct cc) (body := xbody msg f p p0 p1 p2 p3 p4 p5 p6 p7 p8 p9 j) (binds := [(("self" : Str), .ref (hp.objs.size + 1)), (p, v)]) room (X2 _ _ lk) rfl (lim.keeps kk) (codeRec_of X2 hcode) rfl hb0 XF.nc
    (fun y hy => by
      rcases List.mem_cons.mp hy with rfl | hy
      · exact lo1
      · rcases List.mem_cons.mp hy with rfl | hy
        · exact lo2
        · cases hy) (fun h0 hns kp => ?_) XF.co XF.gn XF.kn
  have k0 : ∀ b o, hp.get? b = some o → h0.get? b = some o := fun b o e => kp b o (kk b o e)
  have X0 := X.keeps k0
  have hx0 := kp _ _ hx
  obtain ⟨pl, he⟩ := hev (callEnv (ksFn "__init__" qual params (xbody msg f p p0 p1 p2 p3 p4 p5 p6 p7 p8 p9 j) scope dV kV doc pm an (.ref cda) ct cc) ((hp.push (kdv_tup [v])).push (PX.excO C hp.objs.size)).objs.size fI) rfl
  have ms : (fun y => ([(("self" : Str), Value.ref (hp.objs.size + 1)), (p, v)] : List (Str × Value)).reverse.lookup y) ("self" : Str) = some (.ref (hp.objs.size + 1)) := by
    have z : (("self" : Str) == p) = false := beq_eq_false_iff_ne.mpr (Ne.symm hps)
    simp [List.lookup_cons, z]
  have mp : (fun y => ([(("self" : Str), Value.ref (hp.objs.size + 1)), (p, v)] : List (Str × Value)).reverse.lookup y) p = some v := by simp [List.lookup_cons]
  have hin : interactive (callEnv (ksFn "__init__" qual params (xbody msg f p p0 p1 p2 p3 p4 p5 p6 p7 p8 p9 j) scope dV kV doc pm an (.ref cda) ct cc) ((hp.push (kdv_tup [v])).push (PX.excO C hp.objs.size)).objs.size fI) = false := by
    show (scope.kind == .module && _) = false
    rw [XF.kn]
    rfl
  refine ks_wpAt_execs_cons (xsuper (ar := ar) (cda := cda) (cc := cc) (m := fun y => ([(("self" : Str), Value.ref (hp.objs.size + 1)), (p, v)] : List (Str × Value)).reverse.lookup y) XC X0 (G.keeps k0) hs (Bn.keeps k0) hb hx0 hns (by rw [har]; exact ms) XF.ks XF.kc (by rw [har]; exact lo1) XF.kn rfl (k0 _ _ (X _ _ lk)) rfl hd1 rfl hcc hvs XF.top rfl rfl rfl hcell he hin (hsw _ rfl) fun h1 t2 tk1 kx hx1 => ?_)
  refine ks_wpAt_execs_cons (ks_wpAt_Assign_Attr (wpAt_of_wpAny ?_) (hsw2 _ rfl))
  have hLne : ((hp.push (kdv_tup [v])).push (PX.excO C hp.objs.size)).objs.size ≠ hp.objs.size + 1 := by simp [Heap.size_push]
  have hns1 : h1.Ns ((hp.push (kdv_tup [v])).push (PX.excO C hp.objs.size)).objs.size (fun y => ([(("self" : Str), Value.ref (hp.objs.size + 1)), (p, v)] : List (Str × Value)).reverse.lookup y) := by
    obtain ⟨o, es, ep, e1, r⟩ := hns
    exact ⟨o, es, ep, kx _ _ hLne e1, r⟩
  refine wpAny_Name (wpAny_loadName_local XF.kn lo2 hns1 mp ?_) hdb
  refine wpAny_Name (wpAny_loadName_local XF.kn lo1 hns1 ms ?_) (by decide)
  have X1 : K.In h1 := fun b o e => kx b o (fun z => by
    have := X _ _ e
    rw [z] at this
    exact absurd (Heap.lt_size this) (by simp)) (X0 b o e)
  refine xset_new XC X1 hx1 hf fun h2 tk2 dx k2 hdx hne hx2 hn2 => ?_
  refine wpAt_of_wpAny ?_
  show wpAny _ _ (pure Flow.next) _ _ _
  refine wpAny_pure ⟨rfl, ?_⟩
  have ne : ∀ {b : Addr} {o : Obj}, hp.get? b = some o → b ≠ hp.objs.size + 1 := fun {b o} e z => by
    rw [z] at e
    exact absurd (Heap.lt_size e) (by simp)
  exact hq h2 tk2 (hp.objs.size + 1) dx t2 (fun b o e => k2 b o (ne e) (kx b o (ne e) (k0 b o e))) (Nat.le_succ _) (Nat.le_trans (Nat.le_of_lt (Nat.lt_of_succ_lt (Heap.lt_size hx1))) hdx) hne hx2 hn2
end
end
end BW

set_option Elab.async false
set_option linter.all false
set_option maxRecDepth 100000
set_option maxHeartbeats 4000000
namespace BW
open PySem PySem.Spec PyProof.Rows L2
section
open PySem.W PySem.Calls Builtin Builtin.ObjectAttr
variable {prog : Program} {w : World} {A : Around} {E : Value → Shared → Prop} {hp : Heap} {g : Array GenState} {d : Drawn} {t : Nat} {os : OsState} {K : Frag} {C : Addr} {B newId i : String} {bmB : List Value}
variable {mg mb : Str → Option Value} {msg f p qual : Str} {p0 p1 p2 p3 p4 p5 p6 p7 p8 p9 : Pos} {j : Nat} {fI : Addr} {params : Arguments} {scope : Scope} {v : Value}
theorem xmake0 {Q : Value → Shared → Prop} (XC : XCls K C B newId i bmB) (XF : XFun prog K C fI qual params (xbody0 msg p0 p1 p2 p3 p4 p5 j) scope) (hpar : params.args.map (·.arg) = [("self" : Str)])
    (hev : ∀ env : PySem.Env, env.scope = scope → ∃ pl, eval (.Call (.Attribute (.Call (.Name "super" p0) [] [] p1) "__init__" p2) [.Constant (.str msg) j p3] [] p4) env = (do
      let ov ← attributeBase (.Call (.Name "super" p0) [] [] p1) "__init__" env (eval (.Call (.Name "super" p0) [] [] p1) env)
      standAt p2.atName
      let (f, first) ← holding [ov] (getMethod ov "__init__" pl)
      callWith p4 f first (backTo p4 (starEach [.Constant (.str msg) j p3] env)) []))
    (hsw : ∀ env : PySem.Env, env.scope = scope → swapsWith (.Call (.Attribute (.Call (.Name "super" p0) [] [] p1) "__init__" p2) [.Constant (.str msg) j p3] [] p4) none p5.line env = pure false)
    (X : K.In hp) (G : hp.Ns mainGlobals mg) (hs : mg "super" = none) (Bn : hp.Ns builtinsNs mb) (hb : mb "super" = some (.type "super")) (lim : hp.NoLimit) (room : (A.under (.builtin "type.__call__" ⟨[.ref C], []⟩)).depth < recursionLimit)
    (hq : ∀ h' tk' a t1, (∀ b o, hp.get? b = some o → h'.get? b = some o) → hp.objs.size ≤ a → h'.get? a = some (excObj C t1 none .none) → Q (.ref a) ⟨h', g, d, tk', os⟩) :
    wpAny (model prog w) A (call (.ref C) []) Q E ⟨hp, g, d, t, os⟩ := by
  obtain ⟨nm, N', qn, bs, bm, hdct, sn, sub, ab, col, dd, k0, k1, k2, k3, k5, hC, hT⟩ := excInit_of X XC.q
  obtain ⟨oc, od, osl, dV, kV, doc, pm, an, cda, ct, cc, vs, ccl, cdd, ccs, tf, cl, cld, csl, lk, hcode, hcc, hvs, hcell, hbind⟩ := XF.lk
  obtain ⟨oI, hoI, hcI⟩ : ∃ oI, hp.get? fI = some oI ∧ oI.cls = .type "function" := by
    obtain ⟨o, ho, hc⟩ := Option.map_eq_some_iff.mp (show (K.lookup fI).map (·.cls) = some (.type "function") from beq_iff_eq.mp XF.fn)
    exact ⟨o, X _ _ ho, hc⟩
  refine wpAny_call (PX.call_own XC.fb hT hC (looks_findIn X XF.ini) (fun self => exc_bind hoI hcI self) (by simp [sizeLine_eq]) ?_)
  have kk : ∀ b o, hp.get? b = some o → ((hp.push (kdv_tup [])).push (PX.excO C hp.objs.size)).get? b = some o := fun b o e => Heap.get?_push_of_some _ (Heap.get?_push_of_some _ e)
  have hx : ((hp.push (kdv_tup [])).push (PX.excO C hp.objs.size)).get? (hp.objs.size + 1) = some (excObj C hp.objs.size none .none) := by heap_get
  have X2 := X.keeps kk
  have hl : ([Value.ref (hp.objs.size + 1)] : List Value).length = params.args.length := by
    have e := congrArg List.length hpar
    rw [List.length_map] at e
    exact e.symm
  have hb0 := hbind ⟨(hp.push (kdv_tup [])).push (PX.excO C hp.objs.size), g, d, t, os⟩ [.ref (hp.objs.size + 1)] hl
  rw [hpar] at hb0
  have lo1 : scope.names.lookup ("self" : Str) = some .local := by
    have z : ("self" : Str) ∈ params.args.map (·.arg) := by rw [hpar]; simp
    obtain ⟨x, hx, e⟩ := List.mem_map.mp z
    rw [← e]; exact XF.lo x hx
  obtain ⟨ar, hd1, har⟩ : ∃ ar, (params.posonlyargs ++ params.args).head? = some ar ∧ ar.arg = "self" := by
    rw [XF.po, List.nil_append]
    cases h : params.args with
    | nil => rw [h] at hpar; cases hpar
    | cons x l =>
      rw [h, List.map_cons] at hpar
      exact ⟨x, rfl, (List.cons.inj hpar).1⟩
  refine ks_codeAny_call_defAt (fd := ksFn "__init__" qual params (xbody0 msg p0 p1 p2 p3 p4 p5 j) scope dV kV doc pm an (.ref cda) ct cc) (body := xbody0 msg p0 p1 p2 p3 p4 p5 j) (binds := [(("self" : Str), .ref (hp.objs.size + 1))]) room (X2 _ _ lk) rfl (lim.keeps kk) (codeRec_of X2 hcode) rfl hb0 XF.nc
    (fun y hy => by
      rcases List.mem_cons.mp hy with rfl | hy
      · exact lo1
      · cases hy) (fun h0 hns kp => ?_) XF.co XF.gn XF.kn
  have k0 : ∀ b o, hp.get? b = some o → h0.get? b = some o := fun b o e => kp b o (kk b o e)
  have X0 := X.keeps k0
  have hx0 := kp _ _ hx
  obtain ⟨pl, he⟩ := hev (callEnv (ksFn "__init__" qual params (xbody0 msg p0 p1 p2 p3 p4 p5 j) scope dV kV doc pm an (.ref cda) ct cc) ((hp.push (kdv_tup [])).push (PX.excO C hp.objs.size)).objs.size fI) rfl
  have ms : (fun y => ([(("self" : Str), Value.ref (hp.objs.size + 1))] : List (Str × Value)).reverse.lookup y) ("self" : Str) = some (.ref (hp.objs.size + 1)) := by
    simp [List.lookup_cons]
  have hin : interactive (callEnv (ksFn "__init__" qual params (xbody0 msg p0 p1 p2 p3 p4 p5 j) scope dV kV doc pm an (.ref cda) ct cc) ((hp.push (kdv_tup [])).push (PX.excO C hp.objs.size)).objs.size fI) = false := by
    show (scope.kind == .module && _) = false
    rw [XF.kn]
    rfl
  refine ks_wpAt_execs_cons (xsuper (ar := ar) (cda := cda) (cc := cc) (m := fun y => ([(("self" : Str), Value.ref (hp.objs.size + 1))] : List (Str × Value)).reverse.lookup y) XC X0 (G.keeps k0) hs (Bn.keeps k0) hb hx0 hns (by rw [har]; exact ms) XF.ks XF.kc (by rw [har]; exact lo1) XF.kn rfl (k0 _ _ (X _ _ lk)) rfl hd1 rfl hcc hvs XF.top rfl rfl rfl hcell he hin (hsw _ rfl) fun h1 t2 tk1 kx hx1 => ?_)
  refine wpAt_of_wpAny ?_
  show wpAny _ _ (pure Flow.next) _ _ _
  refine wpAny_pure ⟨rfl, ?_⟩
  have ne : ∀ {b : Addr} {o : Obj}, hp.get? b = some o → b ≠ hp.objs.size + 1 := fun {b o} e z => by
    rw [z] at e
    exact absurd (Heap.lt_size e) (by simp)
  exact hq h1 tk1 (hp.objs.size + 1) t2 (fun b o e => kx b o (ne e) (k0 b o e)) (Nat.le_succ _) hx1
end
structure XTx (scope : Scope) (msg f p : Str) (p0 p1 p2 p3 p4 p5 p6 p7 p8 p9 : Pos) (j : Nat) : Prop where
  hev : ∀ env : PySem.Env, env.scope = scope → ∃ pl, eval (.Call (.Attribute (.Call (.Name "super" p0) [] [] p1) "__init__" p2) [.Constant (.str msg) j p3] [] p4) env = (do
      let ov ← attributeBase (.Call (.Name "super" p0) [] [] p1) "__init__" env (eval (.Call (.Name "super" p0) [] [] p1) env)
      standAt p2.atName
      let (f, first) ← holding [ov] (getMethod ov "__init__" pl)
      callWith p4 f first (backTo p4 (starEach [.Constant (.str msg) j p3] env)) [])
  hsw : ∀ env : PySem.Env, env.scope = scope → swapsWith (.Call (.Attribute (.Call (.Name "super" p0) [] [] p1) "__init__" p2) [.Constant (.str msg) j p3] [] p4) none p5.line env = pure false
  hsw2 : ∀ env : PySem.Env, env.scope = scope → swapsWith (.Name p p8) (some (.Attribute (.Name "self" p6) f p7)) p9.line env = pure false
  hdb : (p == ("__debug__" : Str)) = false
structure XTx0 (scope : Scope) (msg : Str) (p0 p1 p2 p3 p4 p5 : Pos) (j : Nat) : Prop where
  hev : ∀ env : PySem.Env, env.scope = scope → ∃ pl, eval (.Call (.Attribute (.Call (.Name "super" p0) [] [] p1) "__init__" p2) [.Constant (.str msg) j p3] [] p4) env = (do
      let ov ← attributeBase (.Call (.Name "super" p0) [] [] p1) "__init__" env (eval (.Call (.Name "super" p0) [] [] p1) env)
      standAt p2.atName
      let (f, first) ← holding [ov] (getMethod ov "__init__" pl)
      callWith p4 f first (backTo p4 (starEach [.Constant (.str msg) j p3] env)) [])
  hsw : ∀ env : PySem.Env, env.scope = scope → swapsWith (.Call (.Attribute (.Call (.Name "super" p0) [] [] p1) "__init__" p2) [.Constant (.str msg) j p3] [] p4) none p5.line env = pure false
def XC1 (P : Program) (K : PySem.W.Frag) (mg : Str → Option Value) (c : Str) : Prop :=
  ∃ (C fI : Addr) (B newId i : String) (bmB : List Value) (qual msg f p : Str) (params : Arguments) (scope : Scope) (p0 p1 p2 p3 p4 p5 p6 p7 p8 p9 : Pos) (j : Nat),
    mg c = some (.ref C) ∧ PySem.W.keepIn K (.ref C) = true ∧ PySem.W.subIn K (.ref C) (.type "BaseException") = some true ∧ PySem.W.typeIn K (.ref C) = some (.type "type") ∧ fieldOf c = some f ∧
    XCls K C B newId i bmB ∧ XFun P K C fI qual params (xbody msg f p p0 p1 p2 p3 p4 p5 p6 p7 p8 p9 j) scope ∧ XTx scope msg f p p0 p1 p2 p3 p4 p5 p6 p7 p8 p9 j ∧ params.args.map (·.arg) = [("self" : Str), p] ∧ p ≠ "self" ∧ PySem.W.findIn K (.ref C) f = some none
def XC0 (P : Program) (K : PySem.W.Frag) (mg : Str → Option Value) (c : Str) : Prop :=
  ∃ (C fI : Addr) (B newId i : String) (bmB : List Value) (qual msg : Str) (params : Arguments) (scope : Scope) (p0 p1 p2 p3 p4 p5 : Pos) (j : Nat),
    mg c = some (.ref C) ∧ PySem.W.keepIn K (.ref C) = true ∧ PySem.W.subIn K (.ref C) (.type "BaseException") = some true ∧ PySem.W.typeIn K (.ref C) = some (.type "type") ∧
    XCls K C B newId i bmB ∧ XFun P K C fI qual params (xbody0 msg p0 p1 p2 p3 p4 p5 j) scope ∧ XTx0 scope msg p0 p1 p2 p3 p4 p5 j ∧ params.args.map (·.arg) = [("self" : Str)]
variable [Tb]
section
variable {X : Cx} {W : Wx}
theorem inv_blt {pins : List (Addr × Obj)} {σ : L2.St} {H : Hp} {s : Shared} (I : Inv X pins σ H s) : ∃ mb, s.heap.Ns builtinsNs mb ∧ mb "super" = some (.type "super") := by
  obtain ⟨mb, h1, h2⟩ := I.ok.mod.blt
  exact ⟨mb, h1.keeps I.bk, (h2 "super" (by decide)).trans (by decide +kernel)⟩
theorem pmk_x1 {c : Str} {C : Addr} {f : Str} {e : Expr} {te : TE} {p pos : Pos} {k : Nat} (XC : XC1 X.prog X.K X.mg c) (hC : X.mg c = some (.ref C)) (hf : fieldOf c = some f) (hs : X.mg "super" = none) (hr : Room (k + 1) X.A) (hg : Gl X c) (he : PE X e te)
    (hst : starEach [e] X.env = (false, eval e X.env) :: starEach [] X.env := by rfl) (hdb : (c == ("__debug__" : Str)) = false := by decide) :
    PMk X (.Call (.Name c p) [e] [] pos) (fun σ H Q => te σ H fun v H1 => ∀ dx, H1 dx = none → Q (.ref C) (some dx) (upd H1 dx (.xd [(f, v)]))) := by
  intro pins s σ H Q I h
  obtain ⟨C', fI, B, newId, i, bmB, qual, msg, f', p', params, scope, p0, p1, p2, p3, p4, p5, p6, p7, p8, p9, j, hC', kC, sub, ty, hf', XK, XF, XT, hpar, hps, hff⟩ := XC
  rw [hC] at hC'
  cases hC'
  rw [hf] at hf'
  cases hf'
  refine wpAny_Call_Name_kw (ld_glob I hg hC ?_ hdb)
  refine PySem.W.callWith_K (h₀ := X.base) I.ok.mod.kin kC ?_ hst (by rfl)
  rw [hst]
  show wpAny _ _ (spliced ((false, eval e X.env) :: backTo pos (starEach [] X.env))) _ _ s
  refine Calls.spliced_cons (thn (he.run pins s σ H _ I h) fun u s1 ⟨v, H1, I1, r1, q1⟩ => ?_)
  refine Calls.spliced_nil ⟨I1.kIn, ?_⟩
  show wpAny _ _ (call (.ref C) [u]) _ _ _
  obtain ⟨mb, nb, eb⟩ := inv_blt I1
  have G1 := I1.ok.mod.glob.keeps I1.bk
  have room := (hr.make C [u] []).depth
  obtain ⟨hp, g, d, t, os⟩ := s1
  refine xmake1 XK XF hpar hps hff XT.hev XT.hsw XT.hsw2 XT.hdb I1.kIn G1 hs nb eb I1.nolimit room fun h' tk' a dx t1 kk ha hdx hne hx hns => ?_
  obtain ⟨G, g1, g2⟩ := restrict h' fun b => decide (b ≠ a)
  have gk : ∀ b o, b ≠ a → h'.get? b = some o → G.get? b = some o := fun b o hb e => by
    rw [g1 b (decide_eq_true hb)]; exact e
  have ga : G.get? a = none := g2 a (decide_eq_false fun z => z rfl)
  have gs : ∀ b o, G.get? b = some o → h'.get? b = some o := fun b o e => by
    by_cases hb : b = a
    · rw [hb, ga] at e; cases e
    · rw [← g1 b (decide_eq_true hb)]; exact e
  have nea : ∀ {b : Addr} {o : Obj}, hp.get? b = some o → b ≠ a := fun {b o} z => Nat.ne_of_lt (Nat.lt_of_lt_of_le (Heap.lt_size z) ha)
  have J := I1.laid (t' := tk') (a := dx) (o := .xd [(f, v)]) (h' := G) (fun b o e => gk b o (nea e) (kk b o e)) hdx
    ⟨fun y => if y = f then some u else none, (by
      obtain ⟨o, es, ep, e1, e2⟩ := hns
      exact ⟨o, es, ep, gk _ _ hne e1, e2⟩), fun y => by
      by_cases hy : y = f
      · subst hy
        simp only [List.lookup_cons, beq_self_eq_true, if_true]
        exact r1
      · have : (y == f) = false := beq_eq_false_iff_ne.mpr hy
        simp only [List.lookup_cons, this, if_neg hy, List.lookup_nil]
        trivial⟩
  have hn : H1 dx = none := I1.hok.fresh hdx
  exact ⟨a, _, _, _, _, .ref C, some dx, rfl, J, gs, ga, hx, ⟨rfl, rfl⟩, rfl, rfl, by rw [upd_ne (Ne.symm hne)]; exact I1.hok.fresh ha, rfl, I1.bare, raises_own sub ty, q1 dx hn⟩
def svRaise1 (c : Str) (f : Ev) : Sv := fun e h => (pv f e h).toFl e fun d h1 => .exc (.exc c [d]) e h1
theorem den_raise1 {c : Str} {ex : Expr} {p pos pos' : Pos} {f : Ev} {k : Nat} (XC : XC1 X.prog X.K X.mg c) (hs : X.mg "super" = none) (hr : Room k X.A) (tk : Takes X W) (he : DenE X W ex f) (hjk : 1 ≤ k := by decide) (hg : Gl X c := by rfl) (hc : X.calm = true := by rfl)
    (hst : starEach [ex] X.env = (false, eval ex X.env) :: starEach [] X.env := by rfl) (hdb : (c == ("__debug__" : Str)) = false := by decide) :
    DenS X W (.Raise (some (.Call (.Name c p) [ex] [] pos)) none pos') (svRaise1 c f) := by
  obtain ⟨C, fn, hC, hf⟩ : ∃ C fn, X.mg c = some (.ref C) ∧ fieldOf c = some fn := by
    obtain ⟨C', fI, B, newId, i, bmB, qual, msg, f', p', params, scope, p0, p1, p2, p3, p4, p5, p6, p7, p8, p9, j, hC', kC, sub, ty, hf', _⟩ := XC
    exact ⟨_, _, hC', hf'⟩
  refine PS.imp (ps_raise hc tk (pmk_x1 (k := 0) XC hC hf hs (hr.mono hjk) hg (den_pv he) hst hdb)) fun N σ H ⟨r, e, h, er, hr, ok⟩ => ?_
  unfold svRaise1 at ok
  refine rdV_bindS er hr ok fun d h1 v r1 H1 s1 hr1 t1 er1 ok1 => fun dx hdx => ?_
  have s2 : Step r1 H1 r1 (upd H1 dx (.xd [(fn, v)])) := Step.alloc hdx
  exact ok1 _ _ σ r1 _ s2 (er1.mono s2.mn) (hr1.alloc hdx) (.e1 hC hf (fun z => hr1.there z hdx) upd_same (t1.mono s2.mn))
end
end BW

set_option Elab.async false
set_option linter.all false
set_option maxRecDepth 100000
set_option maxHeartbeats 4000000
namespace BW
open PySem PySem.Spec PyProof.Rows L2
section
variable {X : Cx} {pins : List (Addr × Obj)} {σ : L2.St} {H : Hp} {s : Shared}
end
section
variable {X : Cx} {x1 x2 n y : Str} {c1 c2 : Value} {i j kk : Nat} {body : List Stmt} {np1 np2 tp py pn' pa pos pos' : Pos} {tb : WX → TS} {Wout : WX}
end
end BW

set_option Elab.async false
set_option linter.all false
set_option maxRecDepth 100000
set_option maxHeartbeats 4000000
namespace BW
open PySem PySem.Spec PyProof.Rows L2
section
open PySem.W PySem.Calls
variable {prog : Program} {w : World} {A : Around} {E : Value → Shared → Prop} {s : Shared} {K : Frag} {x D : Addr} {ox : Obj}
theorem xo_find {od : Option Obj} (c : ExcC K D) : findObj K D od "__class__" = some (.bind (.builtin "getset_descriptor.__get__") (.builtin "object.__class__")) := by
  obtain ⟨cd, hc, _⟩ := any_some c.hd
  simp [findObj, hc, c.ha, c.hn, c.ht]
theorem xo_class {od : Option Obj} {Q : Option Value → Shared → Prop} (c : ExcC K D) (X : K.In s.heap) (I : InstAt s.heap x ox D od) (h : Q (some (.ref D)) { s with toks := s.toks + 1 }) : wpAny (model prog w) A (getAttr? (.ref x) "__class__") Q E s := by
  obtain ⟨hp, g, d, t, os⟩ := s
  have ty := I.type (M := model prog w)
  have lg := looks_findIn (M := model prog w) X c.hg
  have lk := looks_findIn (M := model prog w) X c.hk
  have lf := looks_find (M := model prog w) X I (xo_find (od := od) c)
  have isB : Looks (model prog w) hp (isInstance (.ref x) (.type "BaseException")) true := ty.andThen (looks_subIn X c.hs)
  have ne : (Value.builtin "BaseException.__getattribute__" == Value.builtin "object.__getattribute__") = false := by decide +kernel
  unfold getAttr? getAttrBy? getAttrBy
  refine wpAny_bind (wpAny_mkText (wpAny_bind (wpAny_attempt (wpAny_holding (wpAny_bind (ty.at (wpAny_bind (lg.at ?_))))))))
  refine KFB.if_not (by rw [ne, Bool.and_false]) ?_
  unfold getAttrByItsOwn hookBefore
  refine wpAny_bind (KFB.if_so rfl (lk.at ?_))
  refine wpAny_bind (wpAny_attempt (wpAny_holding ?_))
  unfold callGetattribute
  refine KFB.if_not rfl ?_
  unfold boundAndCalled
  rw [PySem.F.excAttr_ValueError.ga.bind (.ref x)]
  refine wpAny_bind (wpAny_pure ?_)
  show wpAny _ _ (call (.builtin "BaseException.__getattribute__") [.ref x, .str "__class__" t]) _ _ _
  refine wpAny_call (codeAny_call_builtin PySem.F.excAttr_ValueError.ga.plain PySem.F.entry_bexc_ga ?_)
  refine @check_slot (model prog w) _ _ ⟨hp, g, d, t + 1, os⟩ "BaseException.__getattribute__" "BaseException" "__getattribute__" (.ref x) [.str "__class__" t] [] _ (by decide +kernel) (by decide +kernel) isB (PySem.F.args_bexc_ga (.ref x) (.str "__class__" t)) ?_
  unfold Builtin.«object.__getattribute__»
  refine wpAny_bind (wpAny_of_eq (a := ((Value.ref x : Value), [Value.str "__class__" t])) (by first | rfl | (simp only [slotArgs]; rfl)) ?_)
  refine wpAny_bind (wpAny_pure (wpAny_bind (ty.at (wpAny_bind (lf.at ?_)))))
  show wpAny _ _ (holding [Value.builtin "object.__class__"] (call (.builtin "getset_descriptor.__get__") [.builtin "object.__class__", .ref x, .ref D]) >>= ret) _ _ _
  refine wpAny_bind (wpAny_holding (wpAny_call (class_get (s := ⟨hp, g, d, t + 1, os⟩) (ox := ox) (od := od) X I c.hm ?_)))
  refine wpAny_pure ?_
  show wpAny _ _ (handedOut (.ref D)) _ _ _
  rw [handedOut_of (v := .ref D) rfl]
  first
    | exact wpAny_pure (wpAny_pure h)
    | exact wpAny_pure h
    | exact wpAny_pure (wpAny_bind (wpAny_pure (wpAny_pure h)))
theorem xo_kit {od : Option Obj} (c : ExcC K D) : KitX K (.ref x) (.ref D) (fun h => InstAt h x ox D od) := by
  have ho : ∃ cc dd cd sl, K.lookup D = some ⟨cc, dd, .cls cd, sl⟩ := by
    obtain ⟨cd, hc, _⟩ := any_some c.hd
    unfold clsIn at hc
    split at hc
    · rename_i ho; exact ⟨_, _, _, _, ho⟩
    · cases hc
  obtain ⟨cc, dd, cd, sl, ho⟩ := ho
  refine ⟨fun _ _ _ I => I.type, fun _ _ X _ A' Q' E' s' k q => ?_, fun h tp dd its n sl X htp => ?_, fun X I k => xo_class c X I k⟩
  · unfold isType loadHead
    exact wpAny_bind (wpAny_loadPart (k _ _ (X _ _ ho)) (wpAny_pure q))
  · refine Bool.eq_false_iff.mpr fun q => ?_
    have e : D = tp := Value.ref.inj (beq_iff_eq.mp q)
    subst e
    have z := (X _ _ ho).symm.trans htp
    cases z
end
variable [Tb]
def xNames : List Str := ["BadBonds", "BadWord", "BadRow", "BadDeed", "BadNumber", "Unlike", "BadChoice", "BadText", "NothingLeft", "Endless", "TooGreat"]
structure XOne (K : PySem.W.Frag) (mg : Str → Option Value) (c : Str) (C : Addr) : Prop where
  ec : ExcC K C
  fld : ∀ f, fieldOf c = some f → PySem.W.findIn K (.ref C) f = some none
  own : ∀ c' ∈ xNames, ∀ C', mg c' = some (.ref C') → PySem.W.kitOne K (.ref C) (.ref C') = some (decide (c = c'))
  base : ∀ CB, mg "BondError" = some (.ref CB) → PySem.W.kitOne K (.ref C) (.ref CB) = some (decide (c ≠ "TooGreat"))
  ve : PySem.W.kitOne K (.ref C) (.type "ValueError") = some (decide (c ≠ "TooGreat"))
  ov : PySem.W.kitOne K (.ref C) (.type "OverflowError") = some (decide (c = "TooGreat"))
  exm : ∀ CB CT, mg "BondError" = some (.ref CB) → mg "TooGreat" = some (.ref CT) → PySem.W.exmAny K (.ref C) [.ref CB, .ref CT] = some true
def XAll (K : PySem.W.Frag) (mg : Str → Option Value) : Prop := (∃ CB, mg "BondError" = some (.ref CB)) ∧ (∃ CT, mg "TooGreat" = some (.ref CT)) ∧ ∀ c ∈ xNames, ∀ C, mg c = some (.ref C) → XOne K mg c C
section
variable {X : Cx} {W : Wx}
theorem xo_at {pins : List (Addr × Obj)} {σ : L2.St} {H : Hp} {s : Shared} {r : List Addr} {v : V} {c : Str} {xs : List D} (I : Inv X pins σ H s) (q : RelU X.K X.mg r H v (.exc c xs)) : ∃ a C ox od, v = .ref a ∧ X.mg c = some (.ref C) ∧ PySem.W.InstAt s.heap a ox C od := by
  cases q with
  | val q => cases q with
    | @exc0 c a C hm hn ha =>
      obtain ⟨⟨o, vs, h1, h2, h3, h4⟩, _, _⟩ := I.hok a _ ha
      exact ⟨a, C, o, none, rfl, hm, h1, h2, by unfold PySem.W.notCls; rw [h4], by rw [h3]; trivial⟩
    | @exc1 c f a C dx v x hm hf hn hdn ha hd q =>
      obtain ⟨⟨o, vs, h1, h2, h3, h4⟩, _, _⟩ := I.hok a _ ha
      obtain ⟨mA, ⟨od, es, ep, e1, _⟩, _⟩ := (show ObjOk X.prog X.w H s.heap dx (.xd [(f, v)]) from I.hok dx _ hd)
      exact ⟨a, C, o, some od, rfl, hm, h1, h2, by unfold PySem.W.notCls; rw [h4], by rw [h3]; exact e1⟩
def rIsX (K : PySem.W.Frag) (mg : Str → Option Value) : List V → Hp → VK → Prop := fun xs H Q => ∃ (x c : V) (u : Value) (b : Bool) (r : List Addr) (n : Str) (ds : List D), xs = [x, c] ∧ ClsV c u ∧ RelU K mg r H x (.exc n ds) ∧ (∀ C, mg n = some (.ref C) → ExcC K C ∧ PySem.W.kitOne K (.ref C) u = some b) ∧ Q (.bl b) H
theorem call_isX : CallR X (.builtin "isinstance") (rIsX X.K X.mg) := by
  intro pins s σ H xs us Q I r h
  obtain ⟨x, c, u, b, rr, n, ds, rfl, k, ty, e, q⟩ := h
  obtain ⟨u1, u2, rfl, r1, r2⟩ := vals2 r
  have e2 := k.eq r2
  subst e2
  obtain ⟨a, C, ox, od, rfl, hm, J⟩ := xo_at I ty
  obtain rfl : u1 = Value.ref a := r1
  obtain ⟨ec, ek⟩ := e C hm
  exact PySem.W.kia_one (xo_kit ec) I.kIn J ek (fun z => nomatch z) fun tk => ⟨.bl b, H, I.tok tk, rfl, q⟩
def evIsX (t : Str → Bool) (f : Ev) : Ev := fun e h => (f e h).bind fun d h1 => match d with
  | .exc c _ => if c ∈ xNames then .ok (.bl (t c)) h1 else .stuck
  | _ => .stuck
theorem rd_isX {σ : L2.St} {H : Hp} {Q : VK} {t : Str → Bool} {f : Ev} {cv : V} {u : Value} (hc : ClsV cv u) (hk : ∀ c ∈ xNames, ∀ C, X.mg c = some (.ref C) → ExcC X.K C ∧ PySem.W.kitOne X.K (.ref C) u = some (t c)) (q : rdE X.K X.mg W (evIsX t f) σ H Q) :
    rdE X.K X.mg W f σ H fun v H1 => rIsX X.K X.mg [v, cv] H1 Q := by
  obtain ⟨r, e, h, er, hr, ok⟩ := q
  unfold evIsX at ok
  refine rdE_bind er hr ok fun d h1 v r1 H1 s1 hr1 t1 er1 ok1 => ?_
  split at ok1
  · rename_i c ds
    split at ok1
    · rename_i hz
      exact ⟨v, cv, u, t c, r1, c, ds, rfl, hc, t1.u, fun C hC => hk c hz C hC, ok1 _ r1 H1 (Step.refl _ _) hr1 (.val (.bl _))⟩
    · exact ok1.elim
  · exact ok1.elim
theorem den_isX {x : Str} {a : Expr} {p p2 pos : Pos} {f : Ev} (XA : XAll X.K X.mg) (hx : ∃ C, X.mg x = some (.ref C)) (hg : Gl X "isinstance") (hm : X.mg "isinstance" = none) (hg2 : Gl X x) (ha : DenE X W a f) (hxn : x ∈ xNames := by decide)
    (hdb2 : (x == ("__debug__" : Str)) = false := by decide)
    (he : starEach [a, .Name x p2] X.env = (false, eval a X.env) :: starEach [.Name x p2] X.env := by rfl) (hpl : (backTo pos (starEach [.Name x p2] X.env)).any (·.1) = false := by rfl) (he2 : starEach [.Name x p2] X.env = (false, eval (.Name x p2) X.env) :: starEach [] X.env := by rfl) :
    DenE X W (.Call (.Name "isinstance" p) [a, .Name x p2] [] pos) (evIsX (fun c => decide (c = x)) f) := by
  obtain ⟨C', hC'⟩ := hx
  refine PE.imp (pe_callB call_isX hg hm (by decide +kernel) (pa_cons ha (pa_cons (pe_glob (v := .ref C') hg2 hC' rfl hdb2) pa_nil he2) he) (by decide) (by decide) he hpl) fun σ H Q q => ?_
  exact rd_isX (.own C') (fun c hc C hC => ⟨(XA.2.2 c hc C hC).ec, (XA.2.2 c hc C hC).own x hxn C' hC'⟩) q
theorem den_isXB {a : Expr} {p p2 pos : Pos} {f : Ev} (XA : XAll X.K X.mg) (hg : Gl X "isinstance") (hm : X.mg "isinstance" = none) (hg2 : Gl X "BondError") (ha : DenE X W a f)
    (he : starEach [a, .Name "BondError" p2] X.env = (false, eval a X.env) :: starEach [.Name "BondError" p2] X.env := by rfl) (hpl : (backTo pos (starEach [.Name "BondError" p2] X.env)).any (·.1) = false := by rfl) (he2 : starEach [.Name "BondError" p2] X.env = (false, eval (.Name "BondError" p2) X.env) :: starEach [] X.env := by rfl) :
    DenE X W (.Call (.Name "isinstance" p) [a, .Name "BondError" p2] [] pos) (evIsX (fun c => decide (c ≠ "TooGreat")) f) := by
  obtain ⟨CB, hCB⟩ := XA.1
  refine PE.imp (pe_callB call_isX hg hm (by decide +kernel) (pa_cons ha (pa_cons (pe_glob (v := .ref CB) hg2 hCB rfl) pa_nil he2) he) (by decide) (by decide) he hpl) fun σ H Q q => ?_
  exact rd_isX (.own CB) (fun c hc C hC => ⟨(XA.2.2 c hc C hC).ec, (XA.2.2 c hc C hC).base CB hCB⟩) q
theorem den_isXV {a : Expr} {p p2 pos : Pos} {f : Ev} (XA : XAll X.K X.mg) (hg : Gl X "isinstance") (hm : X.mg "isinstance" = none) (hg2 : Gl X "ValueError") (hm2 : X.mg "ValueError" = none) (ha : DenE X W a f)
    (he : starEach [a, .Name "ValueError" p2] X.env = (false, eval a X.env) :: starEach [.Name "ValueError" p2] X.env := by rfl) (hpl : (backTo pos (starEach [.Name "ValueError" p2] X.env)).any (·.1) = false := by rfl) (he2 : starEach [.Name "ValueError" p2] X.env = (false, eval (.Name "ValueError" p2) X.env) :: starEach [] X.env := by rfl) :
    DenE X W (.Call (.Name "isinstance" p) [a, .Name "ValueError" p2] [] pos) (evIsX (fun c => decide (c ≠ "TooGreat")) f) :=
  PE.imp (pe_callB call_isX hg hm (by decide +kernel) (pa_cons ha (pa_cons (pe_bltn (v := .ty "ValueError") hg2 hm2 (by decide +kernel) rfl) pa_nil he2) he) (by decide) (by decide) he hpl) fun σ H Q q => rd_isX (.ty "ValueError") (fun c hc C hC => ⟨(XA.2.2 c hc C hC).ec, (XA.2.2 c hc C hC).ve⟩) q
theorem den_isXO {a : Expr} {p p2 pos : Pos} {f : Ev} (XA : XAll X.K X.mg) (hg : Gl X "isinstance") (hm : X.mg "isinstance" = none) (hg2 : Gl X "OverflowError") (hm2 : X.mg "OverflowError" = none) (ha : DenE X W a f)
    (he : starEach [a, .Name "OverflowError" p2] X.env = (false, eval a X.env) :: starEach [.Name "OverflowError" p2] X.env := by rfl) (hpl : (backTo pos (starEach [.Name "OverflowError" p2] X.env)).any (·.1) = false := by rfl) (he2 : starEach [.Name "OverflowError" p2] X.env = (false, eval (.Name "OverflowError" p2) X.env) :: starEach [] X.env := by rfl) :
    DenE X W (.Call (.Name "isinstance" p) [a, .Name "OverflowError" p2] [] pos) (evIsX (fun c => decide (c = "TooGreat")) f) :=
  PE.imp (pe_callB call_isX hg hm (by decide +kernel) (pa_cons ha (pa_cons (pe_bltn (v := .ty "OverflowError") hg2 hm2 (by decide +kernel) rfl) pa_nil he2) he) (by decide) (by decide) he hpl) fun σ H Q q => rd_isX (.ty "OverflowError") (fun c hc C hC => ⟨(XA.2.2 c hc C hC).ec, (XA.2.2 c hc C hC).ov⟩) q
def evFld (f : Str) (g : Ev) : Ev := fun e h => (g e h).bind fun d h1 => match d with
  | .exc c [x] => if c ∈ xNames ∧ fieldOf c = some f then .ok x h1 else .stuck
  | _ => .stuck
theorem den_fld {f : Str} {ex : Expr} {pos : Pos} {g : Ev} (XA : XAll X.K X.mg) (he : DenE X W ex g) (hb : attributeBase ex f X.env (eval ex X.env) = eval ex X.env := by rfl) : DenE X W (.Attribute ex f pos) (evFld f g) := by
  refine ⟨fun pins s σ H Q I hq => ?_⟩
  obtain ⟨r, e, h, er, hr, ok⟩ := hq
  unfold evFld at ok
  refine attr_of hb (thn (he.run pins s σ H (fun v H1 => ∃ r1 c x h1, HRel X.K X.mg r1 h1 H1 ∧ RelU X.K X.mg r1 H1 v (.exc c [x]) ∧ c ∈ xNames ∧ fieldOf c = some f ∧ ∀ v', Rel X.K X.mg r1 H1 v' x → Q v' H1) I ?_) fun u s1 hh => ?_)
  · refine rdE_bind er hr ok fun d h1 v r1 H1 s1 hr1 t1 er1 ok1 => ?_
    split at ok1
    · rename_i c x
      split at ok1
      · rename_i hz
        exact ⟨r1, c, x, h1, hr1, t1.u, hz.1, hz.2, fun v' q => ok1 v' r1 H1 (Step.refl _ _) hr1 (.val q)⟩
      · exact ok1.elim
    · exact ok1.elim
  · obtain ⟨v, H1, I1, rv, r1, c, x, h1, hr1, t1, hc, hf, k⟩ := hh
    cases t1 with
    | val q => cases q with
      | @exc1 c f' a C dx v x hm hf' hn hdn ha hd q =>
        rw [hf] at hf'
        cases hf'
        obtain rfl : u = Value.ref a := rv
        have XO := XA.2.2 c hc C hm
        obtain ⟨⟨o, vs, h1, h2, h3, h4⟩, _, _⟩ := I1.hok a _ ha
        obtain ⟨mA, hns, hrr⟩ := (show ObjOk X.prog X.w H1 s1.heap dx (.xd [(f, v)]) from I1.hok dx _ hd)
        obtain ⟨od, ho, hl⟩ := lookIn_ns hns
        obtain ⟨u, hu, ru⟩ := RelO.some_of (v := v) (o := mA f) (by have := hrr f; simpa using this)
        have J : PySem.W.InstAt s1.heap a o C (some od) := ⟨h1, h2, by unfold PySem.W.notCls; rw [h4], by rw [h3]; exact ho⟩
        exact HandSPX.exc_get I1.kIn J XO.ec.hg XO.ec.hk XO.ec.hs (PySem.W.findObj_own XO.ec.hd (XO.fld f hf) rfl (by rw [hl, hu])) (handed_of ru) ⟨v, H1, I1.tok _, ru, k v q⟩
end
end BW

set_option Elab.async false
set_option linter.all false
set_option maxRecDepth 100000
set_option maxHeartbeats 4000000
namespace BW
open PySem PySem.Spec PyProof.Rows L2
section
open PySem.W
variable {M : Model} {A : Around} {E : Value → Shared → Prop} {s : Shared} {qual : Str} {params : Arguments} {body : Expr} {scope : Scope} {env : PySem.Env} {c P : Addr} {ps : Array Value} {pos : Pos} {firstLine : Nat} {mg : Str → Option Value}
  {clos : List (Str × Addr)} {Q : Value → Shared → Prop} {dV : Value}
end
section
variable {X : Cx} {pins : List (Addr × Obj)} {σ : L2.St} {H : Hp} {s : Shared}
end
section
variable {X : Cx} {pins : List (Addr × Obj)} {σ : L2.St} {H HZ : Hp} {s s1 : Shared}
end
section
variable {X : Cx}
end
end BW

set_option Elab.async false
set_option linter.all false
set_option maxRecDepth 100000
set_option maxHeartbeats 4000000
namespace BW
open PySem PySem.Spec PyProof.Rows L2
variable [Tb]
section
variable {K : PySem.W.Frag} {mg : Str → Option Value}
end
abbrev Lv := AH → Out D
section
variable {X : Cx} {W : Wx}
end
end BW

set_option Elab.async false
set_option linter.all false
set_option maxRecDepth 100000
set_option maxHeartbeats 4000000
namespace BW
open PySem PySem.Spec PyProof.Rows L2
variable [Tb]
section
variable {X : Cx}
end
end BW

set_option Elab.async false
set_option linter.all false
set_option maxRecDepth 100000
set_option maxHeartbeats 4000000
namespace BW
open PySem PySem.Spec PyProof.Rows L2
section
open PySem.W
def xclsB (K : Frag) (C : Addr) (B newId i : String) (bmB : List Value) : Bool :=
  excInitIn K C bmB newId && (excOver K C bmB && (hasDictIn K C && (decide (findIn K (.ref C) "__setattr__" = some (some (.builtin "object.__setattr__"))) && (decide (subIn K (.ref C) (.type B) = some true) &&
    (decide (ks_superIn K C C "__init__" = some (some (.builtin i))) && (decide (nsIn K cStatics "thirdparty.any" = some none) && (decide (mroIn K C (.ref C) = some true) && (keepIn K (.ref C) && (decide (subIn K (.ref C) (.type "BaseException") = some true) && decide (typeIn K (.ref C) = some (.type "type")))))))))))
theorem xcls_of {K : Frag} {C : Addr} {B newId i : String} {bmB : List Value} (fb : ExcBaseFacts B newId i bmB) (kf : KxsFacts B i) (sf : StoreFacts B bmB "object.__setattr__" "object") (h : xclsB K C B newId i bmB = true) :
    XCls K C B newId i bmB ∧ keepIn K (.ref C) = true ∧ subIn K (.ref C) (.type "BaseException") = some true ∧ typeIn K (.ref C) = some (.type "type") := by
  unfold xclsB at h
  simp only [Bool.and_eq_true, decide_eq_true_eq] at h
  obtain ⟨h1, h2, h3, h4, h5, h6, h7, h8, h9, h10, h11⟩ := h
  exact ⟨⟨fb, kf, sf, h1, h2, h3, h4, h5, h6, h7, h8⟩, h9, h10, h11⟩
abbrev veT : List Value := [.type "ValueError", .type "Exception", .type "BaseException", .type "object"]
abbrev ovT : List Value := [.type "OverflowError", .type "ArithmeticError", .type "Exception", .type "BaseException", .type "object"]
def xB (K : Frag) (C : Addr) (ov : Bool) : Bool := if ov then xclsB K C "OverflowError" "OverflowError.__new__" "OverflowError.__init__" ovT else xclsB K C "ValueError" "ValueError.__new__" "ValueError.__init__" veT
theorem xB_ok {K : Frag} {C : Addr} {ov : Bool} (h : xB K C ov = true) : ∃ B newId i bmB, XCls K C B newId i bmB ∧ keepIn K (.ref C) = true ∧ subIn K (.ref C) (.type "BaseException") = some true ∧ typeIn K (.ref C) = some (.type "type") := by
  unfold xB at h
  split at h
  · exact ⟨_, _, _, _, xcls_of PySem.F.excBase_OverflowError kxs_OverflowError PySem.F.store_OverflowError h⟩
  · exact ⟨_, _, _, _, xcls_of PySem.F.excBase_ValueError kxs_ValueError PySem.F.store_ValueError h⟩
end
def xscB (prog : Program) (params : Arguments) (scope : Scope) : Bool :=
  params.posonlyargs.isEmpty && (!(prog.main.scope.names.lookup ("super" : Str)).isSome && (decide (scope.names.lookup ("super" : Str) = some .globalImplicit) && (decide (scope.names.lookup ("__class__" : Str) = some .free) && (decide (scope.kind = .function) && (!scope.isCoroutine && (!scope.isGenerator &&
    ((scope.names.all fun x => !decide (x.2 = .cell)) && params.args.all fun x => decide (scope.names.lookup x.arg = some .local))))))))
theorem xfun_mk {P : Program} {K : PySem.W.Frag} {C fI cda cc : Addr} {qual : Str} {st : Stmt} {body : List Stmt} {oc dV kV doc pm ct : Value} {od an : Option Addr} {osl : Array (Option Value)} {vs : Array Value} {ccl cl : Value} {cdd cld : Option Addr} {ccs csl : Array (Option Value)} {tf : Tok}
    (l : K.lookup fI = some ⟨oc, od, .func (PySem.W.ksFn "__init__" qual (defArgs st) (defBody st) (defScope st) dV kV doc pm an (.ref cda) ct cc), osl⟩) (hc : PySem.W.codeIn K (.ref cda) qual = true) (lc : K.lookup cda = some ⟨ccl, cdd, .fields vs, ccs⟩) (hv : vs[2]? = some (.str P.main.file tf))
    (lcc : K.lookup cc = some ⟨cl, cld, .cell (some (.ref C)), csl⟩) (hfn : PySem.W.isFn K (.ref fI) = true) (ini : PySem.W.findIn K (.ref C) "__init__" = some (some (.ref fI))) (hb : defBody st = body) (hs : xscB P (defArgs st) (defScope st) = true)
    (hbind : ∀ (s : Shared) (us : List Value), us.length = (defArgs st).args.length → BindsTo s (PySem.W.ksFn "__init__" qual (defArgs st) (defBody st) (defScope st) dV kV doc pm an (.ref cda) ct cc) ⟨us, []⟩ (((defArgs st).args.map (·.arg)).zip us)) :
    XFun P K C fI qual (defArgs st) body (defScope st) := by
  subst hb
  unfold xscB at hs
  simp only [Bool.and_eq_true, Bool.not_eq_true', decide_eq_true_eq, List.all_eq_true, decide_eq_false_iff_not, List.isEmpty_iff] at hs
  obtain ⟨h1, h2, h3, h4, h5, h6, h7, h8, h9⟩ := hs
  exact ⟨⟨oc, od, osl, dV, kV, doc, pm, an, cda, ct, cc, vs, ccl, cdd, ccs, tf, cl, cld, csl, l, hc, lc, hv, lcc, hbind⟩, hfn, ini, h1, h2, h3, h4, h5, h6, h7, h8, h9⟩
def xoneB (K : PySem.W.Frag) (cs : List (Str × Addr)) (CB CT : Addr) (p : Str × Addr) : Bool :=
  decide (PySem.W.findIn K (.ref p.2) "__getattribute__" = some (some (.builtin "BaseException.__getattribute__"))) && (decide (PySem.W.findIn K (.ref p.2) "__getattr__" = some none) && (decide (PySem.W.subIn K (.ref p.2) (.type "BaseException") = some true) && (PySem.W.hasDictIn K p.2 &&
    (decide (PySem.W.findIn K (.ref p.2) "__class__" = some (some (.builtin "object.__class__"))) && (decide (PySem.W.specialIn K (.builtin "object.__class__") "__get__" = some (some (.builtin "getset_descriptor.__get__"))) && (decide (PySem.W.takesIn K (.builtin "object.__class__") = some true) && (decide (PySem.W.mroIn K p.2 (.type "object") = some true) &&
    ((match fieldOf p.1 with | some f => decide (PySem.W.findIn K (.ref p.2) f = some none) | none => true) && ((cs.all fun q => decide (PySem.W.kitOne K (.ref p.2) (.ref q.2) = some (decide (p.1 = q.1)))) && (decide (PySem.W.kitOne K (.ref p.2) (.ref CB) = some (decide (p.1 ≠ "TooGreat"))) &&
    (decide (PySem.W.kitOne K (.ref p.2) (.type "ValueError") = some (decide (p.1 ≠ "TooGreat"))) && (decide (PySem.W.kitOne K (.ref p.2) (.type "OverflowError") = some (decide (p.1 = "TooGreat"))) && decide (PySem.W.exmAny K (.ref p.2) [.ref CB, .ref CT] = some true)))))))))))))
def AllMg (mg : Str → Option Value) : List (Str × Option Addr) → Prop
  | [] => True
  | p :: r => mg p.1 = p.2.map Value.ref ∧ AllMg mg r
theorem allMg_mem {mg : Str → Option Value} : ∀ {tab : List (Str × Option Addr)}, AllMg mg tab → ∀ c ∈ tab.map (·.1), ∀ C, mg c = some (.ref C) → (c, C) ∈ tab.filterMap fun p => p.2.map fun a => (p.1, a)
  | [], _, _, h, _, _ => by simp at h
  | p :: tab, ⟨h1, h2⟩, c, hc, C, hm => by
    rw [List.map_cons] at hc
    rcases List.mem_cons.mp hc with rfl | hc
    · rw [h1] at hm
      cases hp : p.2 with
      | none => rw [hp] at hm; cases hm
      | some a =>
        rw [hp] at hm
        cases hm
        rw [List.filterMap_cons, hp]
        exact List.mem_cons_self
    · have := allMg_mem h2 c hc C hm
      rw [List.filterMap_cons]
      split
      · exact this
      · exact List.mem_cons_of_mem _ this
variable [Tb]
theorem xall_of {K : PySem.W.Frag} {mg : Str → Option Value} {CB CT : Addr} {tab : List (Str × Option Addr)} (hB : mg "BondError" = some (.ref CB)) (hT : mg "TooGreat" = some (.ref CT)) (hn : tab.map (·.1) = xNames) (hm : AllMg mg tab)
    (h : ((tab.filterMap fun p => p.2.map fun a => (p.1, a)).all (xoneB K (tab.filterMap fun p => p.2.map fun a => (p.1, a)) CB CT)) = true) : XAll K mg := by
  refine ⟨⟨CB, hB⟩, ⟨CT, hT⟩, fun c hc C hC => ?_⟩
  rw [← hn] at hc
  have z := List.all_eq_true.mp h (c, C) (allMg_mem hm c hc C hC)
  unfold xoneB at z
  simp only [Bool.and_eq_true, decide_eq_true_eq] at z
  obtain ⟨z1, z2, z3, z4, z5, z6, z7, z8, z9, z10, z11, z12, z13, z14⟩ := z
  refine ⟨⟨z1, z2, z3, z4, z5, z6, z7, z8⟩, fun f hf => ?_, fun c' hc' C' hC' => ?_, fun CB' hB' => ?_, z12, z13, fun CB' CT' hB' hT' => ?_⟩
  · rw [hf] at z9
    simpa using z9
  · rw [← hn] at hc'
    have := List.all_eq_true.mp z10 (c', C') (allMg_mem hm c' hc' C' hC')
    simpa using this
  · rw [hB] at hB'
    cases hB'
    exact z11
  · rw [hB] at hB'
    rw [hT] at hT'
    cases hB'
    cases hT'
    exact z14
section
variable {P : Program} {w : World} {K : PySem.W.Frag} {mg : Str → Option Value} {base : Heap}
end
end BW
namespace BW
open PySem PySem.Spec PyProof.Rows L2
variable [Tb]
section
variable {X : Cx} {W : Wx}
def evD0 : Ev := fun _ h => .ok (.ref h.length) (h ++ [.dk []])
theorem den_d0 {pos : Pos} : DenE X W (.Dict [] [] pos) evD0 := PE.imp pe_dnewK fun σ H Q ⟨r, e, h, er, hr, ok⟩ => by
  intro p hp
  have s1 : Step r H r (upd H p (.dK [])) := Step.alloc hp
  have hpr : p ∉ r := fun z => hr.there z hp
  have m : Mo r (upd H p (.dK [])) (r ++ [p]) (upd H p (.dK [])) := Mo.push upd_same (fun z => z) NoOwn.of
  exact ok _ _ _ (Step.push hpr s1 (.of hp)) ((hr.alloc hp).push (ob := .dk []) hpr m ⟨[], upd_same, .nil⟩) (.val (.ref (by rw [← hr.len, List.getElem?_append_right (Nat.le_refl _), Nat.sub_self]; rfl)))
end
end BW
namespace BW
open PySem PySem.Spec PyProof.Rows L2
theorem xc1_mk {P : Program} {K : PySem.W.Frag} {mg : Str → Option Value} {c qual : Str} {st : Stmt} {ov : Bool} {C fI cda cc : Addr} {oc dV kV doc pm ct : Value} {od an : Option Addr} {osl : Array (Option Value)} {vs : Array Value} {ccl cl : Value} {cdd cld : Option Addr} {ccs csl : Array (Option Value)} {tf : Tok}
    {msg f p : Str} {p0 p1 p2 p3 p4 p5 p6 p7 p8 p9 : Pos} {j : Nat}
    (hm : mg c = some (.ref C)) (hx : xB K C ov = true) (l : K.lookup fI = some ⟨oc, od, .func (PySem.W.ksFn "__init__" qual (defArgs st) (defBody st) (defScope st) dV kV doc pm an (.ref cda) ct cc), osl⟩) (hc : PySem.W.codeIn K (.ref cda) qual = true) (lc : K.lookup cda = some ⟨ccl, cdd, .fields vs, ccs⟩) (hv : vs[2]? = some (.str P.main.file tf))
    (lcc : K.lookup cc = some ⟨cl, cld, .cell (some (.ref C)), csl⟩) (hfn : PySem.W.isFn K (.ref fI) = true) (ini : PySem.W.findIn K (.ref C) "__init__" = some (some (.ref fI))) (hs : xscB P (defArgs st) (defScope st) = true) (hfl : PySem.W.findIn K (.ref C) f = some none)
    (hb : defBody st = xbody msg f p p0 p1 p2 p3 p4 p5 p6 p7 p8 p9 j) (hf : fieldOf c = some f) (hpar : (defArgs st).args.map (·.arg) = [("self" : Str), p]) (hps : p ≠ "self") (T : XTx (defScope st) msg f p p0 p1 p2 p3 p4 p5 p6 p7 p8 p9 j)
    (hbind : ∀ (s : Shared) (us : List Value), us.length = (defArgs st).args.length → BindsTo s (PySem.W.ksFn "__init__" qual (defArgs st) (defBody st) (defScope st) dV kV doc pm an (.ref cda) ct cc) ⟨us, []⟩ (((defArgs st).args.map (·.arg)).zip us)) : XC1 P K mg c := by
  obtain ⟨B, newId, i, bmB, x1, x2, x3, x4⟩ := xB_ok hx
  exact ⟨C, fI, B, newId, i, bmB, qual, msg, f, p, defArgs st, defScope st, p0, p1, p2, p3, p4, p5, p6, p7, p8, p9, j, hm, x2, x3, x4, hf, x1, xfun_mk l hc lc hv lcc hfn ini hb hs hbind, T, hpar, hps, hfl⟩
theorem xc0_mk {P : Program} {K : PySem.W.Frag} {mg : Str → Option Value} {c qual : Str} {st : Stmt} {ov : Bool} {C fI cda cc : Addr} {oc dV kV doc pm ct : Value} {od an : Option Addr} {osl : Array (Option Value)} {vs : Array Value} {ccl cl : Value} {cdd cld : Option Addr} {ccs csl : Array (Option Value)} {tf : Tok}
    {msg : Str} {p0 p1 p2 p3 p4 p5 : Pos} {j : Nat}
    (hm : mg c = some (.ref C)) (hx : xB K C ov = true) (l : K.lookup fI = some ⟨oc, od, .func (PySem.W.ksFn "__init__" qual (defArgs st) (defBody st) (defScope st) dV kV doc pm an (.ref cda) ct cc), osl⟩) (hc : PySem.W.codeIn K (.ref cda) qual = true) (lc : K.lookup cda = some ⟨ccl, cdd, .fields vs, ccs⟩) (hv : vs[2]? = some (.str P.main.file tf))
    (lcc : K.lookup cc = some ⟨cl, cld, .cell (some (.ref C)), csl⟩) (hfn : PySem.W.isFn K (.ref fI) = true) (ini : PySem.W.findIn K (.ref C) "__init__" = some (some (.ref fI))) (hs : xscB P (defArgs st) (defScope st) = true)
    (hb : defBody st = xbody0 msg p0 p1 p2 p3 p4 p5 j) (hpar : (defArgs st).args.map (·.arg) = [("self" : Str)]) (T : XTx0 (defScope st) msg p0 p1 p2 p3 p4 p5 j)
    (hbind : ∀ (s : Shared) (us : List Value), us.length = (defArgs st).args.length → BindsTo s (PySem.W.ksFn "__init__" qual (defArgs st) (defBody st) (defScope st) dV kV doc pm an (.ref cda) ct cc) ⟨us, []⟩ (((defArgs st).args.map (·.arg)).zip us)) : XC0 P K mg c := by
  obtain ⟨B, newId, i, bmB, x1, x2, x3, x4⟩ := xB_ok hx
  exact ⟨C, fI, B, newId, i, bmB, qual, msg, defArgs st, defScope st, p0, p1, p2, p3, p4, p5, j, hm, x2, x3, x4, x1, xfun_mk l hc lc hv lcc hfn ini hb hs hbind, T, hpar⟩
end BW

set_option Elab.async false
set_option linter.all false
set_option maxRecDepth 100000
set_option maxHeartbeats 4000000
namespace BW
open PySem PySem.Spec PyProof.Rows L2
variable [Tb]
section
variable {X : Cx} {W : Wx}
end
end BW

set_option Elab.async false
set_option linter.all false
set_option maxRecDepth 100000
set_option maxHeartbeats 4000000
namespace BW
open PySem PySem.Spec PyProof.Rows L2
section
variable [Tb] {X : Cx} {W : Wx}
end
end BW

set_option Elab.async false
set_option linter.all false
set_option maxRecDepth 100000
set_option maxHeartbeats 4000000
namespace BW
open PySem PySem.Spec PyProof.Rows L2
section
variable {prog : Program} {w : World} {A : Around} {E : Value → Shared → Prop} {s : Shared}
end
section
variable {X : Cx} {W : Wx}
end
end BW

set_option Elab.async false
set_option linter.all false
set_option maxRecDepth 100000
set_option maxHeartbeats 4000000
namespace BW
open PySem PySem.Spec PyProof.Rows L2
variable [Tb]
def dataQ (h : AH) : Nat → D → Option PyData
  | _, .non => some .none
  | _, .bl b => some (.bool b)
  | _, .int i => some (.int i)
  | _, .str x => if PyData.strOk x = true then some (.str x) else none
  | n + 1, .tup xs => (allK (dataQ h n) xs).map .tuple
  | _ + 1, .ref k => match h[k]? with
    | some (.dk []) => some (.dict [])
    | _ => none
  | _, _ => none
def topQ (h : AH) (d : D) : Option PyData := match lstOf h d with
  | some xs => (allK (dataQ h 8) xs).map .list
  | none => none
def bReprQ (h : AH) (ds : List D) : Option D := match bRepr h ds with
  | some d => some d
  | none => match ds with
    | [d] => (topQ h d).bind fun p => if p.showable && decide (p.shown.length ≤ sizeLine) && decide (p.depth ≤ 40) then some (.str p.shown) else none
    | _ => none
section
variable {X : Cx} {W : Wx} {pins : List (Addr × Obj)} {σ : L2.St} {H : Hp} {s : Shared} {r : List Addr} {h : AH}
theorem readsQ_all (I : Inv X pins σ H s) {n : Nat} (ih : ∀ (d : D) (p : PyData) (v : V) (u : Value), dataQ h n d = some p → Rel X.K X.mg r H v d → RelV v u → ∃ as, Reads s.heap u p as ∧ sysModules ∉ as) :
    ∀ {vs : List V} {xs : List D} {ps : List PyData} {us : List Value}, Rels X.K X.mg r H vs xs → allK (dataQ h n) xs = some ps → Vals vs us → ∃ as, ReadsAll s.heap us ps as ∧ sysModules ∉ as
  | _, _, _, _, .nil, e, rv => by
    cases e; cases rv
    exact ⟨[], .nil, fun z => nomatch z⟩
  | _, _, _, _, .cons q t, e, rv => by
    unfold allK at e
    split at e
    · rename_i a as h1 h2
      cases e
      cases rv with
      | cons r1 r2 =>
        obtain ⟨a1, x1, y1⟩ := ih _ _ _ _ h1 q r1
        obtain ⟨a2, x2, y2⟩ := readsQ_all I ih t h2 r2
        exact ⟨a1 ++ a2, .cons x1 x2, fun z => (List.mem_append.mp z).elim y1 y2⟩
    · cases e
theorem readsQ (I : Inv X pins σ H s) (hr : HRel X.K X.mg r h H) : ∀ (n : Nat) (d : D) (p : PyData) (v : V) (u : Value), dataQ h n d = some p → Rel X.K X.mg r H v d → RelV v u → ∃ as, Reads s.heap u p as ∧ sysModules ∉ as := by
  intro n
  induction n with
  | zero =>
    intro d p v u e q rv
    cases q with
    | non => cases e; cases rv; exact ⟨_, .none, fun z => nomatch z⟩
    | bl b => cases e; cases rv; exact ⟨_, .bool b, fun z => nomatch z⟩
    | int i => cases e; obtain ⟨t, rfl⟩ := rv; exact ⟨_, .int i t, fun z => nomatch z⟩
    | str x => simp only [dataQ] at e; split at e <;> cases e; obtain ⟨t, rfl⟩ := rv; exact ⟨_, .str x t, fun z => nomatch z⟩
    | _ => cases e
  | succ n ih =>
    intro d p v u e q rv
    cases q with
    | non => cases e; cases rv; exact ⟨_, .none, fun z => nomatch z⟩
    | bl b => cases e; cases rv; exact ⟨_, .bool b, fun z => nomatch z⟩
    | int i => cases e; obtain ⟨t, rfl⟩ := rv; exact ⟨_, .int i t, fun z => nomatch z⟩
    | str x => simp only [dataQ] at e; split at e <;> cases e; obtain ⟨t, rfl⟩ := rv; exact ⟨_, .str x t, fun z => nomatch z⟩
    | tup h1 h2 =>
      simp only [dataQ, Option.map_eq_some_iff] at e
      obtain ⟨ys, e1, rfl⟩ := e
      cases rv
      obtain ⟨its, rv, ⟨o, ho, hc, n', hd⟩, _⟩ := I.tuple h1.sq
      obtain ⟨as, x, y⟩ := readsQ_all I ih h2 e1 rv
      exact ⟨_, .tuple ho hc hd x, y⟩
    | ref hn =>
      simp only [dataQ] at e
      split at e
      · rename_i hx
        cases e
        obtain ⟨vs, z1, z2⟩ := hr.obj _ _ _ hx hn
        cases z2
        cases rv
        obtain ⟨_, hs, us, kv, o, es, ep, ho, hc, hd, _, hp, _⟩ := (show ObjOk X.prog X.w H s.heap _ (.dK []) from I.hok _ _ z1)
        cases kv
        have e0 : es.toList = [] := by cases h : es.toList with | nil => rfl | cons a l => rw [h] at hp; cases hp
        have x := Reads.dict (kvs := []) (as := []) (bs := []) ho hc.1 hd (by rw [e0]; exact .nil) (by rw [e0]; exact .nil)
        exact ⟨_, x, fun z => by
          simp at z
          exact absurd hs (by rw [← z]; decide)⟩
      · cases e
    | _ => cases e
theorem repr_listQ {prog : Program} {w : World} {A : Around} {E : Value → Shared → Prop} {s : Shared} {Q : Value → Shared → Prop} {a : Addr} {o : Obj} {vs : Array Value} {n : Nat} {ps : List PyData} {as : List Addr}
    (g1 : s.heap.get? a = some o) (g2 : o.cls = .type "list") (g3 : o.data = .seq vs n) (g4 : ReadsAll s.heap vs.toList ps as) (ns : sysModules ∉ as) (sh : (PyData.list ps).showable = true) (hG : A.guards = some []) (hu : A.units + 50 < cLine) (dp : (PyData.list ps).depth ≤ 40) (sz : (PyData.list ps).shown.length ≤ sizeLine)
    (k : ∀ h' u tk, (∀ b ob, s.heap.get? b = some ob → h'.get? b = some ob) → Q (.str (PyData.list ps).shown u) { s with heap := h', toks := tk }) : wpAny (model prog w) A (call (.builtin "repr") [.ref a]) Q E s := by
  have z' : (listText (PyData.shownAll ps)).length ≤ sizeLine := by simpa only [PyData.shown] using sz
  have sh' := sh
  simp only [PyData.showable] at sh'
  obtain ⟨bs, hb, hk⟩ := ReprAllK.of_readsAll (prog := prog) (w := w) g4 sh' (fun _ => ns) fun t ht => Nat.le_trans (listText_mem_le ht) z'
  have na : a ∉ bs := not_mem_of_deeper (Reads.list g1 g2 g3 g4) (by simp only [PyData.depth]; omega) hb
  simp only [PyData.depth] at dp
  simp only [PyData.shown] at k
  refine call_repr_slot (by omega) (T := "list") (idr := "list.__repr__") ⟨o, g1, g2⟩ F.slot_list_repr.toG ?_
  obtain ⟨l⟩ := vs
  cases l with
  | nil =>
    have g4' : ReadsAll s.heap [] ps _ := g4
    cases g4'
    simp only [PyData.shownAll, listText_nil] at k
    exact call_list_repr_empty ⟨o, g1, g2⟩ g1 g3 ⟨_, _, rfl, k s.heap _ _ fun _ _ e => e⟩
  | cons y l =>
    refine call_list_reprK (h₀ := s.heap) g1 g2 g3 na (by simpa using hk.length_eq) (fun i y e => hk.item i y (by simpa using e)) hG (fun b _ => Clear.nil b) (by show A.units + 1 + _ < cLine; omega) (fun b ob e => e) (fun h' u tk q => ⟨_, _, rfl, k h' u tk q⟩) z'
theorem cd_reprQ (hu : X.A.units + 64 < cLine) (hG : X.A.guards = some []) : CallD X (.builtin "repr") bReprQ := fun pins s σ H xs us Q I rv q => by
  obtain ⟨r, h, ds, d, hr, ts, hg, q⟩ := q
  unfold bReprQ at hg
  split at hg
  · rename_i d' hb
    cases hg
    exact cd_repr hu hG pins s σ H xs us Q I rv ⟨r, h, ds, d, hr, ts, hb, q⟩
  · split at hg
    · rename_i d0
      simp only [Option.bind_eq_some_iff] at hg
      obtain ⟨p, hp, hg⟩ := hg
      split at hg
      · rename_i hz
        cases hg
        obtain ⟨hz, z3⟩ := Bool.and_eq_true_iff.mp hz
        obtain ⟨z1, z2⟩ := Bool.and_eq_true_iff.mp hz
        have z2 := of_decide_eq_true z2
        have z3 := of_decide_eq_true z3
        obtain ⟨v, rfl, t⟩ := ts.one
        unfold topQ at hp
        split at hp
        · rename_i ys hl
          simp only [Option.map_eq_some_iff] at hp
          obtain ⟨ps, e1, rfl⟩ := hp
          obtain ⟨a, vs, rfl, h3, h4⟩ := lstOf_inv hr t hl
          cases rv with
          | cons ru rr =>
            cases rr
            cases ru
            obtain ⟨its, rv, ⟨o, n', ho, hc, _, hd⟩, _⟩ := I.list (.inl (.inl h3))
            obtain ⟨as, x, y⟩ := readsQ_all I (fun d p v u => readsQ I hr 8 d p v u) h4 e1 rv
            exact repr_listQ ho hc hd x y z1 hG (by omega) z3 z2 fun h' u tk hk => ⟨.str _, H, I.kept (t' := tk) hk, ⟨u, rfl⟩, q _ H (Step.refl r H) hr (.val (.str _))⟩
        · cases hp
      · cases hg
    · cases hg
end
end BW

set_option Elab.async false
set_option linter.all false
set_option maxRecDepth 100000
set_option maxHeartbeats 4000000
namespace BW
open PySem PySem.Spec PyProof.Rows L2
variable [Tb]
structure OC (K : PySem.W.Frag) (mg : Str → Option Value) (c : Str) (fs : List Str) : Prop where
  ex : ∃ C, mg c = some (.ref C) ∧ Cls K C ∧ ∀ f ∈ fs, NoAttr K C f
def putA (f : Str) (d : D) : List (Str × D) → List (Str × D)
  | [] => [(f, d)]
  | (g, x) :: r => if g = f then (g, d) :: r else (g, x) :: putA f d r
def evAttr (c f : Str) (fe : Ev) : Ev := fun e h => (fe e h).bind fun o h1 => match o with
  | .ref n => match h1[n]? with
    | some (.ins c' fs) => if c' = c then match fs.lookup f with
      | some d => .ok d h1
      | none => .stuck
      else .stuck
    | _ => .stuck
  | _ => .stuck
def svAttr (c f : Str) (fo fv : Ev) : Sv := fun e h => (pv fv e h).toFl e fun d h1 => (fo e h1).toFl e fun o h2 => match o with
  | .ref n => match h2[n]? with
    | some (.ins c' fs) => if c' = c ∧ fs.length ≤ 100 then .nx e (h2.set n (.ins c (putA f d fs))) else .stuck
    | _ => .stuck
  | _ => .stuck
def isI (h : AH) (c m : Str) (o : D) : Bool := match o with
  | .ref n => match h[n]? with
    | some (.ins c' fs) => decide (c' = c) && (fs.lookup m).isNone
    | _ => false
  | _ => false
def evMethI (c m : Str) (d : Fd) (fo : Ev) (fs : List Ev) : Ev := fun e h => (fo e h).bind fun o h1 => if isI h1 c m o then (evsV fs e h1).bind fun ds h2 => d (o :: ds) h2 else .stuck
section
variable {K : PySem.W.Frag} {mg : Str → Option Value} {r : List Addr} {H : Hp}
theorem RelF.get : ∀ {vs : List (Str × V)} {xs : List (Str × D)} {f : Str} {d : D}, RelF K mg r H vs xs → xs.lookup f = some d → ∃ v, vs.lookup f = some v ∧ Rel K mg r H v d
  | _, _, f, d, .nil, e => by cases e
  | _, _, f, d, .cons (k := k) h q, e => by
    simp only [List.lookup] at e ⊢
    cases z : f == k
    · rw [z] at e; simp only at e ⊢; exact RelF.get q e
    · rw [z] at e; simp only at e ⊢; cases e; exact ⟨_, rfl, h⟩
theorem RelF.none : ∀ {vs : List (Str × V)} {xs : List (Str × D)} {f : Str}, RelF K mg r H vs xs → xs.lookup f = none → vs.lookup f = none
  | _, _, f, .nil, e => rfl
  | _, _, f, .cons (k := k) h q, e => by
    simp only [List.lookup] at e ⊢
    cases z : f == k
    · rw [z] at e; simp only at e ⊢; exact RelF.none q e
    · rw [z] at e; cases e
theorem RelF.put {f : Str} {v : V} {d : D} (hv : Rel K mg r H v d) : ∀ {vs : List (Str × V)} {xs : List (Str × D)}, RelF K mg r H vs xs → RelF K mg r H (putF f v vs) (putA f d xs)
  | _, _, .nil => .cons hv .nil
  | _, _, .cons (k := k) h q => by
    unfold putF putA
    by_cases z : k = f
    · rw [if_pos z, if_pos z]; exact .cons hv q
    · rw [if_neg z, if_neg z]; exact .cons h (RelF.put hv q)
theorem RelF.length : ∀ {vs : List (Str × V)} {xs : List (Str × D)}, RelF K mg r H vs xs → vs.length = xs.length
  | _, _, .nil => rfl
  | _, _, .cons _ q => by rw [List.length_cons, List.length_cons, RelF.length q]
end
section
variable {X : Cx} {W : Wx}
theorem den_attr {c f : Str} {fs : List Str} {ex : Expr} {pos : Pos} {fe : Ev} (S : OC X.K X.mg c fs) (hf : f ∈ fs) (he : DenE X W ex fe) (hb : attributeBase ex f X.env (eval ex X.env) = eval ex X.env := by rfl) : DenE X W (.Attribute ex f pos) (evAttr c f fe) := by
  obtain ⟨C, hm, cl, na⟩ := S.ex
  refine PE.imp (pe_fld he hb) fun σ H Q ⟨r, e, h, er, hr, ok⟩ => ?_
  unfold evAttr at ok
  refine rdE_bind er hr ok fun o h1 v r1 H1 s1 hr1 t1 er1 ok1 => ?_
  split at ok1
  · rename_i n
    split at ok1
    · rename_i c' gs hd
      split at ok1
      · rename_i hcc
        subst hcc
        split at ok1
        · rename_i d hl
          cases t1 with
          | val t1 => cases t1 with
            | @ref n a hn =>
              obtain ⟨C', dx, vs, z1, z2, z3, z4, z5⟩ := hr1.obj _ _ _ hd hn
              rw [hm] at z1
              cases z1
              obtain ⟨u, y1, y2⟩ := z5.get hl
              exact ⟨a, C, dx, vs, u, rfl, z2, cl, na f hf, y1, ok1 _ r1 H1 (Step.refl _ _) hr1 (.val y2)⟩
        · exact ok1.elim
      · exact ok1.elim
    · exact ok1.elim
  · exact ok1.elim
theorem den_setattr {c f : Str} {fs : List Str} {o ex : Expr} {pos pos' : Pos} {fo fv : Ev} (S : OC X.K X.mg c fs) (hf : f ∈ fs) (ho : DenE X W o fo) (hv : DenE X W ex fv) (hs : swapsWith ex (some (.Attribute o f pos')) pos.line X.env = pure false := by rfl) : DenS X W (.Assign [.Attribute o f pos'] ex pos) (svAttr c f fo fv) := by
  obtain ⟨C, hm, cl, na⟩ := S.ex
  refine PS.imp (ps_fld ho (den_pv hv) hs) fun N σ H ⟨r, e, h, er, hr, ok⟩ => ?_
  unfold svAttr at ok
  refine rdV_bindS er hr ok fun d h1 v r1 H1 s1 hr1 t1 er1 ok1 => ?_
  refine rdE_bindS er1 hr1 ok1 fun o h2 w r2 H2 s2 hr2 t2 er2 ok2 => ?_
  split at ok2
  · rename_i n
    split at ok2
    · rename_i c' gs hi
      split at ok2
      · rename_i hcc
        obtain ⟨rfl, hl⟩ := hcc
        cases t2 with
        | val t2 => cases t2 with
          | @ref n a hn =>
            obtain ⟨C', dx, vs, z1, z2, z3, z4, z5⟩ := hr2.obj _ _ _ hi hn
            rw [hm] at z1
            cases z1
            have ha : a ∈ r2 := List.mem_of_getElem? hn
            have q := t1.mono s2.mn
            have st : Step r2 H2 r2 (upd H2 a (.ins C dx (putF f v vs))) := Step.mut ha (by rw [z2]; exact fun _ _ z => nomatch z)
            have hda : dx ≠ a := fun z => z4 (z ▸ ha)
            refine ⟨a, C, dx, vs, rfl, z2, cl, na f hf, by rw [z5.length]; omega, ?_⟩
            refine ok2 σ r2 _ st (er2.mono st.mn) (hr2.put hn ?_)
            exact ⟨C, dx, putF f v vs, hm, upd_same, by rw [upd_ne hda]; exact z3, z4, (z5.mono st.mn).put (q.mono st.mn)⟩
      · exact ok2.elim
    · exact ok2.elim
  · exact ok2.elim
end
end BW

set_option Elab.async false
set_option linter.all false
set_option maxRecDepth 100000
set_option maxHeartbeats 4000000
namespace BW
open PySem PySem.Spec PyProof.Rows L2
variable [Tb]
section
variable {X : Cx} {W : Wx}
end
end BW

set_option Elab.async false
set_option linter.all false
set_option maxRecDepth 100000
set_option maxHeartbeats 4000000
namespace BW
open PySem PySem.Spec PyProof.Rows L2
section
variable {prog : Program} {w : World} {A : Around} {s : Shared} {E : Value → Shared → Prop} {l : Addr} {xs : Array (Int × Tok)}
end
variable [Tb]
section
variable {X : Cx} {W : Wx}
end
section
variable {X : Cx} {W : Wx}
end
end BW

set_option Elab.async false
set_option linter.all false
set_option maxRecDepth 100000
set_option maxHeartbeats 4000000
namespace BW
open PySem PySem.Spec PyProof.Rows L2
section
variable {M : Model} {prog : Program} {w : World} {A : Around} {E : Value → Shared → Prop} {s : Shared} {K : PySem.W.Frag} {x C f L l : Addr} {ox : Obj} {od : Option Obj} {b : Value} {h₀ : Heap} {m : Str → Option Value}
theorem ifBound_objNe {args : List Value} {Q : Option Value → Shared → Prop} (X : K.In s.heap) (I : PySem.W.InstAt s.heap x ox C od) (hs : PySem.W.findIn K (.ref C) "__ne__" = some (some (.builtin "object.__ne__")))
    (h : wpAny M A (call (.builtin "object.__ne__") (.ref x :: args)) (fun v => Q (some v)) E s) : wpAny M A (callSpecialIfBound? (.ref x) "__ne__" args) Q E s := by
  simp only [callSpecialIfBound?, bindSpecialIfBound?]
  refine wpAny_holding (wpAny_bind (wpAny_bind (wpAny_bind (I.type.here ((PySem.W.looks_findIn X hs).here ?_)))))
  refine wpAny_bind (wpAny_askSetting (wpAny_ite ?_))
  have fin : wpAny M A (call (.builtin "object.__ne__") ([.ref x] ++ args) >>= fun v => pure (some v)) Q E s := wpAny_bind (wpAny_mono h (fun v s' h' => wpAny_pure h') fun _ _ h' => h')
  split
  · exact wpAny_bind (wpAny_of_eq (F.cmp_object.ne.bind _) (wpAny_pure (by exact fin)))
  · exact wpAny_tryCatch (wpAny_bind (wpAny_of_eq (F.cmp_object.ne.bind _) (wpAny_pure (by exact fin))))
theorem entry_objNe {Q : Fin → Shared → Prop} (X : K.In s.heap) (I : PySem.W.InstAt s.heap x ox C od) (hs : PySem.W.findIn K (.ref C) "__eq__" = some (some (.ref f))) (hf : PySem.W.isFn K (.ref f) = true) (hu : A.units < cLine)
    (hcall : wpAny M A (call (.ref f) [.ref x, b]) (fun v s' => ∃ k, v = .bool k ∧ Q (.done (.ret (.bool (!k)))) s') E s) :
    wpAny M A (Builtin.«object.__ne__» ⟨[.ref x, b], []⟩) Q E s := by
  unfold Builtin.«object.__ne__»
  repeat (first
    | with_reducible refine wpAny_cRoomFor hu ?_
    | (refine wpAny_bind (m := callSpecialIfBound? (.ref x) (Str.ofString "__eq__") [b])
        (PySem.W.ifBound_K X I hs hf (wpAny_mono hcall (fun r s' hr => by
          obtain ⟨k, rfl, hq⟩ := hr
          repeat (first | exact hq | exact wpAny_pure hq | exact wpAny_truthy_bool hq | (refine wpAny_bind (m := truthy (.bool _)) (wpAny_truthy_bool ?_)) | wp_step)) fun _ _ e => e)))
    | wp_step)
theorem call_objNe {Q : Value → Shared → Prop} (X : K.In s.heap) (I : PySem.W.InstAt s.heap x ox C od) (hm : PySem.W.mroIn K C (.type "object") = some true) (hs : PySem.W.findIn K (.ref C) "__eq__" = some (some (.ref f))) (hf : PySem.W.isFn K (.ref f) = true) (hu : A.in1.units < cLine)
    (hcall : wpAny (model prog w) A.in1 (call (.ref f) [.ref x, b]) (fun v s' => ∃ k, v = .bool k ∧ Q (.bool (!k)) s') E s) :
    wpAny (model prog w) A (call (.builtin "object.__ne__") [.ref x, b]) Q E s :=
  wpAny_call (codeAny_call_builtin F.cmp_object.ne.plain F.cmpEntry_ne (PySem.W.check_slot F.cmpKind_ne F.cmpSplit_ne (I.type.andThen (PySem.W.looks_mroIn X hm)) (F.cmpArgs_ne _ _) (entry_objNe X I hs hf hu (wpAny_mono hcall (fun v s' hv => by
    obtain ⟨k, rfl, hq⟩ := hv
    first | exact ⟨k, rfl, hq⟩ | exact ⟨k, rfl, wpAny_pure hq⟩) fun _ _ e => e))))
theorem ne_K {Q : Value → Shared → Prop} {y : Addr} {oy : Obj} {ody : Option Obj} (hu : A.units < cLine) (hu1 : A.in1.units < cLine) (X : K.In s.heap) (I : PySem.W.InstAt s.heap x ox C od) (J : PySem.W.InstAt s.heap y oy C ody)
    (hm : PySem.W.mroIn K C (.type "object") = some true) (hn : PySem.W.findIn K (.ref C) "__ne__" = some (some (.builtin "object.__ne__"))) (hs : PySem.W.findIn K (.ref C) "__eq__" = some (some (.ref f))) (hf : PySem.W.isFn K (.ref f) = true)
    (hcall : wpAny (model prog w) A.in1 (call (.ref f) [.ref x, .ref y]) (fun v s' => ∃ k, v = .bool k ∧ Q (.bool (!k)) s') E s) :
    wpAny (model prog w) A (richCompare .NotEq (.ref x) (.ref y)) Q E s := by
  have one : wpAny (model prog w) A (tryCompare (.ref x) "__ne__" (.ref y)) (fun r s' => ∃ v, r = some v ∧ Q v s') E s := by
    unfold tryCompare
    refine wpAny_bind (ifBound_objNe X I hn (call_objNe X I hm hs hf hu1 (wpAny_mono hcall (fun v s' hv => ?_) fun _ _ e => e)))
    obtain ⟨k, rfl, hq⟩ := hv
    exact ⟨k, rfl, wpAny_pure ⟨_, rfl, hq⟩⟩
  unfold richCompare
  simp only [oneThing_ref, cmpInfo_NotEq]
  refine wpAny_holding (wpAny_bind (wpAny_cRoomFor hu ?_))
  refine wpAny_bind (I.type.here (wpAny_bind (J.type.here ?_)))
  rw [show (Value.ref C != Value.ref C) = false from by simp]
  simp only [Bool.false_eq_true, if_false]
  refine wpAny_bind (wpAny_pure ?_)
  simp only [Bool.false_eq_true, if_false]
  refine wpAny_bind (wpAny_mono one (fun r s' z => ?_) fun _ _ e => e)
  obtain ⟨v, rfl, hq⟩ := z
  exact wpAny_pure hq
theorem list_declines (X : K.In s.heap) (I : PySem.W.InstAt s.heap x ox C od) (hm : PySem.W.mroIn K C (.type "list") = some false) {Q : Fin → Shared → Prop} (hq : Q (.done (.ret .notImplemented)) s) :
    wpAny (model prog w) A (Builtin.«list.__eq__» ⟨[.ref l, .ref x], []⟩) Q E s := by
  have isi : ∀ {Q : Bool → Shared → Prop}, Q false s → wpAny (model prog w) A (isInstance (.ref x) (.type "list")) Q E s := fun {Q} h => by
    unfold isInstance
    exact wpAny_bind (I.type.here ((PySem.W.looks_mroIn X hm).here h))
  obtain ⟨hp, g, d, tk, os⟩ := s
  wp_walk using isi
  exact hq
end
structure EqC (K : PySem.W.Frag) (mg : Str → Option Value) (c : Str) : Prop where
  ex : ∃ C, mg c = some (.ref C) ∧ SlX.SCls K C ∧ SlX.SIsi K C ∧ PySem.W.findIn K (.ref C) "__ne__" = some (some (.builtin "object.__ne__")) ∧ PySem.W.mroIn K C (.type "list") = some false ∧
    ∀ t ∈ ["NoneType", "bool", "int", "str", "tuple", "list", "dict"], PySem.W.kitOne K (.type t) (.ref C) = some false
theorem kit7 {p : String → Prop} (a : p "NoneType") (b : p "bool") (c : p "int") (d : p "str") (e : p "tuple") (f : p "list") (g : p "dict") : ∀ t ∈ ["NoneType", "bool", "int", "str", "tuple", "list", "dict"], p t := fun t m => by
  simp only [List.mem_cons, List.not_mem_nil, or_false] at m
  rcases m with rfl | rfl | rfl | rfl | rfl | rfl | rfl
  · exact a
  · exact b
  · exact c
  · exact d
  · exact e
  · exact f
  · exact g
section
variable {X : Cx}
theorem notFirst_self {K : PySem.W.Frag} {C : Addr} : PySem.W.notFirst K C (.ref C) = true := by
  unfold PySem.W.notFirst
  simp
def rNeO (C : Addr) (sp : Sp) (E : XK) : R2 := fun x y H Q => ∃ a dx vs b dy ws, x = .ref a ∧ y = .ref b ∧ SlX.Slt H a C dx vs ∧ SlX.Slt H b C dy ws ∧ sp [x, y] H (fun z H' => ∃ k, z = .bl k ∧ Q (.bl (!k)) H') E
theorem op_neO {CX : CXT} {C g : Addr} {n : Nat} {sp : Sp} {E : XK} (hm : PySem.W.mroIn X.K C (.type "object") = some true) (hn : PySem.W.findIn X.K (.ref C) "__ne__" = some (some (.builtin "object.__ne__"))) (hs : PySem.W.findIn X.K (.ref C) "__eq__" = some (some (.ref g))) (hf : PySem.W.isFn X.K (.ref g) = true) (F : FnR X.prog X.w X.K X.mg X.base CX n g sp)
    (hr : Room (n + 1) X.A) (hx : Passes CX X E) : OpR X (compareOp .NotEq) (rNeO C sp E) := by
  intro pins s σ H x y v u Q I rx ry h
  obtain ⟨a, dx, vs, b, dy, ws, rfl, rfl, ha, hb, q⟩ := h
  cases (show v = Value.ref a from rx)
  cases (show u = Value.ref b from ry)
  obtain ⟨sl, od, _, J, _⟩ := SlX.slt_inst I ha
  obtain ⟨sl', od', _, J', _⟩ := SlX.slt_inst I hb
  have hr1 : Room n X.A.in1 := Room.in1 hr
  refine ne_K hr.units0 hr1.units0 I.kIn J J' hm hn hs hf ?_
  refine wpAny_mono (wpAny_call (SlX.run_at (us := [.ref a, .ref b]) (ws := [.ref a, .ref b]) F hr1 I.env0.in1 hx I (.cons rfl (.cons rfl .nil)) q)) (fun w s' z => ?_) fun _ _ x => x
  obtain ⟨z', H', I', rz, k, rfl, qz⟩ := z
  cases (show w = Value.bool k from rz)
  exact ⟨k, rfl, .bl (!k), H', I', rfl, qz⟩
end
section
variable [Tb]
def evNeO (c : Str) (d : Fd) (f g : Ev) : Ev := fun e h => (f e h).bind fun o h1 => (g e h1).bind fun y h2 =>
  if isC h2 c o && isC h2 c y then (d [o, y] h2).bind fun v h3 => match v with
    | .bl b => .ok (.bl (!b)) h3
    | _ => .stuck
  else .stuck
variable {X : Cx} {W : Wx}
theorem den_tneO {c : Str} {k j : Nat} {d : Fd} {a b : Expr} {pos : Pos} {fa fb : Ev} (S : EqC X.K X.mg c) (M : Mt X.prog X.w X.K X.mg X.base c "__eq__" k 2 d) (hr : Room j X.A) (tk : Takes X W) (hc : Wc W) (ha : DenE X W a fa) (hb : DenE X W b fb) (hjk : k + 1 ≤ j := by decide) (hm : behindInMarks .NotEq b = false := by first | exact nomark _ | rfl) :
    DenT X W (.Compare a [.NotEq] [b] pos) (tvOf (evNeO c d fa fb)) := by
  obtain ⟨C, hmg, sc, si, hne, hl, hk⟩ := S.ex
  obtain ⟨C', g, hm', me, F⟩ := M
  rw [hmg] at hm'
  cases hm'
  refine PT.imp (pt_cmpR (op_neO si.cm hne me.at_ me.fn F (hr.mono hjk) (passesW tk hc)) ha hb hm) fun σ H Q q0 => ?_
  have q1 : tB (rdE X.K X.mg W (evNeO c d fa fb)) σ H Q := rdT_of q0
  obtain ⟨r, e, h, er, hrel, ok⟩ := q1
  unfold evNeO at ok
  refine rdE_bind er hrel ok fun o h1 v r1 H1 s1 hr1 t1 er1 ok1 => ?_
  refine rdE_bind er1 hr1 ok1 fun y h2 u r2 H2 s2 hr2 t2 er2 ok2 => ?_
  have t1' := (t1.mono s2).u
  split at ok2
  · rename_i z
    rw [Bool.and_eq_true] at z
    obtain ⟨a', dx, vs, rfl, z1, z2⟩ := isC_ok hr2 hmg t1' z.1
    obtain ⟨b', dy, ws, rfl, y1, y2⟩ := isC_ok hr2 hmg t2.u z.2
    refine ⟨a', dx, vs, b', dy, ws, rfl, rfl, z1, y1, r2, h2, [o, y], hr2, .cons z2 (.cons y2 .nil), rfl, ?_⟩
    cases hd : d [o, y] h2 with
    | stuck => rw [hd] at ok2; exact ok2
    | exc y h4 => rw [hd] at ok2; exact fun cc dd r' H' s' hr' t => ⟨σ, ok2 cc dd r' H' s' hr' t⟩
    | ok w h4 =>
      rw [hd, Out.bind_ok] at ok2
      intro v r' H' s' hr' t
      cases w with
      | bl k =>
        cases t
        exact ⟨k, rfl, ok2 _ r' H' s' hr' (.val (.bl _))⟩
      | _ => exact ok2.elim
  · exact ok2.elim
end
end BW

set_option Elab.async false
set_option linter.all false
set_option maxRecDepth 100000
set_option maxHeartbeats 4000000
namespace BW
open PySem PySem.Spec PyProof.Rows L2
mutual
def D.py : D → Option PyData
  | .bl b => some (.bool b)
  | .int i => some (.int i)
  | .str x => some (.str x)
  | .tup xs => (D.pys xs).map .tuple
  | _ => none
def D.pys : List D → Option (List PyData)
  | [] => some []
  | x :: xs => (D.py x).bind fun p => (D.pys xs).map fun ps => p :: ps
end
section
variable [Tb]
variable {X : Cx} {pins : List (Addr × Obj)} {σ : L2.St} {H : Hp} {s : Shared} {r : List Addr}
mutual
theorem py_reads (I : Inv X pins σ H s) : ∀ {d : D} {p : PyData} {v : V} {u : Value}, d.py = some p → Rel X.K X.mg r H v d → RelV v u → ∃ as, Reads s.heap u p as
  | .bl b, p, v, u, e, q, rv => by simp only [D.py, Option.some.injEq] at e; subst e; cases q; cases rv; exact ⟨_, .bool b⟩
  | .int i, p, v, u, e, q, rv => by simp only [D.py, Option.some.injEq] at e; subst e; cases q; obtain ⟨t, rfl⟩ := rv; exact ⟨_, .int i t⟩
  | .str x, p, v, u, e, q, rv => by simp only [D.py, Option.some.injEq] at e; subst e; cases q; obtain ⟨t, rfl⟩ := rv; exact ⟨_, .str x t⟩
  | .tup xs, p, v, u, e, q, rv => by
    simp only [D.py, Option.map_eq_some_iff] at e
    obtain ⟨ps, e1, rfl⟩ := e
    cases q with
    | tup h1 h2 =>
      cases rv
      obtain ⟨its, rv, ⟨o, ho, hc, n', hd⟩, _⟩ := I.tuple h1.sq
      obtain ⟨as, x⟩ := pys_reads I e1 h2 rv
      exact ⟨_, .tuple ho hc hd x⟩
  | .non, p, v, u, e, q, rv => by simp [D.py] at e
  | .tl _, p, v, u, e, q, rv => by simp [D.py] at e
  | .rl _, p, v, u, e, q, rv => by simp [D.py] at e
  | .ref _, p, v, u, e, q, rv => by simp [D.py] at e
  | .exc _ _, p, v, u, e, q, rv => by simp [D.py] at e
  | .kt _, p, v, u, e, q, rv => by simp [D.py] at e
theorem pys_reads (I : Inv X pins σ H s) : ∀ {ds : List D} {ps : List PyData} {vs : List V} {us : List Value}, D.pys ds = some ps → Rels X.K X.mg r H vs ds → Vals vs us → ∃ as, ReadsAll s.heap us ps as
  | [], ps, vs, us, e, q, rv => by
    simp only [D.pys, Option.some.injEq] at e
    subst e
    cases q
    cases rv
    exact ⟨_, .nil⟩
  | d :: ds, ps, vs, us, e, q, rv => by
    simp only [D.pys, Option.bind_eq_some_iff, Option.map_eq_some_iff] at e
    obtain ⟨p, e1, ps', e2, rfl⟩ := e
    cases q with
    | cons h1 h2 =>
      cases rv with
      | cons r1 r2 =>
        obtain ⟨as, x⟩ := py_reads I e1 h1 r1
        obtain ⟨bs, y⟩ := pys_reads I e2 h2 r2
        exact ⟨_, .cons x y⟩
end
end
end BW

set_option Elab.async false
set_option linter.all false
set_option maxRecDepth 100000
set_option maxHeartbeats 4000000
namespace BW
open PySem PySem.Spec PyProof.Rows L2
section
variable [Tb]
variable {X : Cx} {W : Wx}
end
end BW

set_option Elab.async false
set_option linter.all false
namespace BS
open PySem PySem.Spec PyProof.Rows L2
def Msk (m : Nat) : Prop := ∃ n, 3 ≤ n ∧ n ≤ 13 ∧ m + 1 = 2 ^ n
def gs : Nat → Nat
  | 0 => 0
  | k + 1 => 5 * gs k + 1
structure Tab (t : SetTable) (hs : List Int) : Prop where
  inc : Ris t.place.toList
  nod : t.dummies = #[]
  len : t.place.toList.length = hs.length
  msk : Msk t.mask
  bd : ∀ x ∈ t.place.toList, x ≤ t.mask
  path : ∀ (i : Nat) (h : Int) (j : Nat), hs[i]? = some h → t.place.toList[i]? = some j → ∃ k, way t.mask h k = j ∧ ∀ c, c < k → way t.mask h c ∈ t.place.toList
end BS

set_option Elab.async false
set_option linter.all false
set_option maxRecDepth 100000
set_option maxHeartbeats 4000000
namespace BS
open PySem PySem.Spec PyProof.Rows L2
abbrev spot (m : Nat) (h : Int) (c : Nat) : SetTable.Probe := nth m (runAt m (SetTable.bits h % (m + 1)) (SetTable.bits h)) c
section
variable {P : Program} {w : World} {A : Around} {E : Value → Shared → Prop} {s : Shared}
variable {a : Addr} {L : List (Addr × List Int)} {es : Array (Int × Value)} {ep : Nat} {t : SetTable}
end
end BS

set_option Elab.async false
set_option linter.all false
set_option maxRecDepth 100000
set_option maxHeartbeats 4000000
namespace BS
open PySem PySem.Spec PyProof.Rows L2
section
variable {P : Program} {w : World} {A : Around} {E : Value → Shared → Prop} {s : Shared}
end
end BS

set_option Elab.async false
set_option linter.all false
set_option maxRecDepth 100000
set_option maxHeartbeats 4000000
namespace BW
open PySem PySem.Spec PyProof.Rows L2
section
variable {X : Cx}
end
section
variable [Tb]
variable {X : Cx} {W : Wx}
end
end BW

set_option Elab.async false
set_option linter.all false
set_option maxRecDepth 100000
set_option maxHeartbeats 4000000
namespace BW
open PySem PySem.Spec PyProof.Rows L2
section
variable [Tb]
variable {X : Cx}
end
end BW

set_option Elab.async false
set_option linter.all false
set_option maxRecDepth 100000
set_option maxHeartbeats 4000000
namespace BW
open PySem PySem.Spec PyProof.Rows L2
section
variable {X : Cx}
variable {a b c d : Expr} {ta tb tc td : TE} {pos : Pos}
end
section
variable [Tb]
variable {X : Cx} {W : Wx}
end
end BW

set_option Elab.async false
set_option linter.all false
set_option maxRecDepth 100000
set_option maxHeartbeats 4000000
namespace BW
open PySem PySem.Spec PyProof.Rows L2
section
variable [Tb]
variable {X : Cx} {W : Wx}
theorem pe_methR0 {CX : CXT} {k : Nat} {C f : Addr} {m : Str} {sp : Sp} {E : XK} {o : Expr} {ta : TE} {apos pos : Pos} {pl : Sem Bool} (he : PE X o ta) (c : Cls X.K C) (hm : Meth X.K C m f)
    (F : FnR X.prog X.w X.K X.mg X.base CX k f sp) (hr : Room k X.A) (hx : Passes CX X E)
    (ht : eval (.Call (.Attribute o m apos) [] [] pos) X.env = (do
      let zo ← eval o X.env
      standAt apos.atName
      let (zf, z1) ← holding [zo] (getMethod zo m pl)
      callWith pos zf z1 (backTo pos (starEach [] X.env)) (backToKw pos (keywordEach [] X.env))) := by rfl) :
    PE X (.Call (.Attribute o m apos) [] [] pos) (tMethR C m sp E ta tNil) := by
  refine ⟨fun pins s σ H Q I h => ?_⟩
  refine PySem.W.methodCall_KW (pl := pl) (thn (he.run pins s σ H _ I h) fun u s1 ⟨x, H1, I1, rx, a, dx, fs, ex, ea, l, q⟩ => ?_) ht
  subst ex
  obtain rfl : u = Value.ref a := rx
  refine getmeth_ok I1 ea c hm l ?_
  exact PySem.W.callWith_K0 (first := [.ref a]) I1.kIn hm.kp (wpAny_call (run_fnR (us := [.ref a]) (vs := [.ref a]) F hr hx I1 (.cons rfl .nil) q))
theorem den_methI0 {c m : Str} {fs0 : List Str} {k j : Nat} {d : Fd} {o : Expr} {apos pos : Pos} {fo : Ev} {pl : Sem Bool} (S : OC X.K X.mg c fs0) (M : Mt X.prog X.w X.K X.mg X.base c m k 1 d) (hr : Room j X.A) (tk : Takes X W) (hc : Wc W) (ho : DenE X W o fo) (hjk : k ≤ j := by decide)
    (ht : eval (.Call (.Attribute o m apos) [] [] pos) X.env = (do
      let zo ← eval o X.env
      standAt apos.atName
      let (zf, z1) ← holding [zo] (getMethod zo m pl)
      callWith pos zf z1 (backTo pos (starEach [] X.env)) (backToKw pos (keywordEach [] X.env))) := by rfl) :
    DenE X W (.Call (.Attribute o m apos) [] [] pos) (evMethI c m d fo []) := by
  obtain ⟨C, hm, cl, na⟩ := S.ex
  obtain ⟨C', g, hm', me, F⟩ := M
  rw [hm] at hm'
  cases hm'
  refine PE.imp (pe_methR0 (pl := pl) ho cl me F (hr.mono hjk) (passesW tk hc) ht) fun σ H Q ⟨r, e, h, er, hrel, ok⟩ => ?_
  unfold evMethI at ok
  refine rdE_bind er hrel ok fun o h1 v r1 H1 s1 hr1 t1 er1 ok1 => ?_
  split at ok1
  · rename_i hi
    unfold isI at hi
    split at hi
    · rename_i n0
      split at hi
      · rename_i c' gs hg
        obtain ⟨y1, y2⟩ := Bool.and_eq_true_iff.mp hi
        have y1 := of_decide_eq_true y1
        subst y1
        cases t1 with
        | val t1 => cases t1 with
          | @ref n0 a hn0 =>
            obtain ⟨C', dx, vs, z1, z2, z3, z4, z5⟩ := hr1.obj _ _ _ hg hn0
            rw [hm] at z1
            cases z1
            refine ⟨a, dx, vs, rfl, z2, z5.none (Option.isNone_iff_eq_none.mp y2), ?_⟩
            have e0 : evsV [] e h1 = .ok [] h1 := rfl
            rw [e0, Out.bind_ok] at ok1
            refine ⟨r1, h1, [.ref n0], hr1, .cons (.ref hn0) .nil, rfl, ?_⟩
            cases hd : d [.ref n0] h1 with
            | stuck => rw [hd] at ok1; exact ok1
            | exc y h4 => rw [hd] at ok1; exact fun cc dd r' H' s' hr' t => ⟨σ, ok1 cc dd r' H' s' hr' t⟩
            | ok y h4 => rw [hd] at ok1; exact fun v r' H' s' hr' t => ok1 v r' H' s' hr' (.val t)
      · cases hi
    · cases hi
  · exact ok1.elim
end
end BW

set_option Elab.async false
set_option linter.all false
set_option maxRecDepth 100000
set_option maxHeartbeats 4000000
namespace BW
open PySem PySem.Spec PyProof.Rows L2
section
variable [Tb]
variable {X : Cx}
end
end BW

set_option Elab.async false
set_option linter.all false
set_option maxRecDepth 100000
set_option maxHeartbeats 4000000
namespace BW
open PySem PySem.Spec PyProof.Rows L2
section
variable {X : Cx}
end
section
variable [Tb] {X : Cx} {W : Wx}
end
end BW

set_option Elab.async false
set_option linter.all false
set_option maxRecDepth 100000
set_option maxHeartbeats 4000000
namespace BW
open PySem PySem.Spec PyProof.Rows L2 GenW
section
variable {X : Cx}
section
variable {prog : Program} {w : World} {A : Around} {R : GenEnd} {Y : Protocol} {n : Nat} {s0 : Shared} {fs : List Frame} {s : Shared} {env : PySem.Env} {tg : Expr} {it : Value} {body : List Stmt}
end
end
end BW

set_option Elab.async false
set_option linter.all false
set_option maxRecDepth 100000
set_option maxHeartbeats 4000000
namespace BW
open PySem PySem.Spec PyProof.Rows L2 GenW
variable [Tb]
section
variable (K : PySem.W.Frag) (mg : Str → Option Value)
end
section
variable {X : Cx} {W : Wx}
end
end BW

set_option Elab.async false
set_option linter.all false
set_option maxRecDepth 100000
set_option maxHeartbeats 4000000
namespace BW
open PySem PySem.Spec PyProof.Rows L2 GenW
variable [Tb]
section
variable (K : PySem.W.Frag) (mg : Str → Option Value)
end
section
variable {K : PySem.W.Frag} {mg : Str → Option Value} {P : Program} {w : World} {base : Heap}
end
section
variable {X : Cx} {W : Wx}
end
end BW

set_option Elab.async false
set_option linter.all false
set_option maxRecDepth 100000
set_option maxHeartbeats 4000000
namespace BW
open PySem PySem.Spec PyProof.Rows L2
section
variable [Tb]
variable {X : Cx}
end
end BW

set_option Elab.async false
set_option linter.all false
set_option maxRecDepth 100000
set_option maxHeartbeats 4000000
namespace BW
open PySem PySem.Spec PyProof.Rows L2
variable [Tb]
def gvAttr (c f : Str) (fo : Ev) : Gv := fun d e h => match fo e h with
  | .ok o h1 => match o with
    | .ref n => match h1[n]? with
      | some (.ins c' fs) => if c' = c ∧ fs.length ≤ 100 then .ok e (h1.set n (.ins c (putA f d fs))) else .stuck
      | _ => .stuck
    | _ => .stuck
  | _ => .stuck
section
variable {X : Cx} {W : Wx}
theorem pg_fld {o : Expr} {f : Str} {pos : Pos} {to : TE} (ho : PE X o to) : PG X (.Attribute o f pos) (fun v σ H Q => to σ H fun x H1 => ∃ a C dx fs, x = .ref a ∧ H1 a = some (.ins C dx fs) ∧ Cls X.K C ∧ NoAttr X.K C f ∧ fs.length < 1000 ∧ Q σ (upd H1 a (.ins C dx (putF f v fs)))) := by
  refine ⟨fun pins s σ H v u Q I r h => ?_⟩
  rw [assign_Attribute]
  refine wpAny_bind (wpAny_holding (thn (ho.run pins s σ H _ I h) fun ov s1 ⟨x, H1, I1, rx, a, C, dx, fs, ex, ea, c, n, l, q⟩ => ?_))
  subst ex
  obtain rfl : ov = Value.ref a := rx
  refine wpAny_bind (wpAny_standAt (wpAny_bind (wpAny_holding (setattr_ok I1 ea c n l r fun s3 I3 => ?_))))
  exact wpAny_release ⟨σ, _, I3, q⟩
theorem den_gattr {c f : Str} {fs : List Str} {o : Expr} {pos : Pos} {fo : Ev} (S : OC X.K X.mg c fs) (hf : f ∈ fs) (ho : DenE X W o fo) : DenG X (.Attribute o f pos) (gvAttr c f fo) := by
  obtain ⟨C, hm, cl, na⟩ := S.ex
  refine PG.imp (pg_fld ho) fun v σ H Q ⟨r, e, h, d, er, hr, q, ok⟩ => ?_
  unfold gvAttr at ok
  refine ⟨r, e, h, er, hr, ?_⟩
  cases hfo : fo e h with
  | stuck => rw [hfo] at ok; exact ok.elim
  | exc => rw [hfo] at ok; exact ok.elim
  | ok o h1 =>
    rw [hfo] at ok
    dsimp only at ok
    refine fun v1 r1 H1 s1 hr1 t1 => ?_
    split at ok
    · rename_i n
      split at ok
      · rename_i c' gs hi
        split at ok
        · rename_i hcc
          obtain ⟨rfl, hl⟩ := hcc
          cases t1 with
          | val t1 => cases t1 with
            | @ref n a hn =>
              obtain ⟨C', dx, vs, z1, z2, z3, z4, z5⟩ := hr1.obj _ _ _ hi hn
              rw [hm] at z1
              cases z1
              have ha : a ∈ r1 := List.mem_of_getElem? hn
              have q1 := q.mono s1.mn
              have st : Step r1 H1 r1 (upd H1 a (.ins C dx (putF f v vs))) := Step.mut ha (by rw [z2]; exact fun _ _ z => nomatch z)
              have hda : dx ≠ a := fun z => z4 (z ▸ ha)
              refine ⟨a, C, dx, vs, rfl, z2, cl, na f hf, by rw [z5.length]; omega, ?_⟩
              refine ok σ r1 _ (s1.trans st) ((er.mono s1.mn).mono st.mn) (hr1.put hn ?_)
              exact ⟨C, dx, putF f v vs, hm, upd_same, by rw [upd_ne hda]; exact z3, z4, (z5.mono st.mn).put (q1.mono st.mn)⟩
        · exact ok.elim
      · exact ok.elim
    · exact ok.elim
end
section
variable {P : Program} {w : World} {K : PySem.W.Frag} {mg : Str → Option Value} {base : Heap}
end
section
variable {X : Cx} {W : Wx}
end
end BW

set_option Elab.async false
set_option linter.all false
set_option maxRecDepth 100000
set_option maxHeartbeats 4000000
namespace BW
open PySem PySem.Spec PyProof.Rows L2
variable [Tb]
section
variable {X : Cx} {W : Wx}
end
end BW

set_option Elab.async false
set_option linter.all false
set_option maxRecDepth 100000
set_option maxHeartbeats 4000000
namespace BW
open PySem PySem.Spec PyProof.Rows L2
variable [Tb]
section
variable {X : Cx}
end
end BW

set_option Elab.async false
set_option linter.all false
set_option maxRecDepth 100000
set_option maxHeartbeats 4000000
namespace BW
open PySem PySem.Spec PyProof.Rows L2
variable [Tb]
section
variable {X : Cx} {W : Wx}
end
end BW

set_option Elab.async false
set_option linter.all false
set_option maxRecDepth 100000
set_option maxHeartbeats 4000000
namespace BW
open PySem PySem.Spec PyProof.Rows L2
variable [Tb]
section
variable {X : Cx} {W : Wx}
end
end BW

set_option Elab.async false
set_option linter.all false
set_option maxRecDepth 100000
set_option maxHeartbeats 4000000
namespace BW
open PySem PySem.Spec PyProof.Rows L2
variable [Tb]
section
variable {X : Cx} {W : Wx}
end
end BW

set_option Elab.async false
set_option linter.all false
set_option maxRecDepth 100000
set_option maxHeartbeats 4000000
namespace PySem
open Sem (wp)
section
variable {prog : Program} {w : World} {A : Around} {E : Value → Shared → Prop} {s : Shared}
end
section
variable {prog : Program} {w : World} {A : Around} {E : Value → Shared → Prop} {s : Shared}
end
end PySem
namespace BW
open PySem PySem.Spec PyProof.Rows L2 GenW
variable [Tb]
section
variable {X : Cx} {W : Wx}
end
end BW

set_option Elab.async false
set_option linter.all false
set_option maxRecDepth 100000
set_option maxHeartbeats 4000000
namespace BW
open PySem PySem.Spec PyProof.Rows L2
variable [Tb]
def bReprT (h : AH) (ds : List D) : Option D := match bReprQ h ds with
  | some d => some d
  | none => match ds with
    | [.tup xs] => (allK (dataQ h 8) xs).bind fun ps => if (PyData.tuple ps).showable && decide ((PyData.tuple ps).shown.length ≤ sizeLine) && decide ((PyData.tuple ps).depth ≤ 40) then some (.str (PyData.tuple ps).shown) else none
    | _ => none
section
variable {X : Cx} {W : Wx} {pins : List (Addr × Obj)} {σ : L2.St} {H : Hp} {s : Shared} {r : List Addr} {h : AH}
theorem repr_tupQ {prog : Program} {w : World} {A : Around} {E : Value → Shared → Prop} {s : Shared} {Q : Value → Shared → Prop} {a : Addr} {o : Obj} {vs : Array Value} {n : Nat} {ps : List PyData} {as : List Addr}
    (g1 : s.heap.get? a = some o) (g2 : o.cls = .type "tuple") (g3 : o.data = .seq vs n) (g4 : ReadsAll s.heap vs.toList ps as) (ns : sysModules ∉ as) (sh : (PyData.tuple ps).showable = true) (hG : A.guards = some []) (hu : A.units + 50 < cLine) (dp : (PyData.tuple ps).depth ≤ 40) (sz : (PyData.tuple ps).shown.length ≤ sizeLine)
    (k : ∀ h' u tk, (∀ b ob, s.heap.get? b = some ob → h'.get? b = some ob) → Q (.str (PyData.tuple ps).shown u) { s with heap := h', toks := tk }) : wpAny (model prog w) A (call (.builtin "repr") [.ref a]) Q E s := by
  have z' : (tupleText (PyData.shownAll ps)).length ≤ sizeLine := by simpa only [PyData.shown] using sz
  have sh' := sh
  simp only [PyData.showable] at sh'
  obtain ⟨bs, hb, hk⟩ := ReprAllK.of_readsAll (prog := prog) (w := w) g4 sh' (fun _ => ns) fun t ht => Nat.le_trans (tupleText_mem_le ht) z'
  have na : a ∉ bs := not_mem_of_deeper (Reads.tuple g1 g2 g3 g4) (by simp only [PyData.depth]; omega) hb
  simp only [PyData.depth] at dp
  simp only [PyData.shown] at k
  refine call_repr_slot (by omega) (T := "tuple") (idr := "tuple.__repr__") ⟨o, g1, g2⟩ F.slot_tuple_repr ?_
  exact call_tuple_reprK (h₀ := s.heap) g1 g2 g3 na hk hG (fun b _ => Clear.nil b) (by show A.units + 1 + _ < cLine; omega) (fun b ob e => e) (fun h' u tk q => ⟨_, _, rfl, k h' u tk q⟩) z'
theorem cd_reprT (hu : X.A.units + 64 < cLine) (hG : X.A.guards = some []) : CallD X (.builtin "repr") bReprT := fun pins s σ H xs us Q I rv q => by
  obtain ⟨r, h, ds, d, hr, ts, hg, q⟩ := q
  unfold bReprT at hg
  split at hg
  · rename_i d' hb
    cases hg
    exact cd_reprQ hu hG pins s σ H xs us Q I rv ⟨r, h, ds, d, hr, ts, hb, q⟩
  · split at hg
    · rename_i d0
      simp only [Option.bind_eq_some_iff] at hg
      obtain ⟨ps, e1, hg⟩ := hg
      split at hg
      · rename_i hz
        cases hg
        obtain ⟨hz, z3⟩ := Bool.and_eq_true_iff.mp hz
        obtain ⟨z1, z2⟩ := Bool.and_eq_true_iff.mp hz
        have z2 := of_decide_eq_true z2
        have z3 := of_decide_eq_true z3
        obtain ⟨v, rfl, t⟩ := ts.one
        obtain ⟨a, vs, rfl, h3, h4⟩ := t.tup_inv
        cases rv with
        | cons ru rr =>
          cases rr
          cases ru
          obtain ⟨its, rv, ⟨o, ho, hc, n', hd⟩, _⟩ := I.tuple h3.sq
          obtain ⟨as, x, y⟩ := readsQ_all I (fun d p v u => readsQ I hr 8 d p v u) h4 e1 rv
          exact repr_tupQ ho hc hd x y z1 hG (by omega) z3 z2 fun h' u tk hk => ⟨.str _, H, I.kept (t' := tk) hk, ⟨u, rfl⟩, q _ H (Step.refl r H) hr (.val (.str _))⟩
      · cases hg
    · cases hg
end
end BW

set_option Elab.async false
set_option linter.all false
set_option maxRecDepth 100000
set_option maxHeartbeats 4000000
namespace BW
open PySem PySem.Spec PyProof.Rows L2
variable [Tb]
section
variable {X : Cx} {W : Wx} {pins : List (Addr × Obj)} {σ : L2.St} {H : Hp} {s : Shared} {r : List Addr} {h : AH}
mutual
theorem py_reads0 (I : Inv X pins σ H s) : ∀ {d : D} {p : PyData} {v : V} {u : Value}, d.py = some p → Rel X.K X.mg r H v d → RelV v u → Reads s.heap u p []
  | .bl b, p, v, u, e, q, rv => by simp only [D.py, Option.some.injEq] at e; subst e; cases q; cases rv; exact .bool b
  | .int i, p, v, u, e, q, rv => by simp only [D.py, Option.some.injEq] at e; subst e; cases q; obtain ⟨t, rfl⟩ := rv; exact .int i t
  | .str x, p, v, u, e, q, rv => by simp only [D.py, Option.some.injEq] at e; subst e; cases q; obtain ⟨t, rfl⟩ := rv; exact .str x t
  | .tup xs, p, v, u, e, q, rv => by
    simp only [D.py, Option.map_eq_some_iff] at e
    obtain ⟨ps, e1, rfl⟩ := e
    cases q with
    | tup h1 h2 =>
      cases rv
      obtain ⟨its, rv, ⟨o, ho, hc, n', hd⟩, _⟩ := I.tuple h1.sq
      exact .tuple ho hc hd (pys_reads0 I e1 h2 rv)
  | .non, p, v, u, e, q, rv => by simp [D.py] at e
  | .tl _, p, v, u, e, q, rv => by simp [D.py] at e
  | .rl _, p, v, u, e, q, rv => by simp [D.py] at e
  | .ref _, p, v, u, e, q, rv => by simp [D.py] at e
  | .exc _ _, p, v, u, e, q, rv => by simp [D.py] at e
theorem pys_reads0 (I : Inv X pins σ H s) : ∀ {ds : List D} {ps : List PyData} {vs : List V} {us : List Value}, D.pys ds = some ps → Rels X.K X.mg r H vs ds → Vals vs us → ReadsAll s.heap us ps []
  | [], ps, vs, us, e, q, rv => by
    simp only [D.pys, Option.some.injEq] at e
    subst e
    cases q
    cases rv
    exact .nil
  | d :: ds, ps, vs, us, e, q, rv => by
    simp only [D.pys, Option.bind_eq_some_iff, Option.map_eq_some_iff] at e
    obtain ⟨p, e1, ps', e2, rfl⟩ := e
    cases q with
    | cons h1 h2 =>
      cases rv with
      | cons r1 r2 => exact .cons (py_reads0 I e1 h1 r1) (pys_reads0 I e2 h2 r2)
end
end
end BW

set_option Elab.async false
set_option linter.all false
set_option maxRecDepth 100000
set_option maxHeartbeats 4000000
namespace BW
open PySem PySem.Spec PyProof.Rows L2
variable [Tb]
section
variable {X : Cx} {W : Wx}
end
end BW

set_option Elab.async false
set_option linter.all false
set_option maxRecDepth 100000
set_option maxHeartbeats 4000000
namespace BW
open PySem PySem.Spec PyProof.Rows L2 GenW
variable [Tb]
end BW

set_option Elab.async false
set_option linter.all false
set_option maxRecDepth 100000
set_option maxHeartbeats 4000000
namespace BW
open PySem
section
open PySem.W PySem.Calls PySem.PX Builtin Builtin.ObjectAttr
section
variable {M : Model} {A : Around} {E : Value → Shared → Prop} {h : Heap} {g : Array GenState} {d : Drawn} {t : Nat} {os : OsState}
variable {nm q : Str} {C N : Addr} {bs bm bmB : List Value} {hdct : Bool} {sn : List Str} {sub : List Value} {ab : Bool} {col : Option Bool} {dd : Option Addr} {k0 k1 k2 k3 k5 : Option Value} {B newId initId : String}
theorem check_newK (F : ExcBaseFacts B newId initId bmB) (hT : ∀ X : String, bm.contains (.type X) = bmB.contains (.type X)) {rest : List Value} {kws : List (Str × Value)} {Q : Unit → Shared → Prop}
    (hC : h.get? C = some (excClassObj nm q C N bs bm hdct sn sub ab col dd k0 k1 k2 k3 k5 newId)) (hq : Q () ⟨h, g, d, t, os⟩) : wpAny M A (checkBuiltinCall newId ⟨.ref C :: rest, kws⟩) Q E ⟨h, g, d, t, os⟩ := by
  have hcont : (Value.ref C :: bm).contains (.type B) = true := by rw [List.contains_cons, hT, F.hasB, Bool.or_true]
  have hstar := F.noStar
  simp only [checkBuiltinCall, F.newKind, F.newSplit, F.newRow]
  repeat (first | refine wpAny_loadPart_at hC ?_ | (refine wpAny_isSubtype_exc hC ?_; rw [hcont]) | refine wpAny_staticBase_exc hC ?_ | refine wpAny_madeBy_exc hC ?_ | simp only [bne_self_eq_false, Bool.false_eq_true, if_false] | wp_step)
  exact hq
end
section
variable {prog : Program} {w : World} {A : Around} {E : Value → Shared → Prop} {R : Result → Shared → Prop} {h : Heap} {g : Array GenState} {d : Drawn} {t : Nat} {os : OsState}
variable {nm q : Str} {C N : Addr} {bs bm bmB : List Value} {hdct : Bool} {sn : List Str} {sub : List Value} {ab : Bool} {col : Option Bool} {dd : Option Addr} {k0 k1 k2 k3 k5 : Option Value} {B newId initId : String}
theorem newK (F : ExcBaseFacts B newId initId bmB) (hT : ∀ X : String, bm.contains (.type X) = bmB.contains (.type X)) {kws : List (Str × Value)}
    (hC : h.get? C = some (excClassObj nm q C N bs bm hdct sn sub ab col dd k0 k1 k2 k3 k5 newId))
    (hq : R (.ok (.ret (.ref (h.objs.size + 1)))) ⟨(h.push (kdv_tup [])).push (PX.excO C h.objs.size), g, d, t, os⟩) :
    codeAny (model prog w) A (.builtin newId ⟨[.ref C], kws⟩) R ⟨h, g, d, t, os⟩ := by
  have hends := F.ends
  have hcB : (Value.ref C :: bm).contains (.type B) = true := by rw [List.contains_cons, hT, F.hasB, Bool.or_true]
  have hcA : (Value.ref C :: bm).contains (.type "AttributeError") = false := by rw [List.contains_cons, hT, F.noAttr]; rfl
  have hcN : (Value.ref C :: bm).contains (.type "NameError") = false := by rw [List.contains_cons, hT, F.noName]; rfl
  refine codeAny_builtinAt F.entry ?_
  unfold Builtin.«BaseException.__new__»
  refine wpAt_bind ?_
  show wpAt _ _ _ (stack >>= _) _ _ _
  refine wpAt_bind (wpAt_stack fun p below => wpAt_of_wpAny ?_)
  wp_walk
  refine wpAt_of_wpAny ?_
  rw [F.owner]
  repeat (first | with_reducible refine wpAny_madeHere_exc F.canon hC ?_ | with_reducible refine wpAny_loadPart_at hC ?_ | (with_reducible refine wpAny_isSubtype_exc hC ?_; first | rw [hcB] | rw [hcA] | rw [hcN]) | wp_step)
  show R _ _
  rw [Heap.size_push]
  exact hq
theorem type_callK (F : ExcBaseFacts B newId initId bmB) (hT : ∀ X : String, bm.contains (.type X) = bmB.contains (.type X)) {kws : List (Str × Value)} {fI : Addr} {Q : PySem.Fin → Shared → Prop}
    (hC : h.get? C = some (excClassObj nm q C N bs bm hdct sn sub ab col dd k0 k1 k2 k3 k5 newId))
    (hi : W.Looks (model prog w) h (typeLookup (.ref C) "__init__") (some (.ref fI))) (hb : ∀ self, W.Looks (model prog w) h (bindSpecial (.ref fI) self) (.ref fI, [self]))
    (hq : codeAny (model prog w) A (.call (.ref fI) ⟨[.ref (h.objs.size + 1)], kws⟩)
      (fun r s' => match r with | .ok (.ret v) => v = .none ∧ Q (.done (.ret (.ref (h.objs.size + 1)))) s' | .ok _ => False | .error e => E e s')
      ⟨(h.push (W.kdv_tup [])).push (PX.excO C h.objs.size), g, d, t, os⟩) :
    wpAny (model prog w) A (Builtin.«type.__call__» ⟨[.ref C], kws⟩) Q E ⟨h, g, d, t, os⟩ := by
  repeat (first | with_reducible refine wpAny_loadPart_at hC ?_ | with_reducible refine wpAny_madeBy_exc hC ?_ | wp_step)
  refine codeAny_call_builtin_code (Code.quiet_builtin _ F.quiet) (check_newK F hT hC ?_)
  refine newK F hT hC ?_
  show wpAny _ _ _ _ _ _
  have k : ∀ b o, h.get? b = some o → ((h.push (W.kdv_tup [])).push (PX.excO C h.objs.size)).get? b = some o := fun b o e => Heap.get?_push_of_some _ (Heap.get?_push_of_some _ e)
  have hC₁ := k _ _ hC
  have hget : ((h.push (W.kdv_tup [])).push (PX.excO C h.objs.size)).get? (h.objs.size + 1) = some (PX.excO C h.objs.size) := by heap_get
  have hcC : (Value.ref C :: bm).contains (.ref C) = true := by simp
  have i1 := hi.keeps k
  have b1 := (hb (.ref (h.objs.size + 1))).keeps k
  unfold isInstance
  repeat (first | with_reducible refine wpAny_loadPart_at hget ?_ | (with_reducible refine wpAny_isSubtype_exc hC₁ ?_; rw [hcC]) | wp_step)
  show wpAny _ _ (typeLookup (.ref C) _) _ _ _
  refine i1.at ?_
  refine wpAny_holding (wpAny_bind (b1.at ?_))
  refine wpAny_bind (wpAny_call (codeAny_mono hq fun r s' z => ?_))
  rcases r with e | (v | _ | _ | _) <;> first | exact z | exact z.elim | skip
  obtain ⟨rfl, z⟩ := z
  first
    | exact wpAny_pure (wpAny_pure z)
    | (wp_walk; exact z)
theorem check_callK {M : Model} {kws : List (Str × Value)} {E : Value → Shared → Prop} {Q : Unit → Shared → Prop} (hC : h.get? C = some (excClassObj nm q C N bs bm hdct sn sub ab col dd k0 k1 k2 k3 k5 newId))
    (hq : Q () ⟨h, g, d, t, os⟩) : wpAny M A (checkBuiltinCall "type.__call__" ⟨[.ref C], kws⟩) Q E ⟨h, g, d, t, os⟩ := by
  have f3 := tc_sub
  have hT : (⟨h, g, d, t, os⟩ : Shared).TypeIs (.ref C) "type" := ⟨_, hC, rfl⟩
  simp only [checkBuiltinCall, tc_kind, tc_split]
  repeat (any_goals (first | assumption | with_reducible refine wpAny_loadPart_at hC ?_ | with_reducible refine wpAny_onRaise ?_ | with_reducible refine wpAny_map ?_ | wp_step))
theorem callK (F : ExcBaseFacts B newId initId bmB) (hT : ∀ X : String, bm.contains (.type X) = bmB.contains (.type X)) {kws : List (Str × Value)} {fI : Addr}
    (hC : h.get? C = some (excClassObj nm q C N bs bm hdct sn sub ab col dd k0 k1 k2 k3 k5 newId))
    (hi : W.Looks (model prog w) h (typeLookup (.ref C) "__init__") (some (.ref fI))) (hb : ∀ self, W.Looks (model prog w) h (bindSpecial (.ref fI) self) (.ref fI, [self]))
    (hq : codeAny (model prog w) (A.under (.builtin "type.__call__" ⟨[.ref C], kws⟩)) (.call (.ref fI) ⟨[.ref (h.objs.size + 1)], kws⟩) (W.InitBack (h.objs.size + 1) R)
      ⟨(h.push (W.kdv_tup [])).push (PX.excO C h.objs.size), g, d, t, os⟩) :
    codeAny (model prog w) A (.call (.ref C) ⟨[], kws⟩) R ⟨h, g, d, t, os⟩ := by
  have f1 := tc_lookup
  have f2 := tc_bind (.ref C)
  have hTy : (⟨h, g, d, t, os⟩ : Shared).TypeIs (.ref C) "type" := ⟨_, hC, rfl⟩
  refine codeAny_of_tree ?_
  show wpAny _ _ (callAny (.ref C) _) _ _ _
  repeat (any_goals (first | assumption | with_reducible refine wpAny_loadPart_at hC ?_ | wp_step))
  refine ⟨rfl, ?_⟩
  refine codeAny_call_builtin_at (Code.quiet_builtin _ (by decide +kernel)) entry_typeCall (check_callK hC (type_callK F hT hC hi hb ?_))
  refine codeAny_mono hq fun r s' z => ?_
  rcases r with e | (v | _ | _ | _) <;> exact z
end
end
end BW

set_option Elab.async false
set_option linter.all false
set_option maxRecDepth 100000
set_option maxHeartbeats 4000000
namespace BW
open PySem PySem.Spec PyProof.Rows L2
section
open PySem.W PySem.Calls Builtin Builtin.ObjectAttr
variable {prog : Program} {w : World} {A : Around} {E : Value → Shared → Prop} {hp : Heap} {g : Array GenState} {d : Drawn} {t : Nat} {os : OsState} {K : Frag} {C : Addr} {B newId i : String} {bmB : List Value}
variable {mg mb : Str → Option Value} {msg f p qual : Str} {p0 p1 p2 p3 p4 p5 p6 p7 p8 p9 : Pos} {j : Nat} {fI : Addr} {params : Arguments} {scope : Scope} {v : Value}
theorem xmake1K {Q : Value → Shared → Prop} (XC : XCls K C B newId i bmB) (XF : XFun prog K C fI qual params (xbody msg f p p0 p1 p2 p3 p4 p5 p6 p7 p8 p9 j) scope) (hpar : params.args.map (·.arg) = [("self" : Str), p]) (hps : p ≠ "self") (hf : findIn K (.ref C) f = some none)
    (hev : ∀ env : PySem.Env, env.scope = scope → ∃ pl, eval (.Call (.Attribute (.Call (.Name "super" p0) [] [] p1) "__init__" p2) [.Constant (.str msg) j p3] [] p4) env = (do
      let ov ← attributeBase (.Call (.Name "super" p0) [] [] p1) "__init__" env (eval (.Call (.Name "super" p0) [] [] p1) env)
      standAt p2.atName
      let (f, first) ← holding [ov] (getMethod ov "__init__" pl)
      callWith p4 f first (backTo p4 (starEach [.Constant (.str msg) j p3] env)) []))
    (hsw : ∀ env : PySem.Env, env.scope = scope → swapsWith (.Call (.Attribute (.Call (.Name "super" p0) [] [] p1) "__init__" p2) [.Constant (.str msg) j p3] [] p4) none p5.line env = pure false)
    (hsw2 : ∀ env : PySem.Env, env.scope = scope → swapsWith (.Name p p8) (some (.Attribute (.Name "self" p6) f p7)) p9.line env = pure false) (hdb : (p == ("__debug__" : Str)) = false)
    (X : K.In hp) (G : hp.Ns mainGlobals mg) (hs : mg "super" = none) (Bn : hp.Ns builtinsNs mb) (hb : mb "super" = some (.type "super")) (lim : hp.NoLimit) (room : (A.under (.builtin "type.__call__" ⟨[.ref C], [(p, v)]⟩)).depth < recursionLimit)
    (hbK : ∀ (fd : FuncData) (oc : Value) (od : Option Addr) (osl : Array (Option Value)), K.lookup fI = some ⟨oc, od, .func fd, osl⟩ → ∀ (s : Shared) (a u : Value), BindsTo s fd ⟨[a], [(p, u)]⟩ [(("self" : Str), a), (p, u)])
    (hq : ∀ h' tk' a dx t1, (∀ b o, hp.get? b = some o → h'.get? b = some o) → hp.objs.size ≤ a → hp.objs.size ≤ dx → dx ≠ a → h'.get? a = some (excObj C t1 (some dx) .none) → h'.Ns1 dx (fun y => if y = f then some v else none) → Q (.ref a) ⟨h', g, d, tk', os⟩) :
    wpAny (model prog w) A (call (.ref C) [] [(p, v)]) Q E ⟨hp, g, d, t, os⟩ := by
  obtain ⟨nm, N', qn, bs, bm, hdct, sn, sub, ab, col, dd, k0, k1, k2, k3, k5, hC, hT⟩ := excInit_of X XC.q
  obtain ⟨oc, od, osl, dV, kV, doc, pm, an, cda, ct, cc, vs, ccl, cdd, ccs, tf, cl, cld, csl, lk, hcode, hcc, hvs, hcell, hbind⟩ := XF.lk
  obtain ⟨oI, hoI, hcI⟩ : ∃ oI, hp.get? fI = some oI ∧ oI.cls = .type "function" := by
    obtain ⟨o, ho, hc⟩ := Option.map_eq_some_iff.mp (show (K.lookup fI).map (·.cls) = some (.type "function") from beq_iff_eq.mp XF.fn)
    exact ⟨o, X _ _ ho, hc⟩
  refine wpAny_call (callK XC.fb hT hC (looks_findIn X XF.ini) (fun self => exc_bind hoI hcI self) ?_)
  have kk : ∀ b o, hp.get? b = some o → ((hp.push (kdv_tup [])).push (PX.excO C hp.objs.size)).get? b = some o := fun b o e => Heap.get?_push_of_some _ (Heap.get?_push_of_some _ e)
  have hx : ((hp.push (kdv_tup [])).push (PX.excO C hp.objs.size)).get? (hp.objs.size + 1) = some (excObj C hp.objs.size none .none) := by heap_get
  have X2 := X.keeps kk
  have hb0 := hbK _ _ _ _ lk ⟨(hp.push (kdv_tup [])).push (PX.excO C hp.objs.size), g, d, t, os⟩ (.ref (hp.objs.size + 1)) v
  have lo1 : scope.names.lookup ("self" : Str) = some .local := by
    have z : ("self" : Str) ∈ params.args.map (·.arg) := by rw [hpar]; simp
    obtain ⟨x, hx, e⟩ := List.mem_map.mp z
    rw [← e]; exact XF.lo x hx
  have lo2 : scope.names.lookup p = some .local := by
    have z : p ∈ params.args.map (·.arg) := by rw [hpar]; simp
    obtain ⟨x, hx, e⟩ := List.mem_map.mp z
    rw [← e]; exact XF.lo x hx
  obtain ⟨ar, hd1, har⟩ : ∃ ar, (params.posonlyargs ++ params.args).head? = some ar ∧ ar.arg = "self" := by
    rw [XF.po, List.nil_append]
    cases h : params.args with
    | nil => rw [h] at hpar; cases hpar
    | cons x l =>
      rw [h, List.map_cons] at hpar
      exact ⟨x, rfl, (List.cons.inj hpar).1⟩
  refine ks_codeAny_call_defAt (fd := ksFn "__init__" qual params (xbody msg f p p0 p1 p2 p3 p4 p5 p6 p7 p8 p9 j) scope dV kV doc pm an (.ref cda) ct cc) (body := xbody msg f p p0 p1 p2 p3 p4 p5 p6 p7 p8 p9 j) (binds := [(("self" : Str), .ref (hp.objs.size + 1)), (p, v)]) room (X2 _ _ lk) rfl (lim.keeps kk) (codeRec_of X2 hcode) rfl hb0 XF.nc
    (fun y hy => by
      rcases List.mem_cons.mp hy with rfl | hy
      · exact lo1
      · rcases List.mem_cons.mp hy with rfl | hy
        · exact lo2
        · cases hy) (fun h0 hns kp => ?_) XF.co XF.gn XF.kn
  have k0 : ∀ b o, hp.get? b = some o → h0.get? b = some o := fun b o e => kp b o (kk b o e)
  have X0 := X.keeps k0
  have hx0 := kp _ _ hx
  obtain ⟨pl, he⟩ := hev (callEnv (ksFn "__init__" qual params (xbody msg f p p0 p1 p2 p3 p4 p5 p6 p7 p8 p9 j) scope dV kV doc pm an (.ref cda) ct cc) ((hp.push (kdv_tup [])).push (PX.excO C hp.objs.size)).objs.size fI) rfl
  have ms : (fun y => ([(("self" : Str), Value.ref (hp.objs.size + 1)), (p, v)] : List (Str × Value)).reverse.lookup y) ("self" : Str) = some (.ref (hp.objs.size + 1)) := by
    have z : (("self" : Str) == p) = false := beq_eq_false_iff_ne.mpr (Ne.symm hps)
    simp [List.lookup_cons, z]
  have mp : (fun y => ([(("self" : Str), Value.ref (hp.objs.size + 1)), (p, v)] : List (Str × Value)).reverse.lookup y) p = some v := by simp [List.lookup_cons]
  have hin : interactive (callEnv (ksFn "__init__" qual params (xbody msg f p p0 p1 p2 p3 p4 p5 p6 p7 p8 p9 j) scope dV kV doc pm an (.ref cda) ct cc) ((hp.push (kdv_tup [])).push (PX.excO C hp.objs.size)).objs.size fI) = false := by
    show (scope.kind == .module && _) = false
    rw [XF.kn]
    rfl
  refine ks_wpAt_execs_cons (xsuper (ar := ar) (cda := cda) (cc := cc) (m := fun y => ([(("self" : Str), Value.ref (hp.objs.size + 1)), (p, v)] : List (Str × Value)).reverse.lookup y) XC X0 (G.keeps k0) hs (Bn.keeps k0) hb hx0 hns (by rw [har]; exact ms) XF.ks XF.kc (by rw [har]; exact lo1) XF.kn rfl (k0 _ _ (X _ _ lk)) rfl hd1 rfl hcc hvs XF.top rfl rfl rfl hcell he hin (hsw _ rfl) fun h1 t2 tk1 kx hx1 => ?_)
  refine ks_wpAt_execs_cons (ks_wpAt_Assign_Attr (wpAt_of_wpAny ?_) (hsw2 _ rfl))
  have hLne : ((hp.push (kdv_tup [])).push (PX.excO C hp.objs.size)).objs.size ≠ hp.objs.size + 1 := by simp [Heap.size_push]
  have hns1 : h1.Ns ((hp.push (kdv_tup [])).push (PX.excO C hp.objs.size)).objs.size (fun y => ([(("self" : Str), Value.ref (hp.objs.size + 1)), (p, v)] : List (Str × Value)).reverse.lookup y) := by
    obtain ⟨o, es, ep, e1, r⟩ := hns
    exact ⟨o, es, ep, kx _ _ hLne e1, r⟩
  refine wpAny_Name (wpAny_loadName_local XF.kn lo2 hns1 mp ?_) hdb
  refine wpAny_Name (wpAny_loadName_local XF.kn lo1 hns1 ms ?_) (by decide)
  have X1 : K.In h1 := fun b o e => kx b o (fun z => by
    have := X _ _ e
    rw [z] at this
    exact absurd (Heap.lt_size this) (by simp)) (X0 b o e)
  refine xset_new XC X1 hx1 hf fun h2 tk2 dx k2 hdx hne hx2 hn2 => ?_
  refine wpAt_of_wpAny ?_
  show wpAny _ _ (pure Flow.next) _ _ _
  refine wpAny_pure ⟨rfl, ?_⟩
  have ne : ∀ {b : Addr} {o : Obj}, hp.get? b = some o → b ≠ hp.objs.size + 1 := fun {b o} e z => by
    rw [z] at e
    exact absurd (Heap.lt_size e) (by simp)
  exact hq h2 tk2 (hp.objs.size + 1) dx t2 (fun b o e => k2 b o (ne e) (kx b o (ne e) (k0 b o e))) (Nat.le_succ _) (Nat.le_trans (Nat.le_of_lt (Nat.lt_of_succ_lt (Heap.lt_size hx1))) hdx) hne hx2 hn2
end
def XCK (P : Program) (K : PySem.W.Frag) (mg : Str → Option Value) (c p : Str) : Prop :=
  XC1 P K mg c ∧ ∃ (C fI : Addr) (fd : FuncData) (oc : Value) (od : Option Addr) (osl : Array (Option Value)), mg c = some (.ref C) ∧ PySem.W.findIn K (.ref C) "__init__" = some (some (.ref fI)) ∧ K.lookup fI = some ⟨oc, od, .func fd, osl⟩ ∧ fd.params.args.map (·.arg) = [("self" : Str), p] ∧
    ∀ (s : Shared) (a v : Value), BindsTo s fd ⟨[a], [(p, v)]⟩ [(("self" : Str), a), (p, v)]
variable [Tb]
section
variable {X : Cx} {W : Wx}
theorem XO_ok {P : Program} {w : World} {H : Hp} {h : Heap} {a C : Addr} {d : Option Addr} {o : Obj} {vs : Array Value} (e : h.get? a = some o) (c : o.cls = .ref C) (hd : o.dict = d) (dt : o.data = .fields vs) : ObjOk P w H h a (XO a C d) :=
  ⟨⟨o, vs, e, c, hd, dt⟩, ⟨o, e⟩, fun _ _ ⟨o, v, q, r⟩ k => ⟨o, v, k o q, r⟩⟩
theorem made1 {pins : List (Addr × Obj)} {σ : L2.St} {H1 : Hp} {hp h' : Heap} {g : Array GenState} {d : Drawn} {t tk' : Nat} {os : OsState} {a dx t1 C : Addr} {f : Str} {v : V} {u : Value} (I1 : Inv X pins σ H1 ⟨hp, g, d, t, os⟩) (r1 : RelV v u)
    (kk : ∀ b o, hp.get? b = some o → h'.get? b = some o) (ha : hp.objs.size ≤ a) (hdx : hp.objs.size ≤ dx) (hne : dx ≠ a) (hx : h'.get? a = some (PySem.W.excObj C t1 (some dx) .none)) (hns : h'.Ns1 dx (fun y => if y = f then some u else none)) :
    H1 a = none ∧ H1 dx = none ∧ Inv X pins σ (upd (upd H1 dx (.xd [(f, v)])) a (XO a C (some dx))) ⟨h', g, d, tk', os⟩ := by
  obtain ⟨G, g1, g2⟩ := restrict h' fun b => decide (b ≠ a)
  have gk : ∀ b o, b ≠ a → h'.get? b = some o → G.get? b = some o := fun b o hb e => by
    rw [g1 b (decide_eq_true hb)]; exact e
  have ga : G.get? a = none := g2 a (decide_eq_false fun z => z rfl)
  have gs : ∀ b o, G.get? b = some o → h'.get? b = some o := fun b o e => by
    by_cases hb : b = a
    · rw [hb, ga] at e; cases e
    · rw [← g1 b (decide_eq_true hb)]; exact e
  have nea : ∀ {b : Addr} {o : Obj}, hp.get? b = some o → b ≠ a := fun {b o} z => Nat.ne_of_lt (Nat.lt_of_lt_of_le (Heap.lt_size z) ha)
  have J := I1.laid (t' := tk') (a := dx) (o := .xd [(f, v)]) (h' := G) (fun b o e => gk b o (nea e) (kk b o e)) hdx
    ⟨fun y => if y = f then some u else none, (by
      obtain ⟨o, es, ep, e1, e2⟩ := hns
      exact ⟨o, es, ep, gk _ _ hne e1, e2⟩), fun y => by
      by_cases hy : y = f
      · subst hy
        simp only [List.lookup_cons, beq_self_eq_true, if_true]
        exact r1
      · have : (y == f) = false := beq_eq_false_iff_ne.mpr hy
        simp only [List.lookup_cons, this, if_neg hy, List.lookup_nil]
        trivial⟩
  have na : H1 a = none := I1.hok.fresh ha
  have nd : H1 dx = none := I1.hok.fresh hdx
  exact ⟨na, nd, J.laidN (t' := tk') gs ga (by rw [upd_ne (Ne.symm hne)]; exact na) (XO_ok hx rfl rfl rfl)⟩
theorem made0 {pins : List (Addr × Obj)} {σ : L2.St} {H1 : Hp} {hp h' : Heap} {g : Array GenState} {d : Drawn} {t tk' : Nat} {os : OsState} {a t1 C : Addr} (I1 : Inv X pins σ H1 ⟨hp, g, d, t, os⟩)
    (kk : ∀ b o, hp.get? b = some o → h'.get? b = some o) (ha : hp.objs.size ≤ a) (hx : h'.get? a = some (PySem.W.excObj C t1 none .none)) :
    H1 a = none ∧ Inv X pins σ (upd H1 a (XO a C none)) ⟨h', g, d, tk', os⟩ := by
  have na : H1 a = none := I1.hok.fresh ha
  have np : hp.get? a = none := by
    cases e : hp.get? a with
    | none => rfl
    | some o => exact absurd (Heap.lt_size e) (Nat.not_lt_of_le ha)
  exact ⟨na, I1.laidN (t' := tk') kk np na (XO_ok hx rfl rfl rfl)⟩
theorem pe_x1 {c : Str} {C : Addr} {f : Str} {e : Expr} {te : TE} {p pos : Pos} {k : Nat} (XC : XC1 X.prog X.K X.mg c) (hC : X.mg c = some (.ref C)) (hf : fieldOf c = some f) (hs : X.mg "super" = none) (hr : Room (k + 1) X.A) (hg : Gl X c) (he : PE X e te)
    (hst : starEach [e] X.env = (false, eval e X.env) :: starEach [] X.env := by rfl) (hdb : (c == ("__debug__" : Str)) = false := by decide) :
    PE X (.Call (.Name c p) [e] [] pos) (fun σ H Q => te σ H fun v H1 => ∀ a dx, H1 a = none → H1 dx = none → dx ≠ a → Q (.ref a) (upd (upd H1 dx (.xd [(f, v)])) a (XO a C (some dx)))) := by
  refine ⟨fun pins s σ H Q I h => ?_⟩
  obtain ⟨C', fI, B, newId, i, bmB, qual, msg, f', p', params, scope, p0, p1, p2, p3, p4, p5, p6, p7, p8, p9, j, hC', kC, sub, ty, hf', XK, XF, XT, hpar, hps, hff⟩ := XC
  rw [hC] at hC'
  cases hC'
  rw [hf] at hf'
  cases hf'
  refine wpAny_Call_Name_kw (ld_glob I hg hC ?_ hdb)
  refine PySem.W.callWith_K (h₀ := X.base) I.ok.mod.kin kC ?_ hst (by rfl)
  rw [hst]
  show wpAny _ _ (spliced ((false, eval e X.env) :: backTo pos (starEach [] X.env))) _ _ s
  refine Calls.spliced_cons (thn (he.run pins s σ H _ I h) fun u s1 ⟨v, H1, I1, r1, q1⟩ => ?_)
  refine Calls.spliced_nil ⟨I1.kIn, ?_⟩
  show wpAny _ _ (call (.ref C) [u]) _ _ _
  obtain ⟨mb, nb, eb⟩ := inv_blt I1
  have G1 := I1.ok.mod.glob.keeps I1.bk
  have room := (hr.make C [u] []).depth
  obtain ⟨hp, g, d, t, os⟩ := s1
  refine xmake1 XK XF hpar hps hff XT.hev XT.hsw XT.hsw2 XT.hdb I1.kIn G1 hs nb eb I1.nolimit room fun h' tk' a dx t1 kk ha hdx hne hx hns => ?_
  obtain ⟨na, nd, J⟩ := made1 (tk' := tk') I1 r1 kk ha hdx hne hx hns
  exact ⟨.ref a, _, J, rfl, q1 a dx na nd hne⟩
theorem pe_x0 {c : Str} {C : Addr} {p pos : Pos} {k : Nat} (XC : XC0 X.prog X.K X.mg c) (hC : X.mg c = some (.ref C)) (hs : X.mg "super" = none) (hr : Room (k + 1) X.A) (hg : Gl X c) (hdb : (c == ("__debug__" : Str)) = false := by decide) :
    PE X (.Call (.Name c p) [] [] pos) (fun σ H Q => ∀ a, H a = none → Q (.ref a) (upd H a (XO a C none))) := by
  refine ⟨fun pins s σ H Q I h => ?_⟩
  obtain ⟨C', fI, B, newId, i, bmB, qual, msg, params, scope, p0, p1, p2, p3, p4, p5, j, hC', kC, sub, ty, XK, XF, XT, hpar⟩ := XC
  rw [hC] at hC'
  cases hC'
  refine wpAny_Call_Name_kw (ld_glob I hg hC ?_ hdb)
  refine PySem.W.callWith_K0 I.kIn kC ?_
  show wpAny _ _ (call (.ref C) []) _ _ _
  obtain ⟨mb, nb, eb⟩ := inv_blt I
  have G1 := I.ok.mod.glob.keeps I.bk
  have room := (hr.make C [] []).depth
  obtain ⟨hp, g, d, t, os⟩ := s
  refine xmake0 XK XF hpar XT.hev XT.hsw I.kIn G1 hs nb eb I.nolimit room fun h' tk' a t1 kk ha hx => ?_
  obtain ⟨na, J⟩ := made0 (tk' := tk') I kk ha hx
  exact ⟨.ref a, _, J, rfl, h a na⟩
theorem pe_x1K {c pn : Str} {C : Addr} {f : Str} {e : Expr} {te : TE} {p kpos pos : Pos} {k : Nat} (XC : XCK X.prog X.K X.mg c pn) (hC : X.mg c = some (.ref C)) (hf : fieldOf c = some f) (hs : X.mg "super" = none) (hr : Room (k + 1) X.A) (hg : Gl X c) (he : PE X e te)
    (hall : (backToKw pos (keywordEach [⟨some pn, e, kpos⟩] X.env)).all (·.1.isSome) = true := by rfl) (hks : (backToKw pos (keywordEach [⟨some pn, e, kpos⟩] X.env)).filterMap (·.1) = [pn] := by rfl) (hdb : (c == ("__debug__" : Str)) = false := by decide)
    (hpl : ((backTo pos (starEach [] X.env)).any (·.1) || (backToKw pos (keywordEach [⟨some pn, e, kpos⟩] X.env)).any (·.1.isNone)) = false := by rfl) :
    PE X (.Call (.Name c p) [] [⟨some pn, e, kpos⟩] pos) (fun σ H Q => te σ H fun v H1 => ∀ a dx, H1 a = none → H1 dx = none → dx ≠ a → Q (.ref a) (upd (upd H1 dx (.xd [(f, v)])) a (XO a C (some dx)))) := by
  refine ⟨fun pins s σ H Q I h => ?_⟩
  obtain ⟨XC, C2, fI2, fd2, oc2, od2, osl2, hC2, ini2, lk2, par2, hbK⟩ := XC
  obtain ⟨C', fI, B, newId, i, bmB, qual, msg, f', p', params, scope, p0, p1, p2, p3, p4, p5, p6, p7, p8, p9, j, hC', kC, sub, ty, hf', XK, XF, XT, hpar, hps, hff⟩ := XC
  rw [hC] at hC' hC2
  cases hC'
  cases hC2
  rw [hf] at hf'
  cases hf'
  have efI : fI2 = fI := by
    have := ini2.symm.trans XF.ini
    simpa using this
  subst efI
  have epn : p' = pn := by
    obtain ⟨oc, od, osl, dV, kV, doc, pm, an, cda, ct, cc, vs, ccl, cdd, ccs, tf, cl, cld, csl, lk, _⟩ := XF.lk
    rw [lk] at lk2
    cases lk2
    have : params.args.map (·.arg) = [("self" : Str), pn] := par2
    rw [hpar] at this
    simpa using this
  subst epn
  refine wpAny_Call_Name_kw (ld_glob I hg hC ?_ hdb)
  refine PySem.W.callWith_KW0 (h₀ := X.base) I.ok.mod.kin kC hall ?_ hpl
  refine thn ((pk_cons he pk_nil).run pos pins s σ H (fun zs H1 => match zs with | [v] => ∀ a dx, H1 a = none → H1 dx = none → dx ≠ a → Q (.ref a) (upd (upd H1 dx (.xd [(f, v)])) a (XO a C (some dx))) | _ => False) I h) fun ws s1 ⟨zs, H1, I1, rz, q1⟩ => ⟨I1.kIn, ?_⟩
  match zs, q1 with
  | [v], q1 =>
  obtain ⟨u, rfl, r1⟩ := vals1 rz
  rw [hks]
  show wpAny _ _ (call (.ref C) [] [(p', u)]) _ _ _
  obtain ⟨mb, nb, eb⟩ := inv_blt I1
  have G1 := I1.ok.mod.glob.keeps I1.bk
  have room := (hr.make C [] [(p', u)]).depth
  obtain ⟨hp, g, d, t, os⟩ := s1
  refine xmake1K XK XF hpar hps hff XT.hev XT.hsw XT.hsw2 XT.hdb I1.kIn G1 hs nb eb I1.nolimit room (fun fd oc od osl lk => ?_) fun h' tk' a dx t1 kk ha hdx hne hx hns => ?_
  · rw [lk] at lk2
    cases lk2
    exact hbK
  obtain ⟨na, nd, J⟩ := made1 (tk' := tk') I1 r1 kk ha hdx hne hx hns
  exact ⟨.ref a, _, J, rfl, q1 a dx na nd hne⟩
end
end BW

set_option Elab.async false
set_option linter.all false
set_option maxRecDepth 100000
set_option maxHeartbeats 4000000
namespace BW
open PySem PySem.Spec PyProof.Rows L2
variable [Tb]
section
variable {X : Cx} {W : Wx}
def evMk1 (c : Str) (f : Ev) : Ev := fun e h => (pv f e h).bind fun d h1 => .ok (.exc c [d]) h1
def evMk0 (c : Str) : Ev := fun _ h => .ok (.exc c []) h
theorem rd_mk1 {c : Str} {C : Addr} {fn : Str} {f : Ev} {σ : L2.St} {H : Hp} {Q : VK} (hC : X.mg c = some (.ref C)) (hf : fieldOf c = some fn) (q : rdE X.K X.mg W (evMk1 c f) σ H Q) :
    rdV X.K X.mg W (pv f) σ H fun v H1 => ∀ a dx, H1 a = none → H1 dx = none → dx ≠ a → Q (.ref a) (upd (upd H1 dx (.xd [(fn, v)])) a (XO a C (some dx))) := by
  obtain ⟨r, e, h, er, hr, ok⟩ := q
  unfold evMk1 at ok
  refine rdV_bind er hr ok fun d h1 v r1 H1 s1 hr1 t1 er1 ok1 => fun a dx ha hdx hne => ?_
  have ha' : upd H1 dx (.xd [(fn, v)]) a = none := by rw [upd_ne (Ne.symm hne)]; exact ha
  have s2 : Step r1 H1 r1 (upd H1 dx (.xd [(fn, v)])) := Step.alloc hdx
  have s3 : Step r1 (upd H1 dx (.xd [(fn, v)])) r1 (upd (upd H1 dx (.xd [(fn, v)])) a (XO a C (some dx))) := Step.alloc ha'
  have hr2 := hr1.alloc hdx (o := .xd [(fn, v)])
  have hr3 := hr2.alloc ha' (o := XO a C (some dx)) (by intro _ z; unfold XO at z; cases z)
  exact ok1 _ r1 _ (s2.trans s3) hr3 (.val (.exc1 hC hf (fun z => hr1.there z ha) (fun z => hr1.there z hdx) upd_same (by rw [upd_ne hne]; exact upd_same) (t1.mono (s2.trans s3).mn)))
theorem den_mk1 {c : Str} {ex : Expr} {p pos : Pos} {f : Ev} {k : Nat} (XC : XC1 X.prog X.K X.mg c) (hs : X.mg "super" = none) (hr : Room k X.A) (he : DenE X W ex f) (hjk : 1 ≤ k := by decide) (hg : Gl X c := by rfl)
    (hst : starEach [ex] X.env = (false, eval ex X.env) :: starEach [] X.env := by rfl) (hdb : (c == ("__debug__" : Str)) = false := by decide) : DenE X W (.Call (.Name c p) [ex] [] pos) (evMk1 c f) := by
  obtain ⟨C, fn, hC, hf⟩ : ∃ C fn, X.mg c = some (.ref C) ∧ fieldOf c = some fn := by
    obtain ⟨C', fI, B, newId, i, bmB, qual, msg, f', p', params, scope, p0, p1, p2, p3, p4, p5, p6, p7, p8, p9, j, hC', kC, sub, ty, hf', _⟩ := XC
    exact ⟨_, _, hC', hf'⟩
  exact PE.imp (pe_x1 (k := 0) XC hC hf hs (hr.mono hjk) hg (den_pv he) hst hdb) fun σ H Q q => rd_mk1 hC hf q
theorem den_mkK {c pn : Str} {ex : Expr} {p kpos pos : Pos} {f : Ev} {k : Nat} (XC : XCK X.prog X.K X.mg c pn) (hs : X.mg "super" = none) (hr : Room k X.A) (he : DenE X W ex f) (hjk : 1 ≤ k := by decide) (hg : Gl X c := by rfl)
    (hall : (backToKw pos (keywordEach [⟨some pn, ex, kpos⟩] X.env)).all (·.1.isSome) = true := by rfl) (hks : (backToKw pos (keywordEach [⟨some pn, ex, kpos⟩] X.env)).filterMap (·.1) = [pn] := by rfl) (hdb : (c == ("__debug__" : Str)) = false := by decide)
    (hpl : ((backTo pos (starEach [] X.env)).any (·.1) || (backToKw pos (keywordEach [⟨some pn, ex, kpos⟩] X.env)).any (·.1.isNone)) = false := by rfl) : DenE X W (.Call (.Name c p) [] [⟨some pn, ex, kpos⟩] pos) (evMk1 c f) := by
  obtain ⟨C, fn, hC, hf⟩ : ∃ C fn, X.mg c = some (.ref C) ∧ fieldOf c = some fn := by
    obtain ⟨C', fI, B, newId, i, bmB, qual, msg, f', p', params, scope, p0, p1, p2, p3, p4, p5, p6, p7, p8, p9, j, hC', kC, sub, ty, hf', _⟩ := XC.1
    exact ⟨_, _, hC', hf'⟩
  exact PE.imp (pe_x1K (k := 0) XC hC hf hs (hr.mono hjk) hg (den_pv he) hall hks hdb hpl) fun σ H Q q => rd_mk1 hC hf q
theorem den_mk0 {c : Str} {p pos : Pos} {k : Nat} (XC : XC0 X.prog X.K X.mg c) (hs : X.mg "super" = none) (hr : Room k X.A) (hjk : 1 ≤ k := by decide) (hg : Gl X c := by rfl) (hdb : (c == ("__debug__" : Str)) = false := by decide) : DenE X W (.Call (.Name c p) [] [] pos) (evMk0 c) := by
  obtain ⟨C, hC⟩ : ∃ C, X.mg c = some (.ref C) := by
    obtain ⟨C', fI, B, newId, i, bmB, qual, msg, params, scope, p0, p1, p2, p3, p4, p5, j, hC', _⟩ := XC
    exact ⟨_, hC'⟩
  refine PE.imp (pe_x0 (k := 0) XC hC hs (hr.mono hjk) hg hdb) fun σ H Q ⟨r, e, h, er, hr', ok⟩ => fun a ha => ?_
  have s2 : Step r H r (upd H a (XO a C none)) := Step.alloc ha
  exact ok _ r _ s2 (hr'.alloc ha (by intro _ z; unfold XO at z; cases z)) (.val (.exc0 hC (fun z => hr'.there z ha) upd_same))
end
end BW

set_option Elab.async false
set_option linter.all false
set_option maxRecDepth 100000
set_option maxHeartbeats 4000000
namespace BW
open PySem PySem.Spec PyProof.Rows L2
abbrev seven : List String := ["NoneType", "bool", "int", "str", "tuple", "list", "dict"]
section
variable {M : Model} {prog : Program} {w : World} {A : Around} {E : Value → Shared → Prop} {s : Shared} {K : PySem.W.Frag} {x C f L l : Addr} {ox : Obj} {od : Option Obj} {b : Value} {h₀ : Heap} {m : Str → Option Value}
theorem inst_isi {T : String} (X : K.In s.heap) (I : PySem.W.InstAt s.heap x ox C od) (hm : PySem.W.mroIn K C (.type T) = some false) {Q : Bool → Shared → Prop} (h : Q false s) : wpAny M A (isInstance (.ref x) (.type T)) Q E s := by
  unfold isInstance
  exact wpAny_bind (I.type.here ((PySem.W.looks_mroIn X hm).here h))
theorem none_declines {Q : PySem.Fin → Shared → Prop} (hq : Q (.done (.ret .notImplemented)) s) : wpAny (model prog w) A (Builtin.«NoneType.__eq__» ⟨[.none, .ref x], []⟩) Q E s := by
  obtain ⟨hp, g, d, tk, os⟩ := s
  wp_walk
  exact hq
theorem dict_declines {ol : Obj} (X : K.In s.heap) (I : PySem.W.InstAt s.heap x ox C od) (hm : PySem.W.mroIn K C (.type "dict") = some false) {Q : PySem.Fin → Shared → Prop} (hq : Q (.done (.ret .notImplemented)) s) :
    wpAny (model prog w) A (Builtin.«dict.__eq__» ⟨[.ref l, .ref x], []⟩) Q E s := by
  have isi : ∀ {Q : Bool → Shared → Prop}, Q false s → wpAny (model prog w) A (isInstance (.ref x) (.type "dict")) Q E s := fun {Q} h => inst_isi X I hm h
  obtain ⟨hp, g, d, tk, os⟩ := s
  wp_walk using isi
  exact hq
theorem tuple_declines {ol : Obj} (X : K.In s.heap) (I : PySem.W.InstAt s.heap x ox C od) (hm : PySem.W.mroIn K C (.type "tuple") = some false) {Q : PySem.Fin → Shared → Prop} (hq : Q (.done (.ret .notImplemented)) s) :
    wpAny (model prog w) A (Builtin.«tuple.__eq__» ⟨[.ref l, .ref x], []⟩) Q E s := by
  have isi : ∀ {Q : Bool → Shared → Prop}, Q false s → wpAny (model prog w) A (isInstance (.ref x) (.type "tuple")) Q E s := fun {Q} h => inst_isi X I hm h
  obtain ⟨hp, g, d, tk, os⟩ := s
  wp_walk using isi
  exact hq
theorem int_declines {i : Int} {t : Tok} (X : K.In s.heap) (I : PySem.W.InstAt s.heap x ox C od) (np : ∀ v, ox.data ≠ .prim v) {Q : PySem.Fin → Shared → Prop} (hq : Q (.done (.ret .notImplemented)) s) :
    wpAny (model prog w) A (Builtin.«int.__eq__» ⟨[.int i t, .ref x], []⟩) Q E s := by
  have h1 := I.1
  obtain ⟨hp, g, d, tk, os⟩ := s
  wp_walk using wpAny_load h1
  split
  · rename_i e
    exact absurd e (np _)
  · wp_walk
    exact hq
theorem str_declines {i : Str} {t : Tok} (X : K.In s.heap) (I : PySem.W.InstAt s.heap x ox C od) (np : ∀ v, ox.data ≠ .prim v) {Q : PySem.Fin → Shared → Prop} (hq : Q (.done (.ret .notImplemented)) s) :
    wpAny (model prog w) A (Builtin.«str.__eq__» ⟨[.str i t, .ref x], []⟩) Q E s := by
  have h1 := I.1
  obtain ⟨hp, g, d, tk, os⟩ := s
  wp_walk using wpAny_load h1
  split
  · rename_i e
    exact absurd e (np _)
  · wp_walk
    exact hq
theorem eq_otherK {Q : Value → Shared → Prop} {v : Value} {T : String} {id : String} (hu : A.units < cLine) (X : K.In s.heap) (hT : s.TypeIs v T) (I : PySem.W.InstAt s.heap x ox C od)
    (hm : PySem.W.mroIn K C (.type T) = some false) (sl : Slot T "__eq__" id) (hd : ∀ Q' : Value → Shared → Prop, Q' .notImplemented s → wpAny (model prog w) A (call (.builtin id) [v, .ref x]) Q' E s)
    (hs : PySem.W.findIn K (.ref C) "__eq__" = some (some (.ref f))) (hf : PySem.W.isFn K (.ref f) = true)
    (h : wpAny (model prog w) A (call (.ref f) [.ref x, v]) (PySem.W.CmpBack Q) E s) : wpAny (model prog w) A (richCompare .Eq v (.ref x)) Q E s := by
  have one : wpAny (model prog w) A (tryCompare v "__eq__" (.ref x)) (fun r s' => r = none ∧ s' = s) E s :=
    wpAny_tryCompare_declines hT sl (hd _ ⟨rfl, rfl, rfl⟩)
  have two : wpAny (model prog w) A (tryCompare (.ref x) "__eq__" v) (fun r s' => ∃ v, r = some v ∧ Q v s') E s := by
    unfold tryCompare
    refine wpAny_bind (PySem.W.ifBound_K X I hs hf (wpAny_mono h (fun v s' hv => ?_) fun _ _ e => e))
    cases v <;> first | exact hv.elim | exact wpAny_pure ⟨_, rfl, hv⟩
  unfold richCompare
  simp only [hT.oneThing_none, cmpInfo_Eq]
  refine wpAny_holding (wpAny_bind (wpAny_cRoomFor hu ?_))
  refine wpAny_bind (wpAny_typeOf hT ?_)
  refine wpAny_bind (I.type.here ?_)
  rw [show (Value.type T != Value.ref C) = true from by simp]
  simp only [if_true]
  refine wpAny_bind ((PySem.W.looks_mroIn X hm).here ?_)
  simp only [Bool.false_eq_true, if_false]
  refine wpAny_bind (wpAny_mono one (fun r s' z => ?_) fun _ _ e => e)
  obtain ⟨rfl, rfl⟩ := z
  refine wpAny_bind (wpAny_mono two (fun r s' z => ?_) fun _ _ e => e)
  obtain ⟨v, rfl, hq⟩ := z
  exact wpAny_pure hq
theorem notFirst_seven {K : PySem.W.Frag} {C : Addr} {t : String} (h : t ∈ seven) : PySem.W.notFirst K C (.type t) = true := by
  have e2 : PySem.W.subIn K (.type t) (.ref C) = some false := by
    simp only [List.mem_cons, List.not_mem_nil, or_false] at h
    rcases h with rfl | rfl | rfl | rfl | rfl | rfl | rfl
    · have e : fastBuiltinMro "NoneType" = some [.type "NoneType", .type "object"] := by decide +kernel
      show (fastBuiltinMro "NoneType").map (·.contains (.ref C)) = some false
      rw [e]; first | rfl | simp
    · have e : fastBuiltinMro "bool" = some [.type "bool", .type "int", .type "object"] := by decide +kernel
      show (fastBuiltinMro "bool").map (·.contains (.ref C)) = some false
      rw [e]; first | rfl | simp
    · have e : fastBuiltinMro "int" = some [.type "int", .type "object"] := by decide +kernel
      show (fastBuiltinMro "int").map (·.contains (.ref C)) = some false
      rw [e]; first | rfl | simp
    · have e : fastBuiltinMro "str" = some [.type "str", .type "object"] := by decide +kernel
      show (fastBuiltinMro "str").map (·.contains (.ref C)) = some false
      rw [e]; first | rfl | simp
    · have e : fastBuiltinMro "tuple" = some [.type "tuple", .type "object"] := by decide +kernel
      show (fastBuiltinMro "tuple").map (·.contains (.ref C)) = some false
      rw [e]; first | rfl | simp
    · have e : fastBuiltinMro "list" = some [.type "list", .type "object"] := by decide +kernel
      show (fastBuiltinMro "list").map (·.contains (.ref C)) = some false
      rw [e]; first | rfl | simp
    · have e : fastBuiltinMro "dict" = some [.type "dict", .type "object"] := by decide +kernel
      show (fastBuiltinMro "dict").map (·.contains (.ref C)) = some false
      rw [e]; first | rfl | simp
  unfold PySem.W.notFirst
  rw [e2]
  simp
end
structure EqA (K : PySem.W.Frag) (mg : Str → Option Value) (c : Str) : Prop where
  eq : EqC K mg c
  no : ∀ C, mg c = some (.ref C) → ∀ t ∈ seven, PySem.W.mroIn K C (.type t) = some false
section
variable {X : Cx} {pins : List (Addr × Obj)} {σ : L2.St} {H : Hp} {s : Shared}
theorem ty_seven {x : V} {u : Value} {t : String} (I : Inv X pins σ H s) (rx : RelV x u) (ty : TyX X.K H x (.type t)) (ht : t ∈ seven) :
    (t = "NoneType" ∧ u = .none) ∨ (t = "bool" ∧ ∃ b, u = .bool b) ∨ (t = "int" ∧ ∃ i k, u = .int i k) ∨ (t = "str" ∧ ∃ y k, u = .str y k) ∨ ∃ a o, u = .ref a ∧ s.heap.get? a = some o ∧ o.cls = .type t ∧ (t = "tuple" ∨ t = "list" ∨ t = "dict") := by
  simp only [List.mem_cons, List.not_mem_nil, or_false] at ht
  have r3 : ∀ (a : Addr) (o : Obj), u = .ref a → s.heap.get? a = some o → o.cls = .type t → (t = "tuple" ∨ t = "list" ∨ t = "dict") → (t = "NoneType" ∧ u = .none) ∨ (t = "bool" ∧ ∃ b, u = .bool b) ∨ (t = "int" ∧ ∃ i k, u = .int i k) ∨ (t = "str" ∧ ∃ y k, u = .str y k) ∨ ∃ a o, u = .ref a ∧ s.heap.get? a = some o ∧ o.cls = .type t ∧ (t = "tuple" ∨ t = "list" ∨ t = "dict") :=
    fun a o e1 e2 e3 e4 => .inr (.inr (.inr (.inr ⟨a, o, e1, e2, e3, e4⟩)))
  generalize hT : Value.type t = T at ty
  cases ty with
  | base b =>
    cases b with
    | non => cases hT; cases (show u = Value.none from rx); exact .inl ⟨rfl, rfl⟩
    | bl y => cases hT; cases (show u = Value.bool y from rx); exact .inr (.inl ⟨rfl, y, rfl⟩)
    | int i => cases hT; obtain ⟨k, q⟩ := (show ∃ t, u = Value.int i t from rx); exact .inr (.inr (.inl ⟨rfl, i, k, q⟩))
    | str y => cases hT; obtain ⟨k, q⟩ := (show ∃ t, u = Value.str y t from rx); exact .inr (.inr (.inr (.inl ⟨rfl, y, k, q⟩)))
    | flt y => cases hT; simp at ht
    | @lst a xs ea =>
      cases hT
      cases (show u = Value.ref a from rx)
      obtain ⟨_, _, n, _, h1⟩ := (show ObjOk X.prog X.w H s.heap a (.lst xs) from I.hok a _ ea)
      exact r3 _ _ rfl h1 rfl (.inr (.inl rfl))
    | @frz a ob xs ea =>
      cases hT
      cases (show u = Value.ref a from rx)
      obtain ⟨_, _, _, n, _, h1⟩ := (show ObjOk X.prog X.w H s.heap a (.frz ob (.lst xs)) from I.hok a _ ea)
      exact r3 _ _ rfl h1 rfl (.inr (.inl rfl))
    | @tup a xs ea =>
      cases hT
      cases (show u = Value.ref a from rx)
      obtain ⟨_, _, _, o, h1, h2, _⟩ := (show ObjOk X.prog X.w H s.heap a (.tup xs) from I.hok a _ ea)
      exact r3 _ o rfl h1 h2 (.inl rfl)
    | @dK a kvs ea =>
      cases hT
      cases (show u = Value.ref a from rx)
      obtain ⟨_, _, vs, _, o, es, ep, h1, h2, _⟩ := (show ObjOk X.prog X.w H s.heap a (.dK kvs) from I.hok a _ ea)
      exact r3 _ o rfl h1 h2.1 (.inr (.inr rfl))
    | @dT a kvs ea =>
      cases hT
      cases (show u = Value.ref a from rx)
      obtain ⟨_, _, xs, _, o, es, ep, h1, h2, _⟩ := (show ObjOk X.prog X.w H s.heap a (.dT kvs) from I.hok a _ ea)
      exact r3 _ o rfl h1 h2.1 (.inr (.inr rfl))
    | ins => cases hT
  | byt => cases hT; simp at ht
  | set => cases hT; simp at ht
  | @kList a o e c => cases hT; cases (show u = Value.ref a from rx); exact r3 _ o rfl (I.kIn _ _ e) c (.inr (.inl rfl))
  | @kTuple a o e c => cases hT; cases (show u = Value.ref a from rx); exact r3 _ o rfl (I.kIn _ _ e) c (.inl rfl)
  | @kDict a o e c => cases hT; cases (show u = Value.ref a from rx); exact r3 _ o rfl (I.kIn _ _ e) c (.inr (.inr rfl))
  | @fTuple a ob xs ea =>
    cases hT
    cases (show u = Value.ref a from rx)
    obtain ⟨_, _, _, _, o, h1, h2, _⟩ := (show ObjOk X.prog X.w H s.heap a (.frz ob (.tup xs)) from I.hok a _ ea)
    exact r3 _ o rfl h1 h2 (.inl rfl)
  | @fDict a ob kvs ea =>
    cases hT
    cases (show u = Value.ref a from rx)
    obtain ⟨_, _, _, vs, _, o, es, ep, h1, h2, _⟩ := (show ObjOk X.prog X.w H s.heap a (.frz ob (.dK kvs)) from I.hok a _ ea)
    exact r3 _ o rfl h1 h2.1 (.inr (.inr rfl))
end
section
variable {prog : Program} {w : World} {A : Around} {E : Value → Shared → Prop} {s : Shared} {K : PySem.W.Frag} {x C f : Addr} {ox : Obj} {od : Option Obj}
theorem bool_declines {i : Bool} (X : K.In s.heap) (I : PySem.W.InstAt s.heap x ox C od) (np : ∀ v, ox.data ≠ .prim v) {Q : PySem.Fin → Shared → Prop} (hq : Q (.done (.ret .notImplemented)) s) :
    wpAny (model prog w) A (Builtin.«int.__eq__» ⟨[.bool i, .ref x], []⟩) Q E s := by
  have h1 := I.1
  obtain ⟨hp, g, d, tk, os⟩ := s
  wp_walk using wpAny_load h1
  split
  · rename_i e
    exact absurd e (np _)
  · wp_walk
    exact hq
theorem eq_sevenK {Q : Value → Shared → Prop} {u : Value} {t : String} (hu : A.units < cLine) (X : K.In s.heap) (I : PySem.W.InstAt s.heap x ox C od) (np : ∀ v, ox.data ≠ .prim v) (hm : ∀ t ∈ seven, PySem.W.mroIn K C (.type t) = some false) (ht : t ∈ seven)
    (hk : (t = "NoneType" ∧ u = .none) ∨ (t = "bool" ∧ ∃ b, u = .bool b) ∨ (t = "int" ∧ ∃ i k, u = .int i k) ∨ (t = "str" ∧ ∃ y k, u = .str y k) ∨ ∃ a o, u = .ref a ∧ s.heap.get? a = some o ∧ o.cls = .type t ∧ (t = "tuple" ∨ t = "list" ∨ t = "dict"))
    (hs : PySem.W.findIn K (.ref C) "__eq__" = some (some (.ref f))) (hf : PySem.W.isFn K (.ref f) = true)
    (h : wpAny (model prog w) A (call (.ref f) [.ref x, u]) (PySem.W.CmpBack Q) E s) : wpAny (model prog w) A (richCompare .Eq u (.ref x)) Q E s := by
  have hmt := hm t ht
  rcases hk with ⟨rfl, rfl⟩ | ⟨rfl, b, rfl⟩ | ⟨rfl, i, k, rfl⟩ | ⟨rfl, y, k, rfl⟩ | ⟨a, o, rfl, ho, hc, rfl | rfl | rfl⟩
  · exact eq_otherK hu X (T := "NoneType") rfl I hmt F.slot_NoneType_eq (fun Q' q => wpAny_call_entry F.slot_NoneType_eq rfl F.entry_NoneType_eq (none_declines ⟨_, rfl, q⟩) (F.args_NoneType_eq_2 _ _)) hs hf h
  · exact eq_otherK hu X (T := "bool") rfl I hmt F.slot_bool_eq (fun Q' q => wpAny_call_entry F.slot_bool_eq rfl F.entry_int_eq (bool_declines X I np ⟨_, rfl, q⟩) (F.args_int_eq_2 _ _)) hs hf h
  · exact eq_otherK hu X (T := "int") (typeIs_int s i k) I hmt F.slot_int_eq (fun Q' q => wpAny_call_entry F.slot_int_eq (typeIs_int s i k) F.entry_int_eq (int_declines X I np ⟨_, rfl, q⟩) (F.args_int_eq_2 _ _)) hs hf h
  · exact eq_otherK hu X (T := "str") (typeIs_str s y k) I hmt F.slot_str_eq (fun Q' q => wpAny_call_entry F.slot_str_eq (typeIs_str s y k) F.entry_str_eq (str_declines X I np ⟨_, rfl, q⟩) (F.args_str_eq_2 _ _)) hs hf h
  · exact eq_otherK hu X (T := "tuple") ⟨o, ho, hc⟩ I hmt F.slot_tuple_eq (fun Q' q => wpAny_call_entry F.slot_tuple_eq ⟨o, ho, hc⟩ F.entry_tuple_eq (tuple_declines (ol := o) X I hmt ⟨_, rfl, q⟩) (F.args_tuple_eq_2 _ _)) hs hf h
  · exact eq_otherK hu X (T := "list") ⟨o, ho, hc⟩ I hmt F.slot_list_eq (fun Q' q => wpAny_call_entry F.slot_list_eq ⟨o, ho, hc⟩ F.entry_list_eq (list_declines X I hmt ⟨_, rfl, q⟩) (F.args_list_eq_2 _ _)) hs hf h
  · exact eq_otherK hu X (T := "dict") ⟨o, ho, hc⟩ I hmt F.slot_dict_eq (fun Q' q => wpAny_call_entry F.slot_dict_eq ⟨o, ho, hc⟩ F.entry_dict_eq (dict_declines (ol := o) X I hmt ⟨_, rfl, q⟩) (F.args_dict_eq_2 _ _)) hs hf h
end
section
variable {X : Cx}
end
section
variable [Tb]
variable {X : Cx} {W : Wx}
end
end BW

set_option Elab.async false
set_option linter.all false
set_option maxRecDepth 100000
set_option maxHeartbeats 4000000
namespace BW
open PySem PySem.Spec PyProof.Rows L2
theorem eqa_of {K : PySem.W.Frag} {mg : Str → Option Value} {c : Str} {C : Addr} (S : EqC K mg c) (hm : mg c = some (.ref C)) (h : (seven.all fun t => decide (PySem.W.mroIn K C (.type t) = some false)) = true) : EqA K mg c :=
  ⟨S, fun C' hC' t ht => by
    rw [hm] at hC'
    cases hC'
    exact of_decide_eq_true (List.all_eq_true.mp h t ht)⟩
end BW

set_option Elab.async false
set_option linter.all false
set_option maxRecDepth 100000
set_option maxHeartbeats 4000000
namespace BW
open PySem PySem.Spec PyProof.Rows L2
structure TwoC (K : PySem.W.Frag) (mg : Str → Option Value) (c1 c2 : Str) : Prop where
  eA : EqA K mg c1
  ex : ∃ C1 C2, mg c1 = some (.ref C1) ∧ mg c2 = some (.ref C2) ∧ Cls K C2 ∧ PySem.W.findIn K (.ref C2) "__class__" = some (some (.builtin "object.__class__")) ∧ PySem.W.specialIn K (.builtin "object.__class__") "__get__" = some (some (.builtin "getset_descriptor.__get__")) ∧
    PySem.W.takesIn K (.builtin "object.__class__") = some true ∧ PySem.W.mroIn K C2 (.type "object") = some true ∧ PySem.W.findIn K (.ref C2) "__ne__" = some (some (.builtin "object.__ne__")) ∧
    (∀ t ∈ seven, PySem.W.mroIn K C2 (.type t) = some false) ∧ (∀ t ∈ seven, PySem.W.kitOne K (.type t) (.ref C2) = some false) ∧ PySem.W.kitOne K (.ref C1) (.ref C2) = some false ∧ PySem.W.kitOne K (.ref C2) (.ref C1) = some false ∧
    PySem.W.notFirst K C1 (.ref C2) = true ∧ PySem.W.notFirst K C2 (.ref C1) = true
def InstV (H : Hp) (v : V) (C : Addr) : Prop := ∃ a dx, v = .ref a ∧ ((∃ vs, SlX.Slt H a C dx vs) ∨ ∃ fs, H a = some (.ins C dx fs))
section
variable {X : Cx} {pins : List (Addr × Obj)} {σ : L2.St} {H : Hp} {s : Shared}
theorem instV_at {v : V} {u : Value} {C : Addr} (I : Inv X pins σ H s) (h : InstV H v C) (r : RelV v u) : ∃ a ox od, v = .ref a ∧ u = .ref a ∧ PySem.W.InstAt s.heap a ox C od ∧ ∀ p, ox.data ≠ .prim p := by
  obtain ⟨a, dx, rfl, ⟨vs, ha⟩ | ⟨fs, ha⟩⟩ := h
  · cases (show u = Value.ref a from r)
    obtain ⟨sl, od, _, J, _⟩ := SlX.slt_inst I ha
    exact ⟨a, _, _, rfl, rfl, J, fun v e => by cases e⟩
  · cases (show u = Value.ref a from r)
    obtain ⟨mA, O, _⟩ := ins_get I.hok ha
    obtain ⟨od, J, _⟩ := O.look
    exact ⟨a, _, _, rfl, rfl, J, fun v e => by cases e⟩
end
section
variable {X : Cx}
def rEqI (K : PySem.W.Frag) (C : Addr) (sp : Sp) (E : XK) : R2 := fun x y H Q =>
  (InstV H x C ∧ ((∃ t ∈ seven, TyX K H y (.type t)) ∨ ∃ C', InstV H y C' ∧ PySem.W.notFirst K C (.ref C') = true) ∧ sp [x, y] H Q E) ∨ (InstV H y C ∧ (∃ t ∈ seven, TyX K H x (.type t)) ∧ sp [y, x] H Q E)
theorem op_eqI {CX : CXT} {C g : Addr} {n : Nat} {sp : Sp} {E : XK} (hm : ∀ t ∈ seven, PySem.W.mroIn X.K C (.type t) = some false) (hs : PySem.W.findIn X.K (.ref C) "__eq__" = some (some (.ref g))) (hf : PySem.W.isFn X.K (.ref g) = true) (F : FnR X.prog X.w X.K X.mg X.base CX n g sp)
    (hr : Room n X.A) (hx : Passes CX X E) : OpR X (compareOp .Eq) (rEqI X.K C sp E) := by
  intro pins s σ H x y v u Q I rx ry h
  rcases h with ⟨hx1, hy, q⟩ | ⟨hy1, ⟨t, ht, ty⟩, q⟩
  · obtain ⟨a, ox, od, rfl, rfl, J, _⟩ := instV_at I hx1 rx
    obtain ⟨m, hF⟩ := I.fr
    have go : wpAny (model X.prog X.w) X.A (call (.ref g) [.ref a, u]) (PySem.W.CmpBack (EP X pins σ Q)) X.xe s := by
      refine wpAny_mono (wpAny_call (run_fnR (us := [.ref a, u]) (vs := [.ref a, y]) F hr hx I (.cons rfl (.cons ry .nil)) q)) (fun w s' z => ?_) fun _ _ x => x
      obtain ⟨z', H', I', rz, qz⟩ := z
      exact SlX.cmpback rz ⟨z', H', I', rz, qz⟩
    rcases hy with ⟨t, ht, ty⟩ | ⟨C', hy, nf⟩
    · obtain ⟨P, kx, p, _⟩ := kit_of I ry ty
      exact PySem.W.cmp_K (op := .Eq) (tb := .type t) hr.units0 hF I.ok.mod.kin J (kx.ty _ _ I.kIn p) (notFirst_seven ht) hs hf go
    · obtain ⟨a', ox', od', rfl, rfl, J', _⟩ := instV_at I hy ry
      exact PySem.W.cmp_K (op := .Eq) (tb := .ref C') hr.units0 hF I.ok.mod.kin J J'.type nf hs hf go
  · obtain ⟨a, ox, od, rfl, rfl, J, np⟩ := instV_at I hy1 ry
    refine eq_sevenK hr.units0 I.kIn J np hm ht (ty_seven I rx ty ht) hs hf ?_
    refine wpAny_mono (wpAny_call (run_fnR (us := [.ref a, v]) (vs := [.ref a, x]) F hr hx I (.cons rfl (.cons rx .nil)) q)) (fun w s' z => ?_) fun _ _ x => x
    obtain ⟨z', H', I', rz, qz⟩ := z
    exact SlX.cmpback rz ⟨z', H', I', rz, qz⟩
def rNeI (C : Addr) (sp : Sp) (E : XK) : R2 := fun x y H Q => InstV H x C ∧ InstV H y C ∧ sp [x, y] H (fun v H' => ∃ k, v = V.bl k ∧ Q (.bl (!k)) H') E
theorem op_neI {CX : CXT} {C g : Addr} {n : Nat} {sp : Sp} {E : XK} (hm : PySem.W.mroIn X.K C (.type "object") = some true) (hn : PySem.W.findIn X.K (.ref C) "__ne__" = some (some (.builtin "object.__ne__"))) (hs : PySem.W.findIn X.K (.ref C) "__eq__" = some (some (.ref g))) (hf : PySem.W.isFn X.K (.ref g) = true) (F : FnR X.prog X.w X.K X.mg X.base CX n g sp)
    (hr : Room (n + 1) X.A) (hx : Passes CX X E) : OpR X (compareOp .NotEq) (rNeI C sp E) := by
  intro pins s σ H x y v u Q I rx ry h
  obtain ⟨hx1, hy1, q⟩ := h
  obtain ⟨a, ox, od, rfl, rfl, J, _⟩ := instV_at I hx1 rx
  obtain ⟨b, ox', od', rfl, rfl, J', _⟩ := instV_at I hy1 ry
  have hr1 : Room n X.A.in1 := Room.in1 hr
  refine ne_K hr.units0 hr1.units0 I.kIn J J' hm hn hs hf ?_
  refine wpAny_mono (wpAny_call (SlX.run_at (us := [.ref a, .ref b]) (ws := [.ref a, .ref b]) F hr1 I.env0.in1 hx I (.cons rfl (.cons rfl .nil)) q)) (fun w s' z => ?_) fun _ _ x => x
  obtain ⟨z', H', I', rz, k, rfl, qz⟩ := z
  cases (show w = Value.bool k from rz)
  exact ⟨k, rfl, .bl (!k), H', I', rfl, qz⟩
end
def isIns (h : AH) (c : Str) (o : D) : Bool := match o with
  | .ref n => match h[n]? with
    | some (.ins c' _) => decide (c' = c)
    | _ => false
  | _ => false
section
variable [Tb]
theorem isIns_ok {K : PySem.W.Frag} {mg : Str → Option Value} {r : List Addr} {h : AH} {H : Hp} {v : V} {y : D} {c : Str} {C : Addr} (hr : HRel K mg r h H) (hm : mg c = some (.ref C)) (t : RelU K mg r H v y) (z : isIns h c y = true) : ∃ a dx fs, v = .ref a ∧ H a = some (.ins C dx fs) ∧ Rel K mg r H v y := by
  unfold isIns at z
  split at z
  · rename_i n
    cases t with
    | val t => cases t with
      | @ref n a hn =>
        split at z
        · rename_i c' gs hd
          have hcc := of_decide_eq_true z
          subst hcc
          obtain ⟨C', dx, vs, z1, z2, z3, z4, z5⟩ := hr.obj _ _ _ hd hn
          rw [hm] at z1
          cases z1
          exact ⟨a, dx, vs, rfl, z2, .ref hn⟩
        · cases z
  · cases z
theorem instV_1 {K : PySem.W.Frag} {mg : Str → Option Value} {r : List Addr} {h : AH} {H : Hp} {v : V} {y : D} {c : Str} {C : Addr} (hr : HRel K mg r h H) (hm : mg c = some (.ref C)) (t : Rel K mg r H v y) (z : isC h c y = true) : InstV H v C := by
  obtain ⟨a', dx, vs, rfl, z1, z2⟩ := isC_ok hr hm (.val t) z
  exact ⟨a', dx, rfl, .inl ⟨vs, z1⟩⟩
theorem instV_2 {K : PySem.W.Frag} {mg : Str → Option Value} {r : List Addr} {h : AH} {H : Hp} {v : V} {y : D} {c : Str} {C : Addr} (hr : HRel K mg r h H) (hm : mg c = some (.ref C)) (t : Rel K mg r H v y) (z : isIns h c y = true) : InstV H v C := by
  obtain ⟨a', dx, vs, rfl, z1, z2⟩ := isIns_ok hr hm (.val t) z
  exact ⟨a', dx, rfl, .inr ⟨vs, z1⟩⟩
def evIsiO (c1 c2 : Str) (f : Ev) : Ev := fun e h => (f e h).bind fun d h1 => if isIns h1 c2 d then .ok (.bl true) h1 else if isC h1 c1 d then .ok (.bl false) h1 else match tyD h1 d with
  | some _ => .ok (.bl false) h1
  | none => .stuck
def evIsiS (c1 c2 : Str) (f : Ev) : Ev := fun e h => (f e h).bind fun d h1 => if isC h1 c1 d then .ok (.bl true) h1 else if isIns h1 c2 d then .ok (.bl false) h1 else match tyD h1 d with
  | some _ => .ok (.bl false) h1
  | none => .stuck
def evEqX (c1 c2 : Str) (d1 d2 : Fd) (f g : Ev) : Ev := fun e h => (pv f e h).bind fun o h1 => (pv g e h1).bind fun y h2 =>
  if isIns h2 c2 o then (if isIns h2 c2 y || (isC h2 c1 y || (tyD h2 y).isSome) then d2 [o, y] h2 else .stuck)
  else if isC h2 c1 o then (if isIns h2 c2 y || (isC h2 c1 y || (tyD h2 y).isSome) then d1 [o, y] h2 else .stuck)
  else if isIns h2 c2 y then (if (tyD h2 o).isSome then d2 [y, o] h2 else .stuck) else .stuck
def evNeX (c2 : Str) (d2 : Fd) (f g : Ev) : Ev := fun e h => (pv f e h).bind fun o h1 => (pv g e h1).bind fun y h2 =>
  if isIns h2 c2 o && isIns h2 c2 y then (d2 [o, y] h2).bind fun v h3 => match v with
    | .bl b => .ok (.bl (!b)) h3
    | _ => .stuck
  else .stuck
variable {X : Cx} {W : Wx}
theorem den_isiO {c1 c2 : Str} {a : Expr} {p p2 pos : Pos} {f : Ev} (S : TwoC X.K X.mg c1 c2) (hg : Gl X "isinstance") (hm : X.mg "isinstance" = none) (hg2 : Gl X c2) (ha : DenE X W a f)
    (hdb2 : (c2 == ("__debug__" : Str)) = false := by decide)
    (he : starEach [a, .Name c2 p2] X.env = (false, eval a X.env) :: starEach [.Name c2 p2] X.env := by rfl) (hpl : (backTo pos (starEach [.Name c2 p2] X.env)).any (·.1) = false := by rfl) (he2 : starEach [.Name c2 p2] X.env = (false, eval (.Name c2 p2) X.env) :: starEach [] X.env := by rfl) :
    DenE X W (.Call (.Name "isinstance" p) [a, .Name c2 p2] [] pos) (evIsiO c1 c2 f) := by
  obtain ⟨C, hmg, sc, si, hne, hl, hk⟩ := S.eA.eq.ex
  obtain ⟨C1, C2, m1, m2, cl, f1, f2, f3, f4, f5, f6, f7, f8, f9, f10, f11⟩ := S.ex
  rw [hmg] at m1
  cases m1
  have cr : CallR X (.builtin "isinstance") (fun xs H Q => rIsi X.K xs H Q ∨ SlX.rIsiSl X.K (.ref C2) xs H Q) := fun pins s σ H xs us Q I r h => by
    rcases h with h | h
    · exact call_isi pins s σ H xs us Q I r h
    · exact SlX.call_isiSl (.ref C2) pins s σ H xs us Q I r h
  refine PE.imp (pe_callB cr hg hm (by decide +kernel) (pa_cons ha (pa_cons (pe_glob (v := .ref C2) hg2 m2 rfl hdb2) pa_nil he2) he) (by decide) (by decide) he hpl) fun σ H Q ⟨r, e, h, er, hr, ok⟩ => ?_
  unfold evIsiO at ok
  refine rdE_bind er hr ok fun d h1 v r1 H1 s1 hr1 t1 er1 ok1 => ?_
  split at ok1
  · rename_i z
    obtain ⟨a', dx, vs, rfl, z1, z2⟩ := isIns_ok hr1 m2 t1.u z
    have k1 : PySem.W.kitOne X.K (.ref C2) (.ref C2) = some true := by
      unfold PySem.W.kitOne
      rw [if_pos (by simp)]
    exact .inl ⟨_, .ref C2, .ref C2, .ref C2, true, rfl, .own C2, .base (.ins z1 cl f1 f2 f3 f4), k1, ok1 _ r1 H1 (Step.refl _ _) hr1 (.val (.bl _))⟩
  · split at ok1
    · rename_i z
      obtain ⟨a', dx, vs, rfl, z1, z2⟩ := isC_ok hr1 hmg t1.u z
      exact .inr ⟨a', C, dx, vs, .ref C2, false, rfl, rfl, fun w hw => hw, z1, sc, si, f8, ok1 _ r1 H1 (Step.refl _ _) hr1 (.val (.bl _))⟩
    · split at ok1
      · rename_i t ht
        obtain ⟨z1, z2⟩ := tyX_of hr1 t1.u ht
        exact .inl ⟨v, .ref C2, .type t, .ref C2, false, rfl, .own C2, z1, f7 t z2, ok1 _ r1 H1 (Step.refl _ _) hr1 (.val (.bl _))⟩
      · exact ok1.elim
theorem den_isiS {c1 c2 : Str} {a : Expr} {p p2 pos : Pos} {f : Ev} (S : TwoC X.K X.mg c1 c2) (hg : Gl X "isinstance") (hm : X.mg "isinstance" = none) (hg2 : Gl X c1) (ha : DenE X W a f)
    (hdb2 : (c1 == ("__debug__" : Str)) = false := by decide)
    (he : starEach [a, .Name c1 p2] X.env = (false, eval a X.env) :: starEach [.Name c1 p2] X.env := by rfl) (hpl : (backTo pos (starEach [.Name c1 p2] X.env)).any (·.1) = false := by rfl) (he2 : starEach [.Name c1 p2] X.env = (false, eval (.Name c1 p2) X.env) :: starEach [] X.env := by rfl) :
    DenE X W (.Call (.Name "isinstance" p) [a, .Name c1 p2] [] pos) (evIsiS c1 c2 f) := by
  obtain ⟨C, hmg, sc, si, hne, hl, hk⟩ := S.eA.eq.ex
  obtain ⟨C1, C2, m1, m2, cl, f1, f2, f3, f4, f5, f6, f7, f8, f9, f10, f11⟩ := S.ex
  rw [hmg] at m1
  cases m1
  have cr : CallR X (.builtin "isinstance") (fun xs H Q => rIsi X.K xs H Q ∨ SlX.rIsiSl X.K (.ref C) xs H Q) := fun pins s σ H xs us Q I r h => by
    rcases h with h | h
    · exact call_isi pins s σ H xs us Q I r h
    · exact SlX.call_isiSl (.ref C) pins s σ H xs us Q I r h
  refine PE.imp (pe_callB cr hg hm (by decide +kernel) (pa_cons ha (pa_cons (pe_glob (v := .ref C) hg2 hmg rfl hdb2) pa_nil he2) he) (by decide) (by decide) he hpl) fun σ H Q ⟨r, e, h, er, hr, ok⟩ => ?_
  unfold evIsiS at ok
  refine rdE_bind er hr ok fun d h1 v r1 H1 s1 hr1 t1 er1 ok1 => ?_
  split at ok1
  · rename_i z
    obtain ⟨a', dx, vs, rfl, z1, z2⟩ := isC_ok hr1 hmg t1.u z
    have k1 : PySem.W.kitOne X.K (.ref C) (.ref C) = some true := by
      unfold PySem.W.kitOne
      rw [if_pos (by simp)]
    exact .inr ⟨a', C, dx, vs, .ref C, true, rfl, rfl, fun w hw => hw, z1, sc, si, k1, ok1 _ r1 H1 (Step.refl _ _) hr1 (.val (.bl _))⟩
  · split at ok1
    · rename_i z
      obtain ⟨a', dx, vs, rfl, z1, z2⟩ := isIns_ok hr1 m2 t1.u z
      exact .inl ⟨_, .ref C, .ref C2, .ref C, false, rfl, .own C, .base (.ins z1 cl f1 f2 f3 f4), f9, ok1 _ r1 H1 (Step.refl _ _) hr1 (.val (.bl _))⟩
    · split at ok1
      · rename_i t ht
        obtain ⟨z1, z2⟩ := tyX_of hr1 t1.u ht
        exact .inl ⟨v, .ref C, .type t, .ref C, false, rfl, .own C, z1, hk t z2, ok1 _ r1 H1 (Step.refl _ _) hr1 (.val (.bl _))⟩
      · exact ok1.elim
theorem rd_fd2 {d : Fd} {r : List Addr} {h : AH} {H : Hp} {σ : L2.St} {Q : VK} {v u : V} {o y : D} (hr : HRel X.K X.mg r h H) (t1 : Rel X.K X.mg r H v o) (t2 : Rel X.K X.mg r H u y) (ok : OkE X.K X.mg W σ r H Q (d [o, y] h)) : spF X.K X.mg 2 d [v, u] H Q (fun cc dd H => ∃ σ, W cc dd σ H) := by
  refine ⟨r, h, [o, y], hr, .cons t1 (.cons t2 .nil), rfl, ?_⟩
  cases hd : d [o, y] h with
  | stuck => rw [hd] at ok; exact ok
  | exc y h4 => rw [hd] at ok; exact fun cc dd r' H' s' hr' t => ⟨σ, ok cc dd r' H' s' hr' t⟩
  | ok y h4 => rw [hd] at ok; exact fun v r' H' s' hr' t => ok v r' H' s' hr' (.val t)
theorem den_eqX {c1 c2 : Str} {k1 k2 j : Nat} {d1 d2 : Fd} {a b : Expr} {pos : Pos} {fa fb : Ev} (S : TwoC X.K X.mg c1 c2) (M1 : Mt X.prog X.w X.K X.mg X.base c1 "__eq__" k1 2 d1) (M2 : Mt X.prog X.w X.K X.mg X.base c2 "__eq__" k2 2 d2) (hr : Room j X.A) (tk : Takes X W) (hc : Wc W) (ha : DenE X W a fa) (hb : DenE X W b fb)
    (hjk1 : k1 + 1 ≤ j := by decide) (hjk2 : k2 + 1 ≤ j := by decide) (hm : behindInMarks .Eq b = false := by first | exact nomark _ | rfl) : DenE X W (.Compare a [.Eq] [b] pos) (evEqX c1 c2 d1 d2 fa fb) := by
  obtain ⟨C, hmg, sc, si, hne, hl, hk⟩ := S.eA.eq.ex
  obtain ⟨C1, C2, m1, m2, cl, f1, f2, f3, f4, f5, f6, f7, f8, f9, f10, f11⟩ := S.ex
  rw [hmg] at m1
  cases m1
  have no1 := S.eA.no C hmg
  obtain ⟨C1', g1, hm1', me1, F1⟩ := M1
  obtain ⟨C2', g2, hm2', me2, F2⟩ := M2
  rw [hmg] at hm1'
  cases hm1'
  rw [m2] at hm2'
  cases hm2'
  have op2 := op_eqI f6 me2.at_ me2.fn F2 (hr.mono (Nat.le_of_succ_le hjk2)) (passesW tk hc)
  have op1 := op_eqI no1 me1.at_ me1.fn F1 (hr.mono (Nat.le_of_succ_le hjk1)) (passesW tk hc)
  refine PE.imp (pe_cmpR (op2.or op1) (den_pv ha) (den_pv hb) hm) fun σ H Q ⟨r, e, h, er, hrel, ok⟩ => ?_
  unfold evEqX at ok
  refine rdV_bind er hrel ok fun o h1 v r1 H1 s1 hr1 t1 er1 ok1 => ?_
  refine rdV_bind er1 hr1 ok1 fun y h2 u r2 H2 s2 hr2 t2 er2 ok2 => ?_
  have t1' := t1.mono s2.mn
  have nf2 : PySem.W.notFirst X.K C2 (.ref C2) = true := notFirst_self
  have nf1 : PySem.W.notFirst X.K C (.ref C) = true := notFirst_self
  have side : ∀ C0, PySem.W.notFirst X.K C0 (.ref C2) = true → PySem.W.notFirst X.K C0 (.ref C) = true → (isIns h2 c2 y || (isC h2 c1 y || (tyD h2 y).isSome)) = true → (∃ t ∈ seven, TyX X.K H2 u (.type t)) ∨ ∃ C', InstV H2 u C' ∧ PySem.W.notFirst X.K C0 (.ref C') = true := fun C0 q2 q1 z => by
    rw [Bool.or_eq_true, Bool.or_eq_true] at z
    rcases z with z | z | z
    · exact .inr ⟨C2, instV_2 hr2 m2 t2 z, q2⟩
    · exact .inr ⟨C, instV_1 hr2 hmg t2 z, q1⟩
    · obtain ⟨t, ht⟩ := Option.isSome_iff_exists.mp z
      obtain ⟨ty, hs⟩ := tyX_of hr2 (.val t2) ht
      exact .inl ⟨t, hs, ty⟩
  split at ok2
  · rename_i z
    split at ok2
    · rename_i z2
      exact .inl (.inl ⟨instV_2 hr2 m2 t1' z, side C2 nf2 f11 z2, rd_fd2 hr2 t1' t2 ok2⟩)
    · exact ok2.elim
  · split at ok2
    · rename_i z
      split at ok2
      · rename_i z2
        exact .inr (.inl ⟨instV_1 hr2 hmg t1' z, side C f10 nf1 z2, rd_fd2 hr2 t1' t2 ok2⟩)
      · exact ok2.elim
    · split at ok2
      · rename_i z
        split at ok2
        · rename_i z2
          obtain ⟨t, ht⟩ := Option.isSome_iff_exists.mp z2
          obtain ⟨ty, hs⟩ := tyX_of hr2 (.val t1') ht
          exact .inl (.inr ⟨instV_2 hr2 m2 t2 z, ⟨t, hs, ty⟩, rd_fd2 hr2 t2 t1' ok2⟩)
        · exact ok2.elim
      · exact ok2.elim
theorem den_neX {c1 c2 : Str} {k2 j : Nat} {d2 : Fd} {a b : Expr} {pos : Pos} {fa fb : Ev} (S : TwoC X.K X.mg c1 c2) (M2 : Mt X.prog X.w X.K X.mg X.base c2 "__eq__" k2 2 d2) (hr : Room j X.A) (tk : Takes X W) (hc : Wc W) (ha : DenE X W a fa) (hb : DenE X W b fb)
    (hjk2 : k2 + 1 ≤ j := by decide) (hm : behindInMarks .NotEq b = false := by first | exact nomark _ | rfl) : DenE X W (.Compare a [.NotEq] [b] pos) (evNeX c2 d2 fa fb) := by
  obtain ⟨C1, C2, m1, m2, cl, f1, f2, f3, f4, f5, f6, f7, f8, f9, f10, f11⟩ := S.ex
  obtain ⟨C2', g2, hm2', me2, F2⟩ := M2
  rw [m2] at hm2'
  cases hm2'
  refine PE.imp (pe_cmpR (op_neI f4 f5 me2.at_ me2.fn F2 (hr.mono hjk2) (passesW tk hc)) (den_pv ha) (den_pv hb) hm) fun σ H Q ⟨r, e, h, er, hrel, ok⟩ => ?_
  unfold evNeX at ok
  refine rdV_bind er hrel ok fun o h1 v r1 H1 s1 hr1 t1 er1 ok1 => ?_
  refine rdV_bind er1 hr1 ok1 fun y h2 u r2 H2 s2 hr2 t2 er2 ok2 => ?_
  have t1' := t1.mono s2.mn
  split at ok2
  · rename_i z
    rw [Bool.and_eq_true] at z
    refine ⟨instV_2 hr2 m2 t1' z.1, instV_2 hr2 m2 t2 z.2, r2, h2, [o, y], hr2, .cons t1' (.cons t2 .nil), rfl, ?_⟩
    cases hd : d2 [o, y] h2 with
    | stuck => rw [hd] at ok2; exact ok2
    | exc y h4 => rw [hd] at ok2; exact fun cc dd r' H' s' hr' t => ⟨σ, ok2 cc dd r' H' s' hr' t⟩
    | ok w h4 =>
      rw [hd, Out.bind_ok] at ok2
      intro v r' H' s' hr' t
      cases w with
      | bl k =>
        cases t
        exact ⟨k, rfl, ok2 _ r' H' s' hr' (.val (.bl _))⟩
      | _ => exact ok2.elim
  · exact ok2.elim
end
end BW

set_option Elab.async false
set_option linter.all false
set_option maxRecDepth 100000
set_option maxHeartbeats 4000000
namespace BW
open PySem PySem.Spec PyProof.Rows L2
theorem twoc_of {K : PySem.W.Frag} {mg : Str → Option Value} {c1 c2 : Str} {C1 C2 : Addr} (S : EqA K mg c1) (h1 : mg c1 = some (.ref C1)) (h2 : mg c2 = some (.ref C2)) (cl : Cls K C2) (a1 : PySem.W.findIn K (.ref C2) "__class__" = some (some (.builtin "object.__class__")))
    (a2 : PySem.W.specialIn K (.builtin "object.__class__") "__get__" = some (some (.builtin "getset_descriptor.__get__"))) (a3 : PySem.W.takesIn K (.builtin "object.__class__") = some true) (a4 : PySem.W.mroIn K C2 (.type "object") = some true) (a5 : PySem.W.findIn K (.ref C2) "__ne__" = some (some (.builtin "object.__ne__")))
    (z : ((seven.all fun t => decide (PySem.W.mroIn K C2 (.type t) = some false)) && ((seven.all fun t => decide (PySem.W.kitOne K (.type t) (.ref C2) = some false)) && (decide (PySem.W.kitOne K (.ref C1) (.ref C2) = some false) && (decide (PySem.W.kitOne K (.ref C2) (.ref C1) = some false) && (PySem.W.notFirst K C1 (.ref C2) && PySem.W.notFirst K C2 (.ref C1)))))) = true) : TwoC K mg c1 c2 := by
  simp only [Bool.and_eq_true, decide_eq_true_eq] at z
  obtain ⟨z1, z2, z3, z4, z5, z6⟩ := z
  exact ⟨S, C1, C2, h1, h2, cl, a1, a2, a3, a4, a5, fun t ht => of_decide_eq_true (List.all_eq_true.mp z1 t ht), fun t ht => of_decide_eq_true (List.all_eq_true.mp z2 t ht), z3, z4, z5, z6⟩
end BW

set_option Elab.async false
set_option linter.all false
set_option maxRecDepth 100000
set_option maxHeartbeats 4000000
namespace BW
open PySem PySem.Spec PyProof.Rows L2
variable [Tb]
def bReprE (h : AH) (ds : List D) : Option D := match bReprT h ds with
  | some d => some d
  | none => match ds with
    | [.ref k] => match h[k]? with
      | some (.dk []) => some (.str (PyData.dict []).shown)
      | _ => none
    | _ => none
section
variable {X : Cx} {W : Wx}
theorem cd_reprE (hu : X.A.units + 64 < cLine) (hG : X.A.guards = some []) : CallD X (.builtin "repr") bReprE := fun pins s σ H xs us Q I rv q => by
  obtain ⟨r, h, ds, d, hr, ts, hg, q⟩ := q
  unfold bReprE at hg
  split at hg
  · rename_i d' hb
    cases hg
    exact cd_reprT hu hG pins s σ H xs us Q I rv ⟨r, h, ds, d, hr, ts, hb, q⟩
  · split at hg
    · rename_i k hno
      split at hg
      · rename_i hk
        cases hg
        obtain ⟨v, rfl, t⟩ := ts.one
        cases rv with
        | cons ru rr =>
          cases rr
          cases t with
          | val t =>
            obtain ⟨as, rd, ns⟩ := readsQ I hr 1 (.ref k) (.dict []) v _ (by simp [dataQ, hk]) t ru
            cases t with
            | ref hn =>
              cases ru
              have y4 : ((PyData.dict []).showable && decide ((PyData.dict []).shown.length ≤ 20000)) = true := by decide +kernel
              simp only [Bool.and_eq_true, decide_eq_true_eq] at y4
              have dp : (PyData.dict []).depth ≤ 40 := by decide +kernel
              exact repr_of_reads' rd y4.1 (fun _ => ns) hG (by omega) (fun b o e => e) (fun h' u tk hk => ⟨.str (PyData.dict []).shown, H, I.kept (t' := tk) hk, ⟨u, rfl⟩, q _ H (Step.refl r H) hr (.val (.str _))⟩) (by have := y4.2; rw [sizeLine_eq]; omega)
      · cases hg
    · cases hg
end
end BW

set_option Elab.async false
set_option linter.all false
set_option maxRecDepth 100000
set_option maxHeartbeats 4000000
namespace BW
open PySem PySem.Spec PyProof.Rows L2
def d_is_whole : Fd := fnD 1
  (svRet (evAnd (evIsi ["int"] (evVar 0)) (evNot (evIsi ["bool"] (evVar 0)))))
def d_is_among : Fd := fnD 3
  (svRet (evAnd (evCall d_is_whole [(evVar 0)]) (evChain opLe opLe (evVar 1) (evVar 0) (evVar 2))))
def d_is_list : Fd := fnD 1
  (svRet (evIsi ["list", "tuple"] (evVar 0)))
def d_is_bond : Fd := fnD 4
  (svSeq (svAsg (evOp opIx (evOp opIx (evVar 0) (evVar 1)) (evVar 2)) (gvName 3)) (svSeq (svIf (tvOf (evOp opEq (evVar 1) (evVar 2))) (svRet (evCall d_is_among [(evVar 3), (evC (.int 1)), (evC (.int 1))])) svNil) (svRet (evAnd (evCall d_is_whole [(evVar 3)]) (evAnd (evInG false [.int 2, .int 3, .int 4, .int 6, .int 0] (evVar 3)) (evOr (evOp opLt (evVar 1) (evVar 2)) (evOp opEq (evVar 3) (evOp opIx (evOp opIx (evVar 0) (evVar 2)) (evVar 1)))))))))
def d_need_rows : Fd := fnD 4
  (svSeq (svIf (tvOr (tvNot (tvOf (evCall d_is_list [(evVar 0)]))) (tvOf (evOp opEq (evB bLen [(evVar 0)]) (evC (.int 0))))) (svRaise1 "BadBonds" (evC .non)) svNil) (svSeq (svIf (tvOf (evOp opGt (evB bLen [(evVar 0)]) (evC (.int 6)))) (svRaise1 "TooGreat" (evC (.int 6))) svNil) (svSeq (svFor (ivSeq (evVar 0)) (gvName 1) (svIf (tvOr (tvNot (tvOf (evCall d_is_list [(evVar 1)]))) (tvOf (evOp opNe (evB bLen [(evVar 1)]) (evB bLen [(evVar 0)])))) (svRaise1 "BadBonds" (evC .non)) svNil)) (svFor (ivBy [(evB bLen [(evVar 0)])] kR1) (gvName 2) (svFor (ivBy [(evB bLen [(evVar 0)])] kR1) (gvName 3) (svIf (tvNot (tvOf (evCall d_is_bond [(evVar 0), (evVar 2), (evVar 3)]))) (svRaise1 "BadBonds" (evTup [(evOp opAdd (evVar 2) (evC (.int 1))), (evOp opAdd (evVar 3) (evC (.int 1)))])) svNil))))))
def d_Bonds___init__ : Fd := fnD 3
  (svSeq (svExpr (evCall d_need_rows [(evVar 1)])) (svSlot "Bonds" (evVar 0) (evB bTuple [(evLc (ivSeq (evVar 1)) (Tgt.own (.one 2)) (Tgt.gv (.one 2)) tvYes (evB bTuple [(evVar 2)]))])))
def d_Bonds___len__ : Fd := fnD 1
  (svRet (evB bLen [(evSlot "Bonds" (evVar 0))]))
def d_need_word : Fd := fnD 4
  (svSeq (svIf (tvNot (tvOf (evCall d_is_list [(evVar 1)]))) (svRaise1 "BadWord" (evC .non)) svNil) (svSeq (svIf (tvOf (evOp opGt (evB bLen [(evVar 1)]) (evC (.int 60)))) (svRaise1 "TooGreat" (evC (.int 60))) svNil) (svFor (ivBy [(evVar 1)] kEnum) (gvTup [(gvName 2), (gvName 3)]) (svIf (tvNot (tvOf (evCall d_is_among [(evVar 3), (evC (.int 1)), (evLenO "Bonds" d_Bonds___len__ (evVar 0))]))) (svRaise1 "BadWord" (evVar 2)) svNil))))
def d_is_choice : Fd := fnD 5
  (svSeq (svIf (tvOr (tvNot (tvOf (evIsi ["tuple"] (evVar 1)))) (tvNot (tvOf (evB bAll [(evLc (ivSeq (evVar 1)) (Tgt.own (.one 2)) (Tgt.gv (.one 2)) tvYes (evCall d_is_among [(evVar 2), (evC (.int 1)), (evLenO "Bonds" d_Bonds___len__ (evVar 0))]))])))) (svRet (evC (.bl false))) svNil) (svRet (evB bAll [(evLc (ivBy [(evVar 1), (evSl (evVar 1) (pvSome (evC (.int 1))) pvNone)] kZip) (Tgt.own (.two 3 4)) (Tgt.gv (.two 3 4)) tvYes (evOp opLt (evVar 3) (evVar 4)))])))
def d_need_choice : Fd := fnD 2
  (svIf (tvNot (tvOf (evCall d_is_choice [(evVar 0), (evVar 1)]))) (svRaise1 "BadChoice" (evVar 1)) svNil)
end BW

set_option Elab.async false
set_option linter.all false
set_option maxRecDepth 100000
set_option maxHeartbeats 4000000
namespace BW
open PySem PySem.Spec PyProof.Rows L2
def d__law_mixed : Fd := fnD 3
  (svSeq (svAsg (evOp opAdd (evOp opAdd (evOp opMod (evB bInt [(evOp opMul (evOp opMul (evVar 0) (evOp opAdd (evC (.int 1)) (evOp opMul (evC (.int 2)) (evVar 1)))) (evC (.int 48271)))]) (evC (.int 2147483647))) (evOp opMul (evOp opMul (evC (.int 7919)) (evVar 1)) (evVar 1))) (evOp opMul (evC (.int 104729)) (evVar 1))) (gvName 2)) (svRet (evOp opFdiv (evOp opMod (evB bInt [(evOp opMul (evVar 2) (evC (.int 69621)))]) (evC (.int 2147483629))) (evC (.int 7)))))
def d__law_folded : Fd := fnD 4
  (svSeq (svAsg (evLc (ivBy [(evC (.int 64))] kR1) (Tgt.own (.one 2)) (Tgt.gv (.one 2)) tvYes (evOp opAdd (evC (.int 17)) (evVar 2))) (gvName 1)) (svSeq (svFor (ivBy [(evVar 0)] kEnum) (gvTup [(gvName 2), (gvName 3)]) (svAsg (evOp opMod (evB bInt [(evOp opAdd (evOp opMul (evOp opIx (evVar 1) (evOp opMod (evB bInt [(evVar 2)]) (evC (.int 64)))) (evC (.int 48271))) (evVar 3))]) (evC (.int 2147483647))) (gvSubL (evVar 1) (evOp opMod (evB bInt [(evVar 2)]) (evC (.int 64)))))) (svSeq (svFor (ivBy [(evC (.int 1)), (evC (.int 64))] kR2) (gvName 2) (svAsg (evOp opMod (evB bInt [(evOp opAdd (evOp opIx (evVar 1) (evVar 2)) (evOp opMul (evOp opIx (evVar 1) (evOp opSub (evVar 2) (evC (.int 1)))) (evC (.int 16807))))]) (evC (.int 2147483647))) (gvSubL (evVar 1) (evVar 2)))) (svRet (evVar 1)))))
def d__law_draw : Fd := fnD 6
  (svSeq (svAsg (evDg (evVar 0) (evC (.str "spot"))) (gvName 2)) (svSeq (svDput (evVar 0) (evC (.str "spot")) (evOp opAdd (evVar 2) (evC (.int 1)))) (svSeq (svIf (tvOf (evOp opNe (evDg (evVar 0) (evC (.str "great"))) (evLst []))) (svSeq (svAsg (evDg (evVar 0) (evC (.str "great"))) (gvName 3)) (svSeq (svAsg (evOp opMod (evB bInt [(evVar 2)]) (evB bLen [(evVar 3)])) (gvName 4)) (svSeq (svAsg (evOp opIx (evVar 3) (evVar 4)) (gvName 5)) (svIf (tvOf (evOp opGt (evVar 5) (evC (.int 0)))) (svSeq (svAsg (evOp opFdiv (evVar 5) (evVar 1)) (gvSubL (evVar 3) (evVar 4))) (svRet (evOp opMod (evB bInt [(evVar 5)]) (evVar 1)))) svNil)))) svNil) (svSeq (svAsg (evDg (evVar 0) (evC (.str "cells"))) (gvName 3)) (svRet (evOp opMod (evB bInt [(evCall d__law_mixed [(evCall d__law_mixed [(evOp opAdd (evOp opIx (evVar 3) (evOp opMod (evB bInt [(evVar 2)]) (evC (.int 64)))) (evOp opMul (evC (.int 31)) (evOp opFdiv (evVar 2) (evC (.int 64))))), (evVar 2)]), (evOp opAdd (evVar 2) (evC (.int 7)))])]) (evVar 1)))))))
def d__law_begun : Fd := fnD 3
  (svSeq (svAsg (evDisp [((evC (.str "cells")), (evCall d__law_folded [(evVar 0)])), ((evC (.str "great")), (evLst [])), ((evC (.str "spot")), (evC (.int 0)))]) (gvName 1)) (svSeq (svDput (evVar 1) (evC (.str "great")) (evLc (ivSeq (evVar 0)) (Tgt.own (.one 2)) (Tgt.gv (.one 2)) tvYes (evIf (tvOf (evOp opGe (evVar 2) (evOp opPow (evC (.int 10)) (evC (.int 18))))) (evVar 2) (evC (.int 0))))) (svRet (evVar 1))))
end BW

set_option Elab.async false
set_option linter.all false
set_option maxRecDepth 100000
set_option maxHeartbeats 4000000
namespace BW
open PySem PySem.Spec PyProof.Rows L2
end BW

set_option Elab.async false
set_option linter.all false
set_option maxRecDepth 100000
set_option maxHeartbeats 4000000
namespace BW
open PySem PySem.Spec PyProof.Rows L2
def d_Bench___init__ : Fd := fnD 3
  (svSeq (svExpr (evCall d_need_word [(evVar 1), (evVar 2)])) (svSeq (svAttr "Bench" "bonds" (evVar 0) (evVar 1)) (svSeq (svAttr "Bench" "first" (evVar 0) (evB bTuple [(evVar 2)])) (svAsg (evTup [(evTup []), (evTup [])]) (gvTup [(gvAttr "Bench" "held" (evVar 0)), (gvAttr "Bench" "later" (evVar 0))])))))
def d_Bench_deeds : Fd := fnD 2
  (svRet (evB bTuple [(evLc (ivSeq (evAttr "Bench" "held" (evVar 0))) (Tgt.own (.one 1)) (Tgt.gv (.one 1)) tvYes (evOp opIx (evVar 1) (evC (.int 0))))]))
end BW

set_option Elab.async false
set_option linter.all false
set_option maxRecDepth 100000
set_option maxHeartbeats 4000000
namespace BW
open PySem PySem.Spec PyProof.Rows L2
def d_Bonds___eq__X : Fd := fnD 2
  (svRet (evAnd (evIsiS "Bonds" "Bench" (evVar 1)) (evOp opEq (evSlot "Bonds" (evVar 0)) (evSlot "Bonds" (evVar 1)))))
def d_Bench___eq__X : Fd := fnD 2
  (svSeq (svIf (tvOr (tvNot (tvOf (evIsiO "Bonds" "Bench" (evVar 1)))) (tvOf (evNeO "Bonds" d_Bonds___eq__X (evAttr "Bench" "bonds" (evVar 0)) (evAttr "Bench" "bonds" (evVar 1))))) (svRet (evC (.bl false))) svNil) (svRet (evAnd (evOp opEq (evAttr "Bench" "first" (evVar 0)) (evAttr "Bench" "first" (evVar 1))) (evOp opEq (evMethI "Bench" "deeds" d_Bench_deeds (evVar 0) []) (evMethI "Bench" "deeds" d_Bench_deeds (evVar 1) [])))))
def d2_law_each_right : Fd := fnD 7
  (svSeq (svAsg (evLst [(evMk1 "BadChoice" (evVar 0)), (evMk1 "BadText" (evVar 0)), (evMk0 "NothingLeft"), (evMk0 "Endless"), (evMk1 "BadWord" (evVar 0)), (evMk1 "BadNumber" (evVar 0)), (evMk0 "Unlike")]) (gvName 1)) (svSeq (svAsg (evLst [(evFld "value" (evOp opIx (evVar 1) (evC (.int 0)))), (evFld "place" (evOp opIx (evVar 1) (evC (.int 1)))), (evFld "value" (evMk1 "BadChoice" (evVar 0))), (evFld "place" (evMk1 "BadText" (evVar 0)))]) (gvName 2)) (svSeq (svIf (tvOf (evOp opNe (evLc (ivSeq (evVar 2)) (Tgt.own (.one 4)) (Tgt.gv (.one 4)) (tvOf (evOp opNe (evB bReprE [(evVar 4)]) (evB bReprE [(evVar 0)]))) (evVar 4)) (evLst []))) (svRet (evC (.bl false))) svNil) (svSeq (svFor (ivBy [(evVar 1)] kEnum) (gvTup [(gvName 3), (gvName 4)]) (svSeq (svAsg (evLst [(evIsX (fun c => decide (c = "BadChoice")) (evVar 4)), (evIsX (fun c => decide (c = "BadText")) (evVar 4)), (evIsX (fun c => decide (c = "NothingLeft")) (evVar 4))]) (gvName 5)) (svSeq (svAsg (evOp opAdd (evVar 5) (evLst [(evIsX (fun c => decide (c = "Endless")) (evVar 4)), (evIsX (fun c => decide (c = "BadWord")) (evVar 4)), (evIsX (fun c => decide (c = "BadNumber")) (evVar 4))])) (gvName 5)) (svSeq (svExpr (evAppend (evVar 5) (evIsX (fun c => decide (c = "Unlike")) (evVar 4)))) (svSeq (svIf (tvOr (tvOf (evOp opNe (evVar 5) (evLc (ivBy [(evC (.int 7))] kR1) (Tgt.own (.one 6)) (Tgt.gv (.one 6)) tvYes (evOp opEq (evVar 6) (evVar 3))))) (tvNot (tvOf (evIsX (fun c => decide (c ≠ "TooGreat")) (evVar 4))))) (svRet (evC (.bl false))) svNil) (svIf (tvOf (evOp opNe (evLst [(evIsX (fun c => decide (c ≠ "TooGreat")) (evVar 4)), (evIsX (fun c => decide (c = "TooGreat")) (evVar 4))]) (evLst [(evC (.bl true)), (evC (.bl false))]))) (svRet (evC (.bl false))) svNil)))))) (svRet (evC (.bl true)))))))
def d_law : Fd := fnD 6
  (svSeq (svAsg (evCall d__law_begun [(evVar 0)]) (gvName 1)) (svSeq (svIf (tvNot (tvOf (evCall d2_law_each_right [(evOp opIx (evLst [(evC .non), (evC (.int 0)), (evC (.int 7)), (evTup [(evC (.int 1)), (evC (.int 2))]), (evC (.str "x")), (evLst [(evC (.int 3))]), evD0, (evOp opPow (evC (.int 10)) (evC (.int 40)))]) (evCall d__law_draw [(evVar 1), (evC (.int 8))]))]))) (svRet (evC (.bl false))) svNil) (svSeq (svPar [(evMake "Bonds" d_Bonds___init__ [(evLst [(evLst [(evC (.int 1)), (evC (.int 3))]), (evLst [(evC (.int 3)), (evC (.int 1))])])]), (evOp opIx (evLst [(evTup []), (evTup [(evC (.int 1))]), (evTup [(evC (.int 1)), (evC (.int 2))]), (evTup [(evC (.int 2)), (evC (.int 2))])]) (evCall d__law_draw [(evVar 1), (evC (.int 4))]))] [2, 3]) (svSeq (svAsg (evMake "Bench" d_Bench___init__ [(evVar 2), (evVar 3)]) (gvName 4)) (svSeq (svAsg (evOp opIx (evLst [(evC .non), (evVar 3), (evB bList [(evVar 3)]), (evVar 2), (evC (.int 5)), evD0, (evC (.str "bench"))]) (evCall d__law_draw [(evVar 1), (evC (.int 7))])) (gvName 5)) (svRet (evOp opEq (evLst [(evEqX "Bonds" "Bench" d_Bonds___eq__X d_Bench___eq__X (evVar 4) (evVar 5)), (evEqX "Bonds" "Bench" d_Bonds___eq__X d_Bench___eq__X (evVar 5) (evVar 4)), (evNeX "Bench" d_Bench___eq__X (evVar 4) (evMake "Bench" d_Bench___init__ [(evVar 2), (evB bList [(evVar 3)])]))]) (evOp opMul (evLst [(evC (.bl false))]) (evC (.int 3))))))))))
end BW

set_option Elab.async false
set_option linter.all false
set_option maxRecDepth 100000
set_option maxHeartbeats 4000000
namespace BW
open PySem
def Fl.seq (o : Fl) (k : Env → AH → Fl) : Fl := match o with
  | .nx e h => k e h
  | o => o
def Fl.fin (o : Fl) (h : AH) : Out D := match o with
  | .ret d h' => BW.fin h d h'
  | .nx _ h' => BW.fin h .non h'
  | .exc x _ h' => finX h x h'
  | _ => .stuck
section
variable {α β : Type}
@[simp] theorem bind_ok (a : α) (h : AH) (f : α → AH → Out β) : (Out.ok a h).bind f = f a h := nrfl rfl
@[simp] theorem toFl_ok (a : α) (h : AH) (e : Env) (f : α → AH → Fl) : (Out.ok a h).toFl e f = f a h := nrfl rfl
@[simp] theorem toFl_ite (c : Prop) [Decidable c] (a b : Out α) (e : Env) (f : α → AH → Fl) : (if c then a else b).toFl e f = if c then a.toFl e f else b.toFl e f := by split <;> rfl
end
@[simp] theorem seq_nx (e : Env) (h : AH) (k : Env → AH → Fl) : (Fl.nx e h).seq k = k e h := nrfl rfl
@[simp] theorem seq_ret (d : D) (h : AH) (k : Env → AH → Fl) : (Fl.ret d h).seq k = .ret d h := nrfl rfl
@[simp] theorem seq_exc (x : D) (e : Env) (h : AH) (k : Env → AH → Fl) : (Fl.exc x e h).seq k = .exc x e h := nrfl rfl
@[simp] theorem seq_ite (c : Prop) [Decidable c] (a b : Fl) (k : Env → AH → Fl) : (if c then a else b).seq k = if c then a.seq k else b.seq k := by split <;> rfl
@[simp] theorem fin_ret (d : D) (h h' : AH) : (Fl.ret d h').fin h = BW.fin h d h' := nrfl rfl
@[simp] theorem fin_nx (e : Env) (h h' : AH) : (Fl.nx e h').fin h = BW.fin h .non h' := nrfl rfl
@[simp] theorem fin_exc (x : D) (e : Env) (h h' : AH) : (Fl.exc x e h').fin h = finX h x h' := nrfl rfl
@[simp] theorem fin_ite (c : Prop) [Decidable c] (a b : Fl) (h : AH) : (if c then a else b).fin h = if c then a.fin h else b.fin h := by split <;> rfl
theorem fnD_eq (n : Nat) (body : Sv) (ds : List D) (h : AH) : fnD n body ds h = (body (startE n ds) h).fin h := by
  unfold fnD Fl.fin
  cases body (startE n ds) h <;> rfl
@[simp] theorem svSeq_eq (a b : Sv) (e : Env) (h : AH) : svSeq a b e h = (a e h).seq b := by
  unfold svSeq Fl.seq
  cases a e h <;> rfl
@[simp] theorem svNil_eq (e : Env) (h : AH) : svNil e h = .nx e h := nrfl rfl
@[simp] theorem svRet_eq (f : Ev) (e : Env) (h : AH) : svRet f e h = (f e h).toFl e fun d h1 => .ret d h1 := nrfl rfl
@[simp] theorem svExpr_eq (f : Ev) (e : Env) (h : AH) : svExpr f e h = (f e h).toFl e fun _ h1 => .nx e h1 := nrfl rfl
@[simp] theorem svIf_eq (t : Tv) (a b : Sv) (e : Env) (h : AH) : svIf t a b e h = (t e h).toFl e fun c h1 => if c then a e h1 else b e h1 := nrfl rfl
@[simp] theorem svRaise1_eq (c : Str) (f : Ev) (e : Env) (h : AH) : svRaise1 c f e h = (pv f e h).toFl e fun d h1 => .exc (.exc c [d]) e h1 := nrfl rfl
def Out.nxE (o : Out Env) : Fl := match o with
  | .ok e h => .nx e h
  | _ => .stuck
@[simp] theorem nxE_ok (e : Env) (h : AH) : (Out.ok e h).nxE = .nx e h := nrfl rfl
@[simp] theorem svAsg_eq (f : Ev) (g : Gv) (e : Env) (h : AH) : svAsg f g e h = (pv f e h).toFl e fun d h1 => (g d e h1).nxE := nrfl rfl
@[simp] theorem gvName_eq (i : Nat) (d : D) (e : Env) (h : AH) : gvName i d e h = .ok (e.set i (some d)) h := nrfl rfl
@[simp] theorem pv_eq (f : Ev) (e : Env) (h : AH) : pv f e h = (f e h).bind promote := nrfl rfl
@[simp] theorem promote_int (i : Int) (h : AH) : promote (.int i) h = .ok (.int i) h := nrfl rfl
@[simp] theorem promote_bl (b : Bool) (h : AH) : promote (.bl b) h = .ok (.bl b) h := nrfl rfl
@[simp] theorem promote_str (b : Str) (h : AH) : promote (.str b) h = .ok (.str b) h := nrfl rfl
@[simp] theorem promote_non (h : AH) : promote .non h = .ok .non h := nrfl rfl
@[simp] theorem promote_tup (xs : List D) (h : AH) : promote (.tup xs) h = .ok (.tup xs) h := nrfl rfl
@[simp] theorem promote_ref (n : Nat) (h : AH) : promote (.ref n) h = .ok (.ref n) h := nrfl rfl
@[simp] theorem promote_tl (xs : List D) (h : AH) : promote (.tl xs) h = .ok (.ref h.length) (h ++ [.lst xs]) := nrfl rfl
def Out.ofV (o : Option (Option D)) (h : AH) : Out D := match o with
  | some (some d) => .ok d h
  | _ => .stuck
@[simp] theorem ofV_some (d : D) (h : AH) : Out.ofV (some (some d)) h = .ok d h := nrfl rfl
@[simp] theorem evVar_eq (i : Nat) (e : Env) (h : AH) : evVar i e h = Out.ofV e[i]? h := nrfl rfl
@[simp] theorem evC_eq (d : D) (e : Env) (h : AH) : evC d e h = .ok d h := nrfl rfl
theorem ofO_some2 (d : D) (h : AH) : ofO (some d) h = .ok d h := nrfl rfl
@[simp] theorem evOp_eq (g : AH → D → D → Option D) (fa fb : Ev) (e : Env) (h : AH) : evOp g fa fb e h = (fa e h).bind fun x h1 => (fb e h1).bind fun y h2 => ofO (g h2 x y) h2 := nrfl rfl
@[simp] theorem evB_eq (g : AH → List D → Option D) (fs : List Ev) (e : Env) (h : AH) : evB g fs e h = (evs fs e h).bind fun ds h1 => ofO (g h1 ds) h1 := nrfl rfl
@[simp] theorem evs_nil (e : Env) (h : AH) : evs [] e h = .ok [] h := nrfl rfl
@[simp] theorem evs_cons (f : Ev) (fs : List Ev) (e : Env) (h : AH) : evs (f :: fs) e h = (f e h).bind fun d h1 => (evs fs e h1).bind fun ds h2 => .ok (d :: ds) h2 := nrfl rfl
@[simp] theorem evsV_nil (e : Env) (h : AH) : evsV [] e h = .ok [] h := nrfl rfl
@[simp] theorem evsV_cons (f : Ev) (fs : List Ev) (e : Env) (h : AH) : evsV (f :: fs) e h = (pv f e h).bind fun d h1 => (evsV fs e h1).bind fun ds h2 => .ok (d :: ds) h2 := nrfl rfl
@[simp] theorem evCall_eq (d : Fd) (fs : List Ev) (e : Env) (h : AH) : evCall d fs e h = (evsV fs e h).bind d := nrfl rfl
def D.tv (d : D) (h : AH) : Out Bool := match d with
  | .bl b => .ok b h
  | _ => .stuck
@[simp] theorem tv_bl (b : Bool) (h : AH) : (D.bl b).tv h = .ok b h := nrfl rfl
@[simp] theorem tvOf_eq (f : Ev) (e : Env) (h : AH) : tvOf f e h = (f e h).bind D.tv := nrfl rfl
@[simp] theorem tvOr_eq (t u : Tv) (e : Env) (h : AH) : tvOr t u e h = (t e h).bind fun b h1 => if b then .ok true h1 else u e h1 := nrfl rfl
@[simp] theorem tvNot_eq (t : Tv) (e : Env) (h : AH) : tvNot t e h = (t e h).bind fun b h1 => .ok (!b) h1 := nrfl rfl
@[simp] theorem evAnd_eq (f g : Ev) (e : Env) (h : AH) : evAnd f g e h = (f e h).bind fun d h1 => (d.tv h1).bind fun b h2 => if b then g e h2 else .ok (.bl false) h2 := by
  unfold evAnd
  congr 1; funext d h1
  cases d <;> try rfl
  rename_i b; cases b <;> rfl
@[simp] theorem evOr_eq (f g : Ev) (e : Env) (h : AH) : evOr f g e h = (f e h).bind fun d h1 => (d.tv h1).bind fun b h2 => if b then .ok (.bl true) h2 else g e h2 := by
  unfold evOr
  congr 1; funext d h1
  cases d <;> try rfl
  rename_i b; cases b <;> rfl
@[simp] theorem evNot_eq (f : Ev) (e : Env) (h : AH) : evNot f e h = (f e h).bind fun d h1 => (d.tv h1).bind fun b h2 => .ok (.bl (!b)) h2 := by
  unfold evNot
  congr 1; funext d h1
  cases d <;> rfl
@[simp] theorem evIf_eq (t : Tv) (f g : Ev) (e : Env) (h : AH) : evIf t f g e h = (t e h).bind fun b h1 => if b then f e h1 else g e h1 := nrfl rfl
@[simp] theorem evChain_eq (g g' : AH → D → D → Option D) (fa fb fc : Ev) (e : Env) (h : AH) : evChain g g' fa fb fc e h = (fa e h).bind fun x h1 => (fb e h1).bind fun y h2 => (ofO (g h2 x y) h2).bind fun d h3 => (d.tv h3).bind fun b _ => if b then (fc e h2).bind fun z h3 => ofO (g' h3 y z) h3 else .ok (.bl false) h2 := by
  unfold evChain
  congr 1; funext x h1; congr 1; funext y h2
  cases g h2 x y with
  | none => rfl
  | some d =>
    cases d <;> try rfl
    rename_i b; cases b <;> rfl
@[simp] theorem startE_eq (n : Nat) (ds : List D) : startE n ds = ds.map some ++ List.replicate (n - ds.length) none := nrfl rfl
@[simp] theorem opAdd_int (h : AH) (a b : Int) : opAdd h (.int a) (.int b) = some (.int (a + b)) := nrfl rfl
@[simp] theorem opSub_int (h : AH) (a b : Int) : opSub h (.int a) (.int b) = some (.int (a - b)) := nrfl rfl
@[simp] theorem opMod_int (h : AH) (a b : Int) : opMod h (.int a) (.int b) = if 0 < b then some (.int (a % b)) else none := nrfl rfl
theorem opFdiv_int (h : AH) (a b : Int) : opFdiv h (.int a) (.int b) = if 0 < b ∧ b.natAbs.log2 < 9000 then some (.int (a / b)) else none := rfl
@[simp] theorem opLt_int (h : AH) (a b : Int) : opLt h (.int a) (.int b) = some (.bl (decide (a < b))) := nrfl rfl
@[simp] theorem opLe_int (h : AH) (a b : Int) : opLe h (.int a) (.int b) = some (.bl (decide (a ≤ b))) := nrfl rfl
@[simp] theorem opGt_int (h : AH) (a b : Int) : opGt h (.int a) (.int b) = some (.bl (decide (b < a))) := nrfl rfl
@[simp] theorem opGe_int (h : AH) (a b : Int) : opGe h (.int a) (.int b) = some (.bl (decide (b ≤ a))) := nrfl rfl
theorem eqv_int (a b : Int) : PyData.eqv (.int a) (.int b) = decide (a = b) := by
  simp only [PyData.eqv]
  exact Bool.beq_eq_decide_eq a b
@[simp] theorem eqD_int (h : AH) (a b : Int) : eqD h (.int a) (.int b) = some (decide (a = b)) := by
  simp [eqD, dataK, eqv_int]
@[simp] theorem opEq_int (h : AH) (a b : Int) : opEq h (.int a) (.int b) = some (.bl (decide (a = b))) := by simp [opEq]
@[simp] theorem opNe_int (h : AH) (a b : Int) : opNe h (.int a) (.int b) = some (.bl (!decide (a = b))) := by simp [opNe]
@[simp] theorem bInt_int (h : AH) (i : Int) : bInt h [.int i] = some (.int i) := nrfl rfl
@[simp] theorem evIsi_eq (Ts : List String) (f : Ev) (e : Env) (h : AH) : evIsi Ts f e h = (f e h).bind fun d h1 => ofO ((tyD h1 d).map fun t => .bl (Ts.any fun T => isiD T t)) h1 := by
  unfold evIsi
  congr 1; funext d h1
  cases tyD h1 d <;> rfl
theorem oldOk_self (n : Nat) : ∀ (h t : AH), oldOk n h (h ++ t) = true
  | [], _ => rfl
  | o :: h, t => by simp [oldOk, oldOk_self n h t]
theorem fin_pure {h : AH} {d : D} (t : AH) (hp : promote d (h ++ t) = .ok d (h ++ t)) (hd : d.lt h.length = true) : BW.fin h d (h ++ t) = .ok d h := by
  unfold BW.fin
  rw [hp]
  simp [hd, oldOk_self]
theorem fin_pure0 {h : AH} {d : D} (hp : promote d h = .ok d h) (hd : d.lt h.length = true) : BW.fin h d h = .ok d h := by
  have := fin_pure (h := h) (d := d) [] (by rwa [List.append_nil]) hd
  rwa [List.append_nil] at this
@[simp] theorem fin_int (h : AH) (i : Int) : BW.fin h (.int i) h = .ok (.int i) h := fin_pure0 rfl rfl
@[simp] theorem fin_bl (h : AH) (i : Bool) : BW.fin h (.bl i) h = .ok (.bl i) h := fin_pure0 rfl rfl
@[simp] theorem fin_non (h : AH) : BW.fin h .non h = .ok .non h := fin_pure0 rfl rfl
end BW

set_option Elab.async false
set_option linter.all false
set_option maxRecDepth 100000
set_option maxHeartbeats 4000000
namespace BW
open PySem
theorem forGo_inv {g : Option (Nat × GO)} {gv : Gv} {body : Sv} (P : Nat → Env → AH → Prop) (xs : List D) (hg : ∀ i e h, i ≤ xs.length → P i e h → guardOk g h = true)
    (hs : ∀ i d e h, xs[i]? = some d → P i e h → ∃ e1 h1 e2 h2, gv d e h = .ok e1 h1 ∧ body e1 h1 = .nx e2 h2 ∧ P (i + 1) e2 h2) {e : Env} {h : AH} (h0 : P 0 e h) : ∃ e' h', forGo g gv body xs e h = .nx e' h' ∧ P xs.length e' h' := by
  suffices z : ∀ (ys zs : List D) e h, ys ++ zs = xs → P ys.length e h → ∃ e' h', forGo g gv body zs e h = .nx e' h' ∧ P xs.length e' h' by exact z [] xs e h rfl h0
  intro ys zs
  induction zs generalizing ys with
  | nil =>
    intro e h he hp
    rw [List.append_nil] at he
    subst he
    refine ⟨e, h, ?_, hp⟩
    unfold forGo
    rw [if_pos (hg _ _ _ (Nat.le_refl _) hp)]
  | cons d zs ih =>
    intro e h he hp
    have hx : xs[ys.length]? = some d := by rw [← he]; simp
    obtain ⟨e1, h1, e2, h2, a1, a2, a3⟩ := hs _ d e h hx hp
    obtain ⟨e', h', b1, b2⟩ := ih (ys ++ [d]) e2 h2 (by rw [List.append_assoc]; exact he) (by rw [List.length_append]; exact a3)
    refine ⟨e', h', ?_, b2⟩
    have hl : ys.length ≤ xs.length := by rw [← he]; simp
    unfold forGo
    rw [if_pos (hg _ _ _ hl hp)]
    simp only [a1, a2]
    exact b1
theorem forGo_pure {g : Option (Nat × GO)} {gv : Gv} {body : Sv} {h : AH} (P : Env → Prop) (xs : List D) (hg : guardOk g h = true)
    (hs : ∀ d e, d ∈ xs → P e → ∃ e1 e2, gv d e h = .ok e1 h ∧ body e1 h = .nx e2 h ∧ P e2) {e : Env} (h0 : P e) : ∃ e', forGo g gv body xs e h = .nx e' h ∧ P e' := by
  obtain ⟨e', h', a, b, rfl⟩ := forGo_inv (g := g) (gv := gv) (body := body) (fun _ e h' => P e ∧ h' = h) xs (fun _ _ _ _ z => z.2 ▸ hg) (fun i d e h' hd ⟨z1, z2⟩ => by
    subst z2
    obtain ⟨e1, e2, a1, a2, a3⟩ := hs d e (List.mem_of_getElem? hd) z1
    exact ⟨e1, _, e2, _, a1, a2, a3, rfl⟩) ⟨h0, rfl⟩
  exact ⟨e', a, b⟩
theorem lcGo_inv {g : Option (Nat × GO)} {gv : Gv} {tt : Tv} {elt : Ev} {e : Env} (P : Nat → List D → AH → Prop) (xs : List D) (hg : ∀ i l h, i ≤ xs.length → P i l h → guardOk g h = true)
    (hs : ∀ i d l h, xs[i]? = some d → P i l h → ∃ e1 h1, gv d e h = .ok e1 h1 ∧ ((∃ h2, tt e1 h1 = .ok false h2 ∧ P (i + 1) l h2) ∨ ∃ h2 y h3, tt e1 h1 = .ok true h2 ∧ pv elt e1 h2 = .ok y h3 ∧ P (i + 1) (l ++ [y]) h3))
    {h : AH} (h0 : P 0 [] h) : ∃ ys h', lcGo g gv tt elt e xs h = .ok ys h' ∧ P xs.length ys h' := by
  suffices z : ∀ (ys zs : List D) l h, ys ++ zs = xs → P ys.length l h → ∃ us h', lcGo g gv tt elt e zs h = .ok us h' ∧ P xs.length (l ++ us) h' by
    obtain ⟨us, h', a, b⟩ := z [] xs [] h rfl h0
    exact ⟨us, h', a, b⟩
  intro ys zs
  induction zs generalizing ys with
  | nil =>
    intro l h he hp
    rw [List.append_nil] at he
    subst he
    refine ⟨[], h, ?_, by rwa [List.append_nil]⟩
    unfold lcGo
    rw [if_pos (hg _ _ _ (Nat.le_refl _) hp)]
  | cons d zs ih =>
    intro l h he hp
    have hx : xs[ys.length]? = some d := by rw [← he]; simp
    have hl : ys.length ≤ xs.length := by rw [← he]; simp
    obtain ⟨e1, h1, a1, a2⟩ := hs _ d l h hx hp
    rcases a2 with ⟨h2, b1, b2⟩ | ⟨h2, y, h3, b1, b2, b3⟩
    · obtain ⟨us, h', c1, c2⟩ := ih (ys ++ [d]) l h2 (by rw [List.append_assoc]; exact he) (by rw [List.length_append]; exact b2)
      refine ⟨us, h', ?_, c2⟩
      unfold lcGo
      rw [if_pos (hg _ _ _ hl hp)]
      simp only [a1, b1]
      exact c1
    · obtain ⟨us, h', c1, c2⟩ := ih (ys ++ [d]) (l ++ [y]) h3 (by rw [List.append_assoc]; exact he) (by rw [List.length_append]; exact b3)
      refine ⟨y :: us, h', ?_, by simpa using c2⟩
      unfold lcGo
      rw [if_pos (hg _ _ _ hl hp)]
      simp only [a1, b1, b2, c1, bind_ok]
theorem lcGo_pure {g : Option (Nat × GO)} {gv : Gv} {tt : Tv} {elt : Ev} {e : Env} {h : AH} (p : D → Bool) (f : D → D) (xs : List D) (hg : guardOk g h = true)
    (hs : ∀ d ∈ xs, ∃ e1, gv d e h = .ok e1 h ∧ tt e1 h = .ok (p d) h ∧ (p d = true → pv elt e1 h = .ok (f d) h)) : lcGo g gv tt elt e xs h = .ok ((xs.filter p).map f) h := by
  induction xs with
  | nil => unfold lcGo; rw [if_pos hg]; rfl
  | cons d xs ih =>
    obtain ⟨e1, a1, a2, a3⟩ := hs d (List.mem_cons_self)
    have := ih fun d hd => hs d (List.mem_cons_of_mem _ hd)
    unfold lcGo
    rw [if_pos hg]
    simp only [a1, a2]
    cases hp : p d with
    | true =>
      rw [hp] at a2
      simp only [a3 hp, this, bind_ok, List.filter_cons, hp, if_true, List.map_cons]
    | false => simp only [this, List.filter_cons, hp, Bool.false_eq_true, if_false]
@[simp] theorem evLc_eq (iv : Iv) (own : List Nat) (gv : Gv) (tt : Tv) (elt : Ev) (e : Env) (h : AH) : evLc iv own gv tt elt e h = (iv e h).bind fun it h1 => if it.xs.length < 16777216 then (lcGo it.g gv tt elt (wipeE e own) it.xs h1).bind fun ds h2 => .ok (.tl ds) h2 else .stuck := nrfl rfl
@[simp] theorem svFor_eq (iv : Iv) (gv : Gv) (body : Sv) (e : Env) (h : AH) : svFor iv gv body e h = (iv e h).toFl e fun it h1 => forGo it.g gv body it.xs e h1 := nrfl rfl
@[simp] theorem ivBy_eq (fs : List Ev) (k : List D → AH → Out Its) (e : Env) (h : AH) : ivBy fs k e h = (evs fs e h).bind k := nrfl rfl
def Out.its (o : Option Its) (h : AH) : Out Its := match o with
  | some it => .ok it h
  | none => .stuck
@[simp] theorem its_some (it : Its) (h : AH) : Out.its (some it) h = .ok it h := nrfl rfl
@[simp] theorem ivSeq_eq (f : Ev) (e : Env) (h : AH) : ivSeq f e h = (f e h).bind fun d h1 => Out.its (itsOf h1 d) h1 := nrfl rfl
theorem kR1_int (n : Int) (h : AH) : kR1 [.int n] h = if in62 n then .ok { xs := rangeD 0 n.toNat } h else .stuck := rfl
theorem kR2_int (a b : Int) (h : AH) : kR2 [.int a, .int b] h = if in62 a && in62 b then .ok { xs := rangeD a (b - a).toNat } h else .stuck := rfl
theorem in62_of {i : Int} (h0 : -1000000000000 ≤ i) (h1 : i ≤ 1000000000000) : in62 i = true := by
  unfold in62
  simp only [Bool.and_eq_true, decide_eq_true_eq]
  omega
theorem kR1_at {n : Int} (h : AH) (h0 : -1000000000000 ≤ n) (h1 : n ≤ 1000000000000) : kR1 [.int n] h = .ok { xs := rangeD 0 n.toNat } h := by
  rw [kR1_int, if_pos (in62_of h0 h1)]
theorem kR2_at {a b : Int} (h : AH) (h0 : -1000000000000 ≤ a) (h1 : a ≤ 1000000000000) (h2 : -1000000000000 ≤ b) (h3 : b ≤ 1000000000000) : kR2 [.int a, .int b] h = .ok { xs := rangeD a (b - a).toNat } h := by
  have z : (in62 a && in62 b) = true := by rw [in62_of h0 h1, in62_of h2 h3]; rfl
  rw [kR2_int, if_pos z]
theorem opMul_at {a b : Int} (h : AH) (hs : smallI a = true ∨ smallI b = true) : opMul h (.int a) (.int b) = some (.int (a * b)) := by
  have z : (smallI a || smallI b) = true := by rcases hs with z | z <;> simp [z]
  show (if (smallI a || smallI b) = true then _ else _) = _
  rw [if_pos z]
theorem smallI_of {i : Int} (h0 : -1000000000000000000 ≤ i) (h1 : i ≤ 1000000000000000000) : smallI i = true := by
  unfold smallI
  simp only [Bool.and_eq_true, decide_eq_true_eq]
  omega
@[simp] theorem rangeD_length (a : Int) (n : Nat) : (rangeD a n).length = n := by simp [rangeD]
theorem mem_rangeD {a : Int} {n : Nat} {d : D} : d ∈ rangeD a n ↔ ∃ i : Nat, i < n ∧ d = .int (a + i) := by
  simp only [rangeD, List.mem_map, List.mem_range]
  constructor
  · rintro ⟨i, h, rfl⟩; exact ⟨i, h, rfl⟩
  · rintro ⟨i, h, rfl⟩; exact ⟨i, h, rfl⟩
theorem rangeD_get {a : Int} {n i : Nat} {d : D} (h : (rangeD a n)[i]? = some d) : i < n ∧ d = .int (a + i) := by
  simp only [rangeD, List.getElem?_map, Option.map_eq_some_iff] at h
  obtain ⟨j, h1, rfl⟩ := h
  obtain ⟨h2, h3⟩ := List.getElem?_eq_some_iff.mp h1
  simp at h2 h3
  subst h3
  exact ⟨h2, rfl⟩
theorem lcGo_range {g : Option (Nat × GO)} {gv : Gv} {tt : Tv} {elt : Ev} {e : Env} {h : AH} (p : Nat → Bool) (f : Nat → D) (a : Int) (n : Nat) (hg : guardOk g h = true)
    (hs : ∀ i, i < n → ∃ e1, gv (.int (a + (i : Nat))) e h = .ok e1 h ∧ tt e1 h = .ok (p i) h ∧ (p i = true → pv elt e1 h = .ok (f i) h)) : lcGo g gv tt elt e (rangeD a n) h = .ok (((List.range n).filter p).map f) h := by
  unfold rangeD
  suffices z : ∀ l : List Nat, (∀ i ∈ l, i < n) → lcGo g gv tt elt e (l.map fun i => D.int (a + (i : Nat))) h = .ok ((l.filter p).map f) h from z _ fun i hi => List.mem_range.mp hi
  intro l hl
  induction l with
  | nil => unfold lcGo; rw [List.map_nil]; simp only [if_pos hg]; rfl
  | cons d xs ih =>
    obtain ⟨e1, a1, a2, a3⟩ := hs d (hl d (List.mem_cons_self))
    have := ih fun d hd => hl d (List.mem_cons_of_mem _ hd)
    rw [List.map_cons]
    unfold lcGo
    rw [if_pos hg]
    simp only [a1, a2]
    cases hp : p d with
    | true => simp only [a3 hp, this, bind_ok, List.filter_cons, hp, if_true, List.map_cons]
    | false => simp only [this, List.filter_cons, hp, Bool.false_eq_true, if_false]
theorem lcGo_rangeM {g : Option (Nat × GO)} {gv : Gv} {elt : Ev} {e : Env} {h : AH} (f : Nat → D) (a : Int) (n : Nat) (hg : guardOk g h = true)
    (hs : ∀ i, i < n → ∃ e1, gv (.int (a + (i : Nat))) e h = .ok e1 h ∧ pv elt e1 h = .ok (f i) h) : lcGo g gv tvYes elt e (rangeD a n) h = .ok ((List.range n).map f) h := by
  rw [lcGo_range (tt := tvYes) (fun _ => true) f a n hg fun i hi => let ⟨e1, z1, z2⟩ := hs i hi; ⟨e1, z1, rfl, fun _ => z2⟩]
  congr 2
  simp
@[simp] theorem bTuple_tl (h : AH) (xs : List D) : bTuple h [.tl xs] = some (.tup xs) := nrfl rfl
@[simp] theorem bTuple_tup (h : AH) (xs : List D) : bTuple h [.tup xs] = some (.tup xs) := nrfl rfl
@[simp] theorem bLen_tup (h : AH) (xs : List D) : bLen h [.tup xs] = some (.int xs.length) := nrfl rfl
theorem lstOfR_ref {h : AH} {n : Nat} {xs : List D} (e : h[n]? = some (.lst xs)) : lstOfR h (.ref n) = some xs := by simp [lstOfR, e]
theorem lstOf_ref {h : AH} {n : Nat} {xs : List D} (e : h[n]? = some (.lst xs)) : lstOf h (.ref n) = some xs := by simp [lstOf, e]
theorem seqOf_ref {h : AH} {n : Nat} {xs : List D} (e : h[n]? = some (.lst xs)) : seqOf h (.ref n) = some xs := by simp [seqOf, lstOfR, e]
theorem bLen_ref {h : AH} {n : Nat} {xs : List D} (e : h[n]? = some (.lst xs)) : bLen h [.ref n] = some (.int xs.length) := by simp [bLen, seqOf_ref e]
theorem bTuple_ref {h : AH} {n : Nat} {xs : List D} (e : h[n]? = some (.lst xs)) : bTuple h [.ref n] = some (.tup xs) := by simp [bTuple, lstOfR_ref e]
theorem itsOf_ref {h : AH} {n : Nat} {xs : List D} (e : h[n]? = some (.lst xs)) : itsOf h (.ref n) = some { xs := xs, g := some (n, .lst xs) } := by simp [itsOf, e]
@[simp] theorem itsOf_tup (h : AH) (xs : List D) : itsOf h (.tup xs) = some { xs := xs } := nrfl rfl
@[simp] theorem itsOf_rl (h : AH) (xs : List D) : itsOf h (.rl xs) = some { xs := xs } := nrfl rfl
theorem guardOk_some {h : AH} {n : Nat} {xs : List D} (e : h[n]? = some (.lst xs)) : guardOk (some (n, .lst xs)) h = true := by simp [guardOk, e]
@[simp] theorem opIx_tl (h : AH) (xs : List D) (i : Int) : opIx h (.tl xs) (.int i) = L2.atI xs i := nrfl rfl
theorem opIx_ref {h : AH} {n : Nat} {xs : List D} (e : h[n]? = some (.lst xs)) (i : Int) : opIx h (.ref n) (.int i) = L2.atI xs i := by simp [opIx, seqOf_ref e]
theorem atI_get {xs : List D} {i : Int} {d : D} (h0 : 0 ≤ i) (h : xs[i.toNat]? = some d) : L2.atI xs i = some d := by
  obtain ⟨n, rfl⟩ := Int.eq_ofNat_of_zero_le h0
  exact L2.atI_nat h
end BW

set_option Elab.async false
set_option linter.all false
set_option maxRecDepth 100000
set_option maxHeartbeats 4000000
namespace BW
open PySem
@[simp] theorem isWhole_int (i : Int) (h : AH) : d_is_whole [.int i] h = .ok (.bl true) h := by
  simp [d_is_whole, fnD_eq, tyD, isiD]
@[simp] theorem isAmong_int (i a b : Int) (h : AH) : d_is_among [.int i, .int a, .int b] h = .ok (.bl (decide (a ≤ i) && decide (i ≤ b))) h := by
  simp [d_is_among, fnD_eq]
  by_cases h1 : a ≤ i <;> simp [h1]
@[simp] theorem isList_tup (xs : List D) (h : AH) : d_is_list [.tup xs] h = .ok (.bl true) h := by
  simp [d_is_list, fnD_eq, tyD, isiD]
theorem isList_ref {n : Nat} {xs : List D} {h : AH} (e : h[n]? = some (.lst xs)) : d_is_list [.ref n] h = .ok (.bl true) h := by
  simp [d_is_list, fnD_eq, tyD, isiD, e]
def rowD (n : Nat) (f : Nat → Int) : List D := (List.range n).map fun j => .int (f j)
@[simp] theorem rowD_length (n : Nat) (f : Nat → Int) : (rowD n f).length = n := by simp [rowD]
theorem rowD_get {n j : Nat} (f : Nat → Int) (hj : j < n) : (rowD n f)[j]? = some (.int (f j)) := by simp [rowD, hj]
def tabL (n : Nat) (M : Nat → Nat → Int) : List D := (List.range n).map fun i => .tup (rowD n (M i))
@[simp] theorem tabL_length (n : Nat) (M : Nat → Nat → Int) : (tabL n M).length = n := by simp [tabL]
def BondsAt (h : AH) (b n : Nat) (M : Nat → Nat → Int) : Prop := h[b]? = some (.sins "Bonds" [some (.tup (tabL n M))])
theorem slot_eq {h : AH} {b n : Nat} {M : Nat → Nat → Int} (B : BondsAt h b n M) {f : Ev} {e : Env} {h0 : AH} (hf : f e h0 = .ok (.ref b) h) : evSlot "Bonds" f e h0 = .ok (.tup (tabL n M)) h := by
  unfold BondsAt at B
  simp [evSlot, hf, B]
theorem isC_of {h : AH} {b n : Nat} {M : Nat → Nat → Int} (B : BondsAt h b n M) : isC h "Bonds" (.ref b) = true := by
  unfold BondsAt at B
  simp [isC, B]
theorem bondsLen {h : AH} {b n : Nat} {M : Nat → Nat → Int} (B : BondsAt h b n M) : d_Bonds___len__ [.ref b] h = .ok (.int n) h := by
  have := slot_eq B (f := evVar 0) (e := [some (.ref b)]) (h0 := h) rfl
  simp [d_Bonds___len__, fnD_eq, this]
theorem lt63 {n : Nat} (hn : n ≤ 1000) : (0 : Int) ≤ (n : Int) ∧ (n : Int) < 2 ^ 63 := by omega
theorem evLenO_eq (c : Str) (d : Fd) (f : Ev) (e : Env) (h : AH) : evLenO c d f e h = (f e h).bind fun o h1 => if isC h1 c o then (d [o] h1).bind fun v h2 => (match v with
  | .int n => if 0 ≤ n ∧ n < 2 ^ 63 then .ok (.int n) h2 else .stuck
  | _ => .stuck) else .stuck := rfl
theorem lenO_eq {h : AH} {b n : Nat} {M : Nat → Nat → Int} (B : BondsAt h b n M) (hn : n ≤ 1000) {f : Ev} {e : Env} {h0 : AH} (hf : f e h0 = .ok (.ref b) h) : evLenO "Bonds" d_Bonds___len__ f e h0 = .ok (.int n) h := by
  rw [evLenO_eq, hf, bind_ok, if_pos (isC_of B), bondsLen B, bind_ok]
  dsimp only
  rw [if_pos (lt63 hn)]
end BW

set_option Elab.async false
set_option linter.all false
set_option maxRecDepth 100000
set_option maxHeartbeats 4000000
namespace BW
open PySem
theorem dataK_ints (h : AH) (n : Nat) : ∀ w : List Int, allK (dataK h n) (w.map .int) = some (w.map .int)
  | [] => rfl
  | x :: w => by
    have e : dataK h n (.int x) = some (.int x) := by cases n <;> rfl
    rw [List.map_cons, List.map_cons, allK, e, dataK_ints h n w]
theorem eqvAll_ints : ∀ u v : List Int, PyData.eqvAll (u.map .int) (v.map .int) = decide (u = v)
  | [], [] => by simp [PyData.eqvAll]
  | [], _ :: _ => by simp [PyData.eqvAll]
  | _ :: _, [] => by simp [PyData.eqvAll]
  | x :: u, y :: v => by
    simp only [List.map_cons, PyData.eqvAll, eqv_int, eqvAll_ints u v, List.cons.injEq]
    by_cases h1 : x = y <;> by_cases h2 : u = v <;> simp [h1, h2]
theorem eqD_str (h : AH) {x y : Str} (hx : PyData.strOk x = true) (hy : PyData.strOk y = true) : eqD h (.str x) (.str y) = some (x == y) := by
  have e : ∀ {x : Str}, PyData.strOk x = true → dataK h 9 (.str x) = some (.str x) := fun {x} hx => by
    show (if PyData.strOk x = true then some (PyData.str x) else none) = _
    rw [if_pos hx]
  unfold eqD
  rw [e hx, e hy]
  simp only [PyData.eqv]
def WordAt (h : AH) (d : D) (w : List Int) : Prop := d = .tup (w.map .int) ∨ ∃ k, d = .ref k ∧ h[k]? = some (.lst (w.map .int))
section
variable {h : AH} {d : D} {w : List Int}
theorem WordAt.len (W : WordAt h d w) : bLen h [d] = some (.int w.length) := by
  rcases W with rfl | ⟨k, rfl, e⟩
  · simp
  · rw [bLen_ref e]; simp
theorem WordAt.isList (W : WordAt h d w) : d_is_list [d] h = .ok (.bl true) h := by
  rcases W with rfl | ⟨k, rfl, e⟩
  · simp
  · exact isList_ref e
theorem WordAt.tup (W : WordAt h d w) : bTuple h [d] = some (.tup (w.map .int)) := by
  rcases W with rfl | ⟨k, rfl, e⟩
  · simp
  · exact bTuple_ref e
theorem WordAt.prom (W : WordAt h d w) : promote d h = .ok d h := by
  rcases W with rfl | ⟨k, rfl, e⟩ <;> rfl
theorem WordAt.enum (W : WordAt h d w) : ∃ g, kEnum [d] h = .ok { xs := enumD (w.map .int), g := g } h ∧ guardOk g h = true := by
  rcases W with rfl | ⟨k, rfl, e⟩
  · exact ⟨none, rfl, rfl⟩
  · refine ⟨some (k, .lst (w.map .int)), ?_, guardOk_some e⟩
    simp [kEnum, itsOf_ref e]
end
theorem mem_enumD {xs : List D} {d : D} (h : d ∈ enumD xs) : ∃ (i : Nat) (x : D), x ∈ xs ∧ d = .tup [.int i, x] := by
  unfold enumD at h
  obtain ⟨i, hi, rfl⟩ := List.mem_mapIdx.mp h
  exact ⟨i, xs[i], List.getElem_mem _, rfl⟩
def Letters (n : Nat) (w : List Int) : Prop := ∀ a ∈ w, 1 ≤ a ∧ a ≤ (n : Int)
theorem needWord {h : AH} {b n : Nat} {M : Nat → Nat → Int} {d : D} {w : List Int} (B : BondsAt h b n M) (hn : n ≤ 1000) (W : WordAt h d w) (hw : Letters n w) (hl : w.length ≤ 60) : d_need_word [.ref b, d] h = .ok .non h := by
  obtain ⟨g, e1, e2⟩ := W.enum
  obtain ⟨e', a1, _⟩ := forGo_pure (g := g) (gv := gvTup [gvName 2, gvName 3]) (h := h)
    (body := svIf (tvNot (tvOf (evCall d_is_among [(evVar 3), (evC (.int 1)), (evLenO "Bonds" d_Bonds___len__ (evVar 0))]))) (svRaise1 "BadWord" (evVar 2)) svNil)
    (fun e => ∃ x y, e = [some (.ref b), some d, x, y]) (enumD (w.map .int)) e2 (fun x e hx ⟨u, v, he⟩ => by
      subst he
      obtain ⟨i, y, hy, rfl⟩ := mem_enumD hx
      obtain ⟨a, ha, rfl⟩ := List.mem_map.mp hy
      obtain ⟨z1, z2⟩ := hw a ha
      have l := lenO_eq B hn (f := evVar 0) (e := [some (.ref b), some d, some (.int i), some (.int a)]) (h0 := h) rfl
      exact ⟨[some (.ref b), some d, some (.int i), some (.int a)], [some (.ref b), some d, some (.int i), some (.int a)], rfl, by simp [l, z2]; omega, _, _, rfl⟩) (e := [some (.ref b), some d, none, none]) ⟨_, _, rfl⟩
  have hl2 : ¬ 60 < w.length := by omega
  simp [d_need_word, fnD_eq, W.prom, W.isList, W.len, e1, a1]
  omega
def at0 (w : List Int) (k : Nat) : Int := w.getD k 0
inductive Deed where
  | ins (k : Nat) (a : Int)
  | out (k : Nat)
  | turn (k : Nat)
theorem atI_word {w : List Int} {k : Int} (h0 : 0 ≤ k) (h1 : k < w.length) : L2.atI (w.map D.int) k = some (.int (at0 w k.toNat)) := by
  refine atI_get h0 ?_
  have : k.toNat < w.length := by omega
  simp [at0, this]
@[simp] theorem evTup_eq (fs : List Ev) (e : Env) (h : AH) : evTup fs e h = (evsV fs e h).bind fun ds h1 => if ds.length ≤ 16777216 then .ok (.tup ds) h1 else .stuck := nrfl rfl
@[simp] theorem evLst_eq (fs : List Ev) (e : Env) (h : AH) : evLst fs e h = (evsV fs e h).bind fun ds h1 => if ds.length ≤ 16777216 then .ok (.tl ds) h1 else .stuck := nrfl rfl
@[simp] theorem svPar_eq (fs : List Ev) (ix : List Nat) (e : Env) (h : AH) : svPar fs ix e h = (evsV fs e h).toFl e fun ds h1 => match setAll e ix ds with
  | some e1 => .nx e1 h1
  | none => .stuck := nrfl rfl
end BW

set_option Elab.async false
set_option linter.all false
set_option maxRecDepth 100000
set_option maxHeartbeats 4000000
namespace BW
open PySem
structure Tab (n : Nat) (M : Nat → Nat → Int) : Prop where
  n1 : 1 ≤ n
  n6 : n ≤ 6
  dia : ∀ i, i < n → M i i = 1
  kind : ∀ i j, i < n → j < n → i ≠ j → M i j = 2 ∨ M i j = 3 ∨ M i j = 4 ∨ M i j = 6 ∨ M i j = 0
  sym : ∀ i j, i < n → j < n → M i j = M j i
theorem small_of {n : Nat} (h : n ≤ 1000) : n ≤ sizeLine := Nat.le_trans h (by rw [sizeLine_eq]; decide)
def RowsAt (h : AH) (r n : Nat) (M : Nat → Nat → Int) : Prop := ∃ ks : List Nat, ks.length = n ∧ ks.Nodup ∧ r ∉ ks ∧ h[r]? = some (AO.lst (ks.map D.ref)) ∧ ∀ (i k : Nat), ks[i]? = some k → h[k]? = some (AO.lst (rowD n (M i)))
theorem RowsAt.len {h : AH} {r n : Nat} {M : Nat → Nat → Int} (R : RowsAt h r n M) : bLen h [.ref r] = some (.int n) := by
  obtain ⟨ks, rfl, _, _, e, _⟩ := R
  rw [bLen_ref e]; simp
theorem RowsAt.ix {h : AH} {r n : Nat} {M : Nat → Nat → Int} (R : RowsAt h r n M) {i : Int} (h0 : 0 ≤ i) (h1 : i < n) : ∃ k, opIx h (.ref r) (.int i) = some (.ref k) ∧ ∀ j : Int, 0 ≤ j → j < n → opIx h (.ref k) (.int j) = some (.int (M i.toNat j.toNat)) := by
  obtain ⟨ks, rfl, nd, _, e, rr⟩ := R
  have hi : i.toNat < ks.length := by omega
  refine ⟨ks[i.toNat], ?_, fun j j0 j1 => ?_⟩
  · rw [opIx_ref e]
    exact atI_get h0 (by simp [hi])
  · rw [opIx_ref (rr _ _ (List.getElem?_eq_getElem hi))]
    exact atI_get j0 (rowD_get _ (by omega))
end BW

set_option Elab.async false
set_option linter.all false
set_option maxRecDepth 100000
set_option maxHeartbeats 4000000
namespace BW
open PySem
theorem lcGo_on {α : Type} {g : Option (Nat × GO)} {gv : Gv} {tt : Tv} {elt : Ev} {e : Env} {h : AH} (q : α → D) (p : α → Bool) (f : α → D) (l : List α) (hg : guardOk g h = true)
    (hs : ∀ d ∈ l, ∃ e1, gv (q d) e h = .ok e1 h ∧ tt e1 h = .ok (p d) h ∧ (p d = true → pv elt e1 h = .ok (f d) h)) : lcGo g gv tt elt e (l.map q) h = .ok ((l.filter p).map f) h := by
  induction l with
  | nil => rw [List.map_nil]; unfold lcGo; rw [if_pos hg]; rfl
  | cons d xs ih =>
    obtain ⟨e1, a1, a2, a3⟩ := hs d (List.mem_cons_self)
    have := ih fun d hd => hs d (List.mem_cons_of_mem _ hd)
    rw [List.map_cons]
    unfold lcGo
    rw [if_pos hg]
    simp only [a1, a2]
    cases hp : p d with
    | true => simp only [a3 hp, this, bind_ok, List.filter_cons, hp, if_true, List.map_cons]
    | false => simp only [this, List.filter_cons, hp, Bool.false_eq_true, if_false]
theorem lcGo_onM {α : Type} {g : Option (Nat × GO)} {gv : Gv} {elt : Ev} {e : Env} {h : AH} (q : α → D) (f : α → D) (l : List α) (hg : guardOk g h = true)
    (hs : ∀ d ∈ l, ∃ e1, gv (q d) e h = .ok e1 h ∧ pv elt e1 h = .ok (f d) h) : lcGo g gv tvYes elt e (l.map q) h = .ok (l.map f) h := by
  rw [lcGo_on (tt := tvYes) q (fun _ => true) f l hg fun d hd => let ⟨e1, z1, z2⟩ := hs d hd; ⟨e1, z1, rfl, fun _ => z2⟩]
  congr 2
  simp
theorem BondsAt.app {h : AH} {b n : Nat} {M : Nat → Nat → Int} (B : BondsAt h b n M) (t : AH) : BondsAt (h ++ t) b n M := by
  unfold BondsAt at *
  rw [List.getElem?_append_left (List.getElem?_eq_some_iff.mp B).1]; exact B
theorem WordAt.app {h : AH} {d : D} {w : List Int} (W : WordAt h d w) (t : AH) : WordAt (h ++ t) d w := by
  rcases W with rfl | ⟨k, rfl, e⟩
  · exact .inl rfl
  · exact .inr ⟨k, rfl, by rw [List.getElem?_append_left (List.getElem?_eq_some_iff.mp e).1]; exact e⟩
theorem RowsAt.app {h : AH} {r n : Nat} {M : Nat → Nat → Int} (R : RowsAt h r n M) (t : AH) : RowsAt (h ++ t) r n M := by
  obtain ⟨ks, a1, a2, a3, a4, a5⟩ := R
  refine ⟨ks, a1, a2, a3, by rw [List.getElem?_append_left (List.getElem?_eq_some_iff.mp a4).1]; exact a4, fun i k e => ?_⟩
  have := a5 i k e
  rw [List.getElem?_append_left (List.getElem?_eq_some_iff.mp this).1]; exact this
theorem get2a (h : AH) (x y : AO) : (h ++ [x, y])[h.length]? = some x := by simp
theorem get2b (h : AH) (x y : AO) : (h ++ [x, y])[h.length + 1]? = some y := by simp [List.getElem?_append_right]
end BW

set_option Elab.async false
set_option linter.all false
set_option maxRecDepth 100000
set_option maxHeartbeats 4000000
namespace BW
open PySem
end BW

set_option Elab.async false
set_option linter.all false
set_option maxRecDepth 100000
set_option maxHeartbeats 4000000
namespace BW
open PySem
theorem opFdiv_at {a b : Int} (h : AH) (h0 : 0 < b) (h1 : b ≤ 10000000000000000000000000000000000000000) : opFdiv h (.int a) (.int b) = some (.int (a / b)) := by
  rw [opFdiv_int]
  refine if_pos ⟨h0, Nat.lt_of_lt_of_le (m := 140) ?_ (by decide)⟩
  rw [Nat.log2_lt (by omega)]
  exact Nat.lt_of_le_of_lt (m := 10000000000000000000000000000000000000000) (by omega) (by decide)
theorem opMod_at {a b : Int} (h : AH) (h0 : 0 < b) : opMod h (.int a) (.int b) = some (.int (a % b)) := by
  rw [opMod_int]
  exact if_pos h0
theorem sm1 {h : AH} {a b : Int} (h0 : -1000000000000000000 ≤ a) (h1 : a ≤ 1000000000000000000) : opMul h (.int a) (.int b) = some (.int (a * b)) := opMul_at h (.inl (smallI_of h0 h1))
theorem sm2 {h : AH} {a b : Int} (h0 : -1000000000000000000 ≤ b) (h1 : b ≤ 1000000000000000000) : opMul h (.int a) (.int b) = some (.int (a * b)) := opMul_at h (.inr (smallI_of h0 h1))
theorem mixed_is {cell n : Int} (h : AH) (h0 : 0 ≤ n) (h1 : n ≤ 2000000) : ∃ v, d__law_mixed [.int cell, .int n] h = .ok (.int v) h := by
  refine ⟨(cell * (1 + 2 * n) * 48271 % 2147483647 + 7919 * n * n + 104729 * n) * 69621 % 2147483629 / 7, ?_⟩
  have p : (1 + 2 * n) ≤ 1000000000000000000 := by omega
  have p0 : -1000000000000000000 ≤ (1 + 2 * n) := by omega
  simp [d__law_mixed, fnD_eq, opMod_at, opFdiv_at, sm2 p0 p, sm1 (a := 2) (b := n) (by omega) (by omega), sm2 (b := 48271) (by omega) (by omega), sm1 (a := 7919) (b := n) (by omega) (by omega), sm2 (a := 7919 * n) (b := n) (by omega) (by omega), sm1 (a := 104729) (by omega) (by omega), sm2 (b := 69621) (by omega) (by omega)]
structure MInv (m c g : Nat) (N : Int) (h : AH) : Prop where
  ex : ∃ (spot : Int) (cells gs : List Int), h[m]? = some (.dk [(.inr "cells", .ref c), (.inr "great", .ref g), (.inr "spot", .int spot)]) ∧ 0 ≤ spot ∧ spot ≤ N ∧ h[c]? = some (AO.lst (cells.map D.int)) ∧ cells.length = 64 ∧ h[g]? = some (AO.lst (gs.map D.int))
  ne : c ≠ g
structure Frame (lo : Nat) (h h' : AH) : Prop where
  len : h.length ≤ h'.length
  keep : ∀ i, lo ≤ i → i < h.length → h'[i]? = h[i]?
theorem Frame.trans {lo : Nat} {h1 h2 h3 : AH} (a : Frame lo h1 h2) (b : Frame lo h2 h3) : Frame lo h1 h3 :=
  ⟨Nat.le_trans a.len b.len, fun i h0 hi => (b.keep i h0 (Nat.lt_of_lt_of_le hi a.len)).trans (a.keep i h0 hi)⟩
theorem Frame.app (lo : Nat) (h t : AH) : Frame lo h (h ++ t) := ⟨by simp, fun i _ hi => List.getElem?_append_left hi⟩
theorem Frame.at_ {lo : Nat} {h h' : AH} (F : Frame lo h h') {i : Nat} {o : AO} (hi : lo ≤ i) (e : h[i]? = some o) : h'[i]? = some o := (F.keep i hi (List.getElem?_eq_some_iff.mp e).1).trans e
theorem MInv.app {m c g : Nat} {N : Int} {h : AH} (I : MInv m c g N h) (t : AH) : MInv m c g N (h ++ t) := by
  obtain ⟨⟨spot, cells, gs, a1, a2, a3, a4, a5, a6⟩, ne⟩ := I
  refine ⟨⟨spot, cells, gs, ?_, a2, a3, ?_, a5, ?_⟩, ne⟩
  · rw [List.getElem?_append_left (List.getElem?_eq_some_iff.mp a1).1]; exact a1
  · rw [List.getElem?_append_left (List.getElem?_eq_some_iff.mp a4).1]; exact a4
  · rw [List.getElem?_append_left (List.getElem?_eq_some_iff.mp a6).1]; exact a6
theorem fin_or {h h2 : AH} {d : D} (hp : promote d h2 = .ok d h2) : BW.fin h d h2 = .ok d h2 ∨ BW.fin h d h2 = .ok d (h2.take h.length) := by
  unfold BW.fin
  rw [hp]
  dsimp only
  split
  · exact .inr rfl
  · exact .inl rfl
theorem fin_same {h h2 : AH} {d : D} (hp : promote d h2 = .ok d h2) (hl : h2.length = h.length) : BW.fin h d h2 = .ok d h2 := by
  rcases fin_or (h := h) hp with z | z
  · exact z
  · rw [z, ← hl, List.take_length]
@[simp] theorem evDg_eq (f g : Ev) (e : Env) (h : AH) : evDg f g e h = (f e h).bind fun o h1 => (g e h1).bind fun k h2 => ofO (dgD h2 o k) h2 := nrfl rfl
theorem dput_eq {fo fi fv : Ev} {e : Env} {h h1 h2 h3 : AH} {d : D} {n : Nat} {k : D} {kvs : List (L2.Key × D)} {q : L2.Key} (hv : pv fv e h = .ok d h1) (ho : fo e h1 = .ok (.ref n) h2) (hi : fi e h2 = .ok k h3) (hn : h3[n]? = some (.dk kvs)) (hk : keyD k = some q) (hl : kvs.length ≤ 1000) :
    svDput fo fi fv e h = .nx e (h3.set n (.dk (putD kvs q d))) := by
  unfold svDput
  rw [hv, toFl_ok, ho, toFl_ok, hi, toFl_ok]
  simp only [hn, hk]
  rw [if_pos (Nat.lt_of_le_of_lt hl (by decide))]
theorem subL_eq {fo fi : Ev} {d : D} {e : Env} {h h1 h2 : AH} {n : Nat} {k : Int} {xs : List D} (ho : fo e h = .ok (.ref n) h1) (hi : fi e h1 = .ok (.int k) h2) (hn : h2[n]? = some (.lst xs)) (h0 : 0 ≤ k) (hk : k < xs.length) : gvSubL fo fi d e h = .ok e (h2.set n (.lst (xs.set k.toNat d))) := by
  unfold gvSubL
  have : L2.ixN xs.length k = some k.toNat := by unfold L2.ixN; rw [if_pos h0, if_pos hk]
  simp only [ho, hi, hn, this]
theorem draw_is {m c g : Nat} {N : Int} {h : AH} {limit : Int} (I : MInv m c g N h) (hN : N ≤ 1000000) (h1 : 1 ≤ limit) (h2 : limit ≤ 10000000000000000000000000000000000000000) {lo : Nat} (lm : m < lo) (lc : c < lo) (lg : g < lo) :
    ∃ d h', d__law_draw [.ref m, .int limit] h = .ok (.int d) h' ∧ 0 ≤ d ∧ d < limit ∧ MInv m c g (N + 1) h' ∧ Frame lo h h' ∧ h'.length = h.length := by
  obtain ⟨⟨spot, cells, gs, a1, a2, a3, a4, a5, a6⟩, ne⟩ := I
  have mc : m ≠ c := fun z => by rw [z, a4] at a1; simp at a1
  have mg : m ≠ g := fun z => by rw [z, a6] at a1; simp at a1
  have d1 : dgD h (.ref m) (.str "spot") = some (.int spot) := by
    simp only [dgD, a1]; rfl
  generalize hA : h.set m (.dk [(.inr "cells", .ref c), (.inr "great", .ref g), (.inr "spot", .int (spot + 1))]) = hA' at *
  have lA : hA'.length = h.length := by rw [← hA]; simp
  have b1 : hA'[m]? = some (.dk [(.inr "cells", .ref c), (.inr "great", .ref g), (.inr "spot", .int (spot + 1))]) := by
    rw [← hA, List.getElem?_set_self (List.getElem?_eq_some_iff.mp a1).1]
  have b4 : hA'[c]? = some (AO.lst (cells.map D.int)) := by rw [← hA, List.getElem?_set_ne mc]; exact a4
  have b6 : hA'[g]? = some (AO.lst (gs.map D.int)) := by rw [← hA, List.getElem?_set_ne mg]; exact a6
  have IA : MInv m c g (N + 1) hA' := ⟨⟨spot + 1, cells, gs, b1, by omega, by omega, b4, a5, b6⟩, ne⟩
  have FA : Frame lo h hA' := ⟨by omega, fun i h0 hi => by rw [← hA, List.getElem?_set_ne (by omega)]⟩
  have d2 : dgD hA' (.ref m) (.str "great") = some (.ref g) := by simp only [dgD, b1]; rfl
  have d3 : dgD hA' (.ref m) (.str "cells") = some (.ref c) := by simp only [dgD, b1]; rfl
  have p1 : svDput (evVar 0) (evC (.str "spot")) (evOp opAdd (evVar 2) (evC (.int 1))) [some (.ref m), some (.int limit), some (.int spot), none, none, none] h = .nx [some (.ref m), some (.int limit), some (.int spot), none, none, none] hA' := by
    rw [← hA]
    exact dput_eq (k := .str "spot") (q := Sum.inr "spot") (d := .int (spot + 1)) (by simp) rfl rfl a1 rfl (by simp)
  obtain ⟨v1, m1⟩ := mixed_is (cell := at0 cells (spot % 64).toNat + 31 * (spot / 64)) (n := spot) hA' a2 (by omega)
  obtain ⟨v2, m2⟩ := mixed_is (cell := v1) (n := spot + 7) hA' (by omega) (by omega)
  have ic : opIx hA' (.ref c) (.int (spot % 64)) = some (.int (at0 cells (spot % 64).toNat)) := by
    rw [opIx_ref b4]
    refine atI_get (by omega) ?_
    have : (spot % 64).toNat < cells.length := by omega
    simp [this, at0]
  -- the second way, from any slots
  have tail : ∀ x3 x4 x5, (svSeq (svAsg (evDg (evVar 0) (evC (.str "cells"))) (gvName 3)) (svRet (evOp opMod (evB bInt [(evCall d__law_mixed [(evCall d__law_mixed [(evOp opAdd (evOp opIx (evVar 3) (evOp opMod (evB bInt [(evVar 2)]) (evC (.int 64)))) (evOp opMul (evC (.int 31)) (evOp opFdiv (evVar 2) (evC (.int 64))))), (evVar 2)]), (evOp opAdd (evVar 2) (evC (.int 7)))])]) (evVar 1))))
      [some (.ref m), some (.int limit), some (.int spot), x3, x4, x5] hA' = .ret (.int (v2 % limit)) hA' := by
    intro x3 x4 x5
    simp [d3, opFdiv_at, sm1 (a := 31) (by omega) (by omega), opMod_at, opMod_at (a := v2) hA' (by omega : 0 < limit), ic, m1, m2]
  have opd : opNe hA' (.ref g) (.tl []) = some (.bl (!decide (gs = []))) := by
    have e1 : dataK hA' 9 (.ref g) = some (.list (gs.map .int)) := by
      show (match hA'[g]? with | some (.lst xs) => (allK (dataK hA' 8) xs).map PyData.list | _ => none) = _
      rw [b6]
      simp only [dataK_ints]; rfl
    have e2 : dataK hA' 9 (.tl []) = some (.list []) := rfl
    unfold opNe eqD
    rw [e1, e2]
    have e3 : PyData.eqv (.list (gs.map .int)) (.list []) = decide (gs = []) := by
      have := eqvAll_ints gs []
      simp only [PyData.eqv]
      exact this
    simp only [e3]; rfl
  have r0 : 0 ≤ v2 % limit := Int.emod_nonneg _ (by omega)
  have r1 : v2 % limit < limit := Int.emod_lt_of_pos _ (by omega)
  have f0 := fin_same (h := h) (h2 := hA') (d := .int (v2 % limit)) rfl lA
  by_cases hg : gs = []
  · refine ⟨v2 % limit, hA', ?_, r0, r1, IA, FA, lA⟩
    simp only [d__law_draw, fnD_eq, svSeq_eq, svAsg_eq, startE_eq]
    simp [d1, p1, d2, opd, hg]
    simpa using congrArg (fun z => Fl.fin z h) (tail none none none) |>.trans f0
  · have gl : 0 < gs.length := List.length_pos_iff.mpr hg
    have lg' : bLen hA' [.ref g] = some (.int gs.length) := by rw [bLen_ref b6]; simp
    have j0 : 0 ≤ spot % (gs.length : Int) := Int.emod_nonneg _ (by omega)
    have j1 : spot % (gs.length : Int) < gs.length := Int.emod_lt_of_pos _ (by omega)
    generalize hj : spot % (gs.length : Int) = j at *
    have ig : opIx hA' (.ref g) (.int j) = some (.int (at0 gs j.toNat)) := by
      rw [opIx_ref b6]
      refine atI_get j0 ?_
      have : j.toNat < gs.length := by omega
      simp [this, at0]
    have mo : opMod hA' (.int spot) (.int gs.length) = some (.int j) := by rw [opMod_at hA' (by omega), hj]
    generalize hcell : at0 gs j.toNat = cell at *
    by_cases hc : 0 < cell
    · have sb : gvSubL (evVar 3) (evVar 4) (.int (cell / limit)) [some (.ref m), some (.int limit), some (.int spot), some (.ref g), some (.int j), some (.int cell)] hA' = .ok [some (.ref m), some (.int limit), some (.int spot), some (.ref g), some (.int j), some (.int cell)] (hA'.set g (.lst ((gs.set j.toNat (cell / limit)).map .int))) := by
        rw [subL_eq (n := g) (k := j) rfl rfl b6 j0 (by simpa using j1), List.map_set]
      have lB : (hA'.set g (.lst ((gs.set j.toNat (cell / limit)).map .int))).length = h.length := by rw [List.length_set]; exact lA
      have f1 := fin_same (h := h) (h2 := hA'.set g (.lst ((gs.set j.toNat (cell / limit)).map .int))) (d := .int (cell % limit)) rfl lB
      refine ⟨cell % limit, hA'.set g (.lst ((gs.set j.toNat (cell / limit)).map .int)), ?_, Int.emod_nonneg _ (by omega), Int.emod_lt_of_pos _ (by omega), ?_, ?_, lB⟩
      · simp only [d__law_draw, fnD_eq, svSeq_eq, svAsg_eq, startE_eq]
        simp [d1, p1, d2, opd, hg, lg', mo, ig, hc, opFdiv_at (a := cell) hA' (by omega : 0 < limit) (by omega), sb, opMod_at (a := cell) _ (by omega : 0 < limit), f1, -List.map_set]
      · refine ⟨⟨spot + 1, cells, gs.set j.toNat (cell / limit), ?_, by omega, by omega, ?_, a5, ?_⟩, ne⟩
        · rw [List.getElem?_set_ne (Ne.symm mg)]; exact b1
        · rw [List.getElem?_set_ne (Ne.symm ne)]; exact b4
        · rw [List.getElem?_set_self (by rw [lA]; exact (List.getElem?_eq_some_iff.mp a6).1)]
      · exact FA.trans ⟨by rw [List.length_set]; exact Nat.le_refl _, fun i h0 hi => by rw [List.getElem?_set_ne (by omega)]⟩
    · refine ⟨v2 % limit, hA', ?_, r0, r1, IA, FA, lA⟩
      simp only [d__law_draw, fnD_eq, svSeq_eq, svAsg_eq, startE_eq]
      simp [d1, p1, d2, opd, hg, lg', mo, ig, hc]
      simpa using congrArg (fun z => Fl.fin z h) (tail (some (.ref g)) (some (.int j)) (some (.int cell))) |>.trans f0
end BW

set_option Elab.async false
set_option linter.all false
set_option maxRecDepth 100000
set_option maxHeartbeats 4000000
namespace BW
open PySem
theorem enumD_get {xs : List D} {i : Nat} {d : D} (h : (enumD xs)[i]? = some d) : ∃ x, xs[i]? = some x ∧ d = .tup [.int i, x] := by
  simp only [enumD, List.getElem?_mapIdx, Option.map_eq_some_iff] at h
  obtain ⟨x, h1, rfl⟩ := h
  exact ⟨x, h1, rfl⟩
theorem ix_cells {h : AH} {f : Nat} {cells : List Int} (e : h[f]? = some (.lst (cells.map .int))) {j : Int} (h0 : 0 ≤ j) (h1 : j < cells.length) : opIx h (.ref f) (.int j) = some (.int (at0 cells j.toNat)) := by
  rw [opIx_ref e]
  exact atI_word h0 h1
theorem folded_is (ns : List Int) (h : AH) : ∃ cells : List Int, cells.length = 64 ∧ d__law_folded [.rl (ns.map .int)] h = .ok (.ref h.length) (h ++ [.lst (cells.map .int)]) := by
  have e1 : evLc (ivBy [(evC (.int 64))] kR1) (Tgt.own (.one 2)) (Tgt.gv (.one 2)) tvYes (evOp opAdd (evC (.int 17)) (evVar 2)) [some (.rl (ns.map .int)), none, none, none] h = .ok (.tl (((List.range 64).map fun (i : Nat) => (17 + (i : Int))).map .int)) h := by
    have e : lcGo none (Tgt.gv (.one 2)) tvYes (evOp opAdd (evC (.int 17)) (evVar 2)) [some (.rl (ns.map .int)), none, none, none] (rangeD 0 64) h = .ok (((List.range 64).map fun (i : Nat) => (17 + (i : Int))).map .int) h := by
      rw [List.map_map]
      refine lcGo_rangeM _ _ _ rfl fun i hi => ⟨_, rfl, ?_⟩
      simp [Tgt.gv]
    have lt : (rangeD 0 64).length < 16777216 := by rw [rangeD_length]; decide
    rw [evLc_eq, ivBy_eq, evs_cons, evC_eq, bind_ok, evs_nil, bind_ok, bind_ok, kR1_at h (by omega) (by omega), bind_ok]
    dsimp only [Tgt.own, wipeE, List.set_cons_succ, List.set_cons_zero]
    rw [show (64 : Int).toNat = 64 from rfl, if_pos lt, e, bind_ok]
  obtain ⟨e2, h2, a1, cells, x2, x3, he2, hh2, hl2⟩ := forGo_inv (g := none) (gv := gvTup [(gvName 2), (gvName 3)]) (h := h ++ [.lst (((List.range 64).map fun (i : Nat) => (17 + (i : Int))).map .int)])
    (body := svAsg (evOp opMod (evB bInt [(evOp opAdd (evOp opMul (evOp opIx (evVar 1) (evOp opMod (evB bInt [(evVar 2)]) (evC (.int 64)))) (evC (.int 48271))) (evVar 3))]) (evC (.int 2147483647))) (gvSubL (evVar 1) (evOp opMod (evB bInt [(evVar 2)]) (evC (.int 64)))))
    (fun i e h' => ∃ (cells : List Int) (x2 x3 : Option D), e = [some (.rl (ns.map .int)), some (.ref h.length), x2, x3] ∧ h' = h ++ [.lst (cells.map .int)] ∧ cells.length = 64) (enumD (ns.map .int))
    (fun _ _ _ _ _ => rfl) (fun i d e h' hd ⟨cells, x2, x3, he, hh, hl⟩ => by
      subst he hh
      obtain ⟨x, hx, rfl⟩ := enumD_get hd
      rw [List.getElem?_map] at hx
      obtain ⟨cell, _, rfl⟩ := Option.map_eq_some_iff.mp hx
      have g1 : (h ++ [AO.lst (cells.map .int)])[h.length]? = some (.lst (cells.map .int)) := by simp
      have j0 : 0 ≤ (i : Int) % 64 := by omega
      have j1 : (i : Int) % 64 < 64 := by omega
      generalize hj : (i : Int) % 64 = j at *
      have i1 := ix_cells g1 j0 (by omega)
      have sb := fun v : Int => subL_eq (fo := evVar 1) (fi := evOp opMod (evB bInt [(evVar 2)]) (evC (.int 64))) (d := .int v) (e := [some (.rl (ns.map .int)), some (.ref h.length), some (.int i), some (.int cell)]) (h := h ++ [AO.lst (cells.map .int)]) (n := h.length) (k := j) rfl (by simp [opMod_at, hj]) g1 j0 (by simp; omega)
      refine ⟨_, _, _, _, rfl, ?_, cells.set j.toNat ((at0 cells j.toNat * 48271 + cell) % 2147483647), some (.int i), some (.int cell), rfl, rfl, by simp [hl]⟩
      simp [opMod_at, hj, i1, sm2 (b := 48271) (by omega) (by omega), sb, List.map_set]) (e := [some (.rl (ns.map .int)), some (.ref h.length), none, none]) ⟨_, _, _, rfl, rfl, by simp⟩
  subst he2 hh2
  obtain ⟨e3, h3, a3, cells3, x2, x3, he3, hh3, hl3⟩ := forGo_inv (g := none) (gv := gvName 2) (h := h ++ [.lst (cells.map .int)])
    (body := svAsg (evOp opMod (evB bInt [(evOp opAdd (evOp opIx (evVar 1) (evVar 2)) (evOp opMul (evOp opIx (evVar 1) (evOp opSub (evVar 2) (evC (.int 1)))) (evC (.int 16807))))]) (evC (.int 2147483647))) (gvSubL (evVar 1) (evVar 2)))
    (fun i e h' => ∃ (cells : List Int) (x2 x3 : Option D), e = [some (.rl (ns.map .int)), some (.ref h.length), x2, x3] ∧ h' = h ++ [.lst (cells.map .int)] ∧ cells.length = 64) (rangeD 1 63)
    (fun _ _ _ _ _ => rfl) (fun i d e h' hd ⟨cells, x2, x3, he, hh, hl⟩ => by
      subst he hh
      obtain ⟨hi, rfl⟩ := rangeD_get hd
      have g1 : (h ++ [AO.lst (cells.map .int)])[h.length]? = some (.lst (cells.map .int)) := by simp
      have i1 := ix_cells g1 (j := 1 + (i : Int)) (by omega) (by omega)
      have i2 := ix_cells g1 (j := 1 + (i : Int) - 1) (by omega) (by omega)
      have sb := fun v : Int => subL_eq (fo := evVar 1) (fi := evVar 2) (d := .int v) (e := [some (.rl (ns.map .int)), some (.ref h.length), some (.int (1 + (i : Int))), x3]) (h := h ++ [AO.lst (cells.map .int)]) (n := h.length) (k := 1 + (i : Int)) rfl rfl g1 (by omega) (by simp; omega)
      refine ⟨_, _, _, _, rfl, ?_, cells.set (1 + (i : Int)).toNat ((at0 cells (1 + (i : Int)).toNat + at0 cells (1 + (i : Int) - 1).toNat * 16807) % 2147483647), some (.int (1 + (i : Int))), x3, rfl, rfl, by simp [hl]⟩
      simp [opMod_at, i1, i2, sm2 (b := 16807) (by omega) (by omega), sb, List.map_set]) (e := [some (.rl (ns.map .int)), some (.ref h.length), x2, x3]) ⟨_, _, _, rfl, rfl, hl2⟩
  subst he3 hh3
  refine ⟨cells3, hl3, ?_⟩
  have k1 : kEnum [.rl (ns.map .int)] (h ++ [AO.lst (((List.range 64).map fun (i : Nat) => (17 + (i : Int))).map .int)]) = .ok { xs := enumD (ns.map .int) } (h ++ [AO.lst (((List.range 64).map fun (i : Nat) => (17 + (i : Int))).map .int)]) := rfl
  have k2 := kR2_at (a := 1) (b := 64) (h ++ [AO.lst (cells.map .int)]) (by omega) (by omega) (by omega) (by omega)
  rw [show ((64 : Int) - 1).toNat = 63 from rfl] at k2
  have f9 : BW.fin h (.ref h.length) (h ++ [AO.lst (cells3.map .int)]) = .ok (.ref h.length) (h ++ [AO.lst (cells3.map .int)]) := by
    unfold BW.fin
    simp [D.lt]
  simp only [d__law_folded, fnD_eq, svSeq_eq, startE_eq]
  simp only [List.map_cons, List.map_nil, List.length_cons, List.length_nil, List.cons_append, List.nil_append, List.replicate, svSeq_eq, svAsg_eq, pv_eq, e1, bind_ok, promote_tl, toFl_ok, gvName_eq, nxE_ok, seq_nx, List.set_cons_succ, List.set_cons_zero, svFor_eq, ivBy_eq, evs_cons, evs_nil, evVar_eq, List.getElem?_cons_zero, List.getElem?_cons_succ, ofV_some, k1, a1, k2, evC_eq, a3, svRet_eq, fin_ret, f9]
theorem pow18 (h : AH) : opPow h (.int 10) (.int 18) = some (.int 1000000000000000000) := by
  show (if (0 : Int) ≤ 18 ∧ (18 : Int) ≤ 1000 ∧ (10 : Int).natAbs < 2 ^ 1000 then some (D.int (10 ^ (18 : Int).toNat)) else none) = _
  rw [if_pos (by decide)]
  rfl
theorem begun_is (ns : List Int) (hn : ns.length ≤ 63) : ∃ h, d__law_begun [.rl (ns.map .int)] [] = .ok (.ref 2) h ∧ MInv 2 0 3 0 h ∧ h.length = 4 := by
  obtain ⟨cells, hl, f1⟩ := folded_is ns []
  have f1' : d__law_folded [.rl (ns.map .int)] [] = .ok (.ref 0) [.lst (cells.map .int)] := f1
  have dp : evDisp [((evC (.str "cells")), (evCall d__law_folded [(evVar 0)])), ((evC (.str "great")), (evLst [])), ((evC (.str "spot")), (evC (.int 0)))] [some (.rl (ns.map .int)), none, none] [] =
      .ok (.ref 2) [.lst (cells.map .int), .lst [], .dk [(.inr "cells", .ref 0), (.inr "great", .ref 1), (.inr "spot", .int 0)]] := by
    have pr : evPairs [((evC (.str "cells")), (evCall d__law_folded [(evVar 0)])), ((evC (.str "great")), (evLst [])), ((evC (.str "spot")), (evC (.int 0)))] [some (.rl (ns.map .int)), none, none] [] =
        .ok [(.inr "cells", .ref 0), (.inr "great", .ref 1), (.inr "spot", .int 0)] [.lst (cells.map .int), .lst []] := by
      simp [evPairs, keyD, f1', promote]
    unfold evDisp
    rw [pr, bind_ok]
    rw [if_pos (by decide)]
    rfl
  have lc : evLc (ivSeq (evVar 0)) (Tgt.own (.one 2)) (Tgt.gv (.one 2)) tvYes (evIf (tvOf (evOp opGe (evVar 2) (evOp opPow (evC (.int 10)) (evC (.int 18))))) (evVar 2) (evC (.int 0))) [some (.rl (ns.map .int)), some (.ref 2), none] [.lst (cells.map .int), .lst [], .dk [(.inr "cells", .ref 0), (.inr "great", .ref 1), (.inr "spot", .int 0)]]
      = .ok (.tl ((ns.map fun c => if 1000000000000000000 ≤ c then c else 0).map .int)) [.lst (cells.map .int), .lst [], .dk [(.inr "cells", .ref 0), (.inr "great", .ref 1), (.inr "spot", .int 0)]] := by
    generalize [AO.lst (cells.map .int), .lst [], .dk [(.inr "cells", .ref 0), (.inr "great", .ref 1), (.inr "spot", .int 0)]] = hh
    have e : lcGo none (Tgt.gv (.one 2)) tvYes (evIf (tvOf (evOp opGe (evVar 2) (evOp opPow (evC (.int 10)) (evC (.int 18))))) (evVar 2) (evC (.int 0))) [some (.rl (ns.map .int)), some (.ref 2), none] (ns.map .int) hh = .ok ((ns.map fun c => if 1000000000000000000 ≤ c then c else 0).map .int) hh := by
      rw [List.map_map]
      refine lcGo_onM D.int _ _ rfl fun c hc => ⟨_, rfl, ?_⟩
      by_cases z : 1000000000000000000 ≤ c <;> simp [Tgt.gv, pow18, z]
    have lt : (ns.map D.int).length < 16777216 := by rw [List.length_map]; omega
    rw [evLc_eq, ivSeq_eq, evVar_eq, List.getElem?_cons_zero, ofV_some, bind_ok, itsOf_rl, its_some, bind_ok]
    dsimp only [Tgt.own, wipeE, List.set_cons_succ, List.set_cons_zero]
    rw [if_pos lt, e, bind_ok]
  have dpt : svDput (evVar 1) (evC (.str "great")) (evLc (ivSeq (evVar 0)) (Tgt.own (.one 2)) (Tgt.gv (.one 2)) tvYes (evIf (tvOf (evOp opGe (evVar 2) (evOp opPow (evC (.int 10)) (evC (.int 18))))) (evVar 2) (evC (.int 0)))) [some (.rl (ns.map .int)), some (.ref 2), none] [.lst (cells.map .int), .lst [], .dk [(.inr "cells", .ref 0), (.inr "great", .ref 1), (.inr "spot", .int 0)]]
      = .nx [some (.rl (ns.map .int)), some (.ref 2), none] [.lst (cells.map .int), .lst [], .dk [(.inr "cells", .ref 0), (.inr "great", .ref 3), (.inr "spot", .int 0)], .lst ((ns.map fun c => if 1000000000000000000 ≤ c then c else 0).map .int)] := by
    have pvE : pv (evLc (ivSeq (evVar 0)) (Tgt.own (.one 2)) (Tgt.gv (.one 2)) tvYes (evIf (tvOf (evOp opGe (evVar 2) (evOp opPow (evC (.int 10)) (evC (.int 18))))) (evVar 2) (evC (.int 0)))) [some (.rl (ns.map .int)), some (.ref 2), none] [.lst (cells.map .int), .lst [], .dk [(.inr "cells", .ref 0), (.inr "great", .ref 1), (.inr "spot", .int 0)]] = .ok (.ref 3) [.lst (cells.map .int), .lst [], .dk [(.inr "cells", .ref 0), (.inr "great", .ref 1), (.inr "spot", .int 0)], .lst ((ns.map fun c => if 1000000000000000000 ≤ c then c else 0).map .int)] := by rw [pv_eq, lc, bind_ok]; rfl
    have z := dput_eq (fo := evVar 1) (fi := evC (.str "great")) (n := 2) (k := .str "great") (q := Sum.inr "great") (d := .ref 3) (kvs := [(.inr "cells", .ref 0), (.inr "great", .ref 1), (.inr "spot", .int 0)]) (h1 := [.lst (cells.map .int), .lst [], .dk [(.inr "cells", .ref 0), (.inr "great", .ref 1), (.inr "spot", .int 0)], .lst ((ns.map fun c => if 1000000000000000000 ≤ c then c else 0).map .int)]) pvE rfl rfl rfl rfl (by simp)
    rw [z]
    rfl
  refine ⟨[.lst (cells.map .int), .lst [], .dk [(.inr "cells", .ref 0), (.inr "great", .ref 3), (.inr "spot", .int 0)], .lst ((ns.map fun c => if 1000000000000000000 ≤ c then c else 0).map .int)], ?_, ⟨⟨0, cells, ns.map fun c => if 1000000000000000000 ≤ c then c else 0, rfl, by omega, by omega, rfl, hl, rfl⟩, by decide⟩, rfl⟩
  have st : svAsg (evDisp [((evC (.str "cells")), (evCall d__law_folded [(evVar 0)])), ((evC (.str "great")), (evLst [])), ((evC (.str "spot")), (evC (.int 0)))]) (gvName 1) (startE 3 [.rl (ns.map .int)]) [] = .nx [some (.rl (ns.map .int)), some (.ref 2), none] [.lst (cells.map .int), .lst [], .dk [(.inr "cells", .ref 0), (.inr "great", .ref 1), (.inr "spot", .int 0)]] := by
    have : startE 3 [.rl (ns.map .int)] = [some (.rl (ns.map .int)), none, none] := rfl
    rw [this, svAsg_eq, pv_eq, dp, bind_ok]
    rfl
  rw [d__law_begun, fnD_eq, svSeq_eq, st, seq_nx, svSeq_eq, dpt, seq_nx]
  rfl
end BW

set_option Elab.async false
set_option linter.all false
set_option maxRecDepth 100000
set_option maxHeartbeats 4000000
namespace BW
open PySem
def Kd (v : Int) : Prop := v = 2 ∨ v = 3 ∨ v = 4 ∨ v = 6 ∨ v = 0
end BW

set_option Elab.async false
set_option linter.all false
set_option maxRecDepth 100000
set_option maxHeartbeats 4000000
namespace BW
open PySem
end BW

set_option Elab.async false
set_option linter.all false
set_option maxRecDepth 100000
set_option maxHeartbeats 4000000
namespace BW
open PySem
theorem append_eq {f g : Ev} {e : Env} {h h1 h2 : AH} {n : Nat} {xs0 xs : List D} {d : D} (hf : f e h = .ok (.ref n) h1) (h0 : h1[n]? = some (.lst xs0)) (hg : pv g e h1 = .ok d h2) (hx : h2[n]? = some (.lst xs)) (hl : xs.length ≤ 1000) :
    evAppend f g e h = .ok .non (h2.set n (.lst (xs ++ [d]))) := by
  unfold evAppend
  rw [hf]
  simp only [bind_ok, h0, hg, hx]
  rw [if_pos (Nat.lt_of_le_of_lt hl (by decide))]
end BW

set_option Elab.async false
set_option linter.all false
set_option maxRecDepth 100000
set_option maxHeartbeats 4000000
namespace BW
open PySem
theorem inKinds {v : Int} (kv : Kd v) (h : AH) (f : Ev) (e : Env) (h0 : AH) (hf : f e h0 = .ok (.int v) h) : evInG false [.int 2, .int 3, .int 4, .int 6, .int 0] f e h0 = .ok (.bl true) h := by
  unfold evInG
  rw [hf, bind_ok]
  rcases kv with rfl | rfl | rfl | rfl | rfl <;> rfl
theorem isBond_is {h : AH} {r n : Nat} {M : Nat → Nat → Int} (R : RowsAt h r n M) (T : Tab n M) {i j : Nat} (hi : i < n) (hj : j < n) : d_is_bond [.ref r, .int i, .int j] h = .ok (.bl true) h := by
  obtain ⟨k, i1, i2⟩ := R.ix (i := (i : Int)) (by omega) (by omega)
  have i3 := i2 (j : Int) (by omega) (by omega)
  rw [Int.toNat_natCast, Int.toNat_natCast] at i3
  obtain ⟨k', j1, j2⟩ := R.ix (i := (j : Int)) (by omega) (by omega)
  have j3 := j2 (i : Int) (by omega) (by omega)
  rw [Int.toNat_natCast, Int.toNat_natCast] at j3
  by_cases hij : i = j
  · subst hij
    rw [T.dia i hi] at i3
    simp [d_is_bond, fnD_eq, i1, i3]
  · have kv : Kd (M i j) := T.kind i j hi hj hij
    have sy := T.sym i j hi hj
    have hij' : ¬ (i : Int) = (j : Int) := by omega
    rw [sy] at kv i3
    have ik := inKinds kv h (evVar 3) [some (.ref r), some (.int i), some (.int j), some (.int (M j i))] h rfl
    simp [d_is_bond, fnD_eq, i1, i3, hij', hij, ik, j1, j3]
theorem needRows_is {h : AH} {r n : Nat} {M : Nat → Nat → Int} (R : RowsAt h r n M) (T : Tab n M) : d_need_rows [.ref r] h = .ok .non h := by
  have n1 := T.n1
  have n6 := T.n6
  obtain ⟨ks, ln, nd, nr, er, rr⟩ := id R
  have il : d_is_list [.ref r] h = .ok (.bl true) h := isList_ref er
  obtain ⟨e1, a1, x1, rfl⟩ := forGo_pure (g := some (r, .lst (ks.map .ref))) (gv := gvName 1) (h := h) (body := svIf (tvOr (tvNot (tvOf (evCall d_is_list [(evVar 1)]))) (tvOf (evOp opNe (evB bLen [(evVar 1)]) (evB bLen [(evVar 0)])))) (svRaise1 "BadBonds" (evC .non)) svNil)
    (fun e => ∃ x1, e = [some (.ref r), x1, none, none]) (ks.map .ref) (guardOk_some er) (fun d e hd ⟨x1, he⟩ => by
      subst he
      obtain ⟨k, hk, rfl⟩ := List.mem_map.mp hd
      obtain ⟨i, hi, hik⟩ := List.getElem_of_mem hk
      have g := rr i k (by rw [List.getElem?_eq_getElem hi, hik])
      refine ⟨_, [some (.ref r), some (.ref k), none, none], rfl, ?_, _, rfl⟩
      have l := bLen_ref g
      rw [rowD_length] at l
      simp [isList_ref g, l, R.len]) (e := [some (.ref r), none, none, none]) ⟨_, rfl⟩
  have k1 := kR1_at (n := n) h (by omega) (by omega)
  rw [Int.toNat_natCast] at k1
  obtain ⟨e2, a2, x2, x3, rfl⟩ := forGo_pure (g := none) (gv := gvName 2) (h := h) (body := svFor (ivBy [(evB bLen [(evVar 0)])] kR1) (gvName 3) (svIf (tvNot (tvOf (evCall d_is_bond [(evVar 0), (evVar 2), (evVar 3)]))) (svRaise1 "BadBonds" (evTup [(evOp opAdd (evVar 2) (evC (.int 1))), (evOp opAdd (evVar 3) (evC (.int 1)))])) svNil))
    (fun e => ∃ x2 x3, e = [some (.ref r), x1, x2, x3]) (rangeD 0 n) rfl (fun d e hd ⟨x2, x3, he⟩ => by
      subst he
      obtain ⟨i, hi, rfl⟩ := mem_rangeD.mp hd
      rw [Int.zero_add]
      obtain ⟨e3, a3, x3', rfl⟩ := forGo_pure (g := none) (gv := gvName 3) (h := h) (body := svIf (tvNot (tvOf (evCall d_is_bond [(evVar 0), (evVar 2), (evVar 3)]))) (svRaise1 "BadBonds" (evTup [(evOp opAdd (evVar 2) (evC (.int 1))), (evOp opAdd (evVar 3) (evC (.int 1)))])) svNil)
        (fun e => ∃ x3, e = [some (.ref r), x1, some (.int i), x3]) (rangeD 0 n) rfl (fun d e hd ⟨x3, he⟩ => by
          subst he
          obtain ⟨j, hj, rfl⟩ := mem_rangeD.mp hd
          rw [Int.zero_add]
          refine ⟨_, [some (.ref r), x1, some (.int i), some (.int j)], rfl, ?_, _, rfl⟩
          simp [isBond_is R T hi hj]) (e := [some (.ref r), x1, some (.int i), x3]) ⟨_, rfl⟩
      refine ⟨_, [some (.ref r), x1, some (.int i), x3'], rfl, ?_, _, _, rfl⟩
      have q : evs [evB bLen [evVar 0]] [some (.ref r), x1, some (.int i), x3] h = .ok [.int n] h := by simp [R.len]
      simp only [List.set_cons_succ, List.set_cons_zero, svFor_eq, ivBy_eq, q, bind_ok, k1, toFl_ok, a3]) (e := [some (.ref r), x1, none, none]) ⟨_, _, rfl⟩
  have c0 : ¬ n = 0 := by omega
  have c6 : ¬ (6 : Int) < (n : Int) := by omega
  have q : evs [evB bLen [evVar 0]] [some (.ref r), x1, none, none] h = .ok [.int n] h := by simp [R.len]
  have t1 : svIf (tvOr (tvNot (tvOf (evCall d_is_list [(evVar 0)]))) (tvOf (evOp opEq (evB bLen [(evVar 0)]) (evC (.int 0))))) (svRaise1 "BadBonds" (evC .non)) svNil [some (.ref r), none, none, none] h = .nx [some (.ref r), none, none, none] h := by
    simp [il, R.len, c0]
  have t2 : svIf (tvOf (evOp opGt (evB bLen [(evVar 0)]) (evC (.int 6)))) (svRaise1 "TooGreat" (evC (.int 6))) svNil [some (.ref r), none, none, none] h = .nx [some (.ref r), none, none, none] h := by
    simp [R.len, c6]
  have t3 : svFor (ivSeq (evVar 0)) (gvName 1) (svIf (tvOr (tvNot (tvOf (evCall d_is_list [(evVar 1)]))) (tvOf (evOp opNe (evB bLen [(evVar 1)]) (evB bLen [(evVar 0)])))) (svRaise1 "BadBonds" (evC .non)) svNil) [some (.ref r), none, none, none] h = .nx [some (.ref r), x1, none, none] h := by
    simp only [svFor_eq, ivSeq_eq, evVar_eq, List.getElem?_cons_zero, ofV_some, bind_ok, itsOf_ref er, its_some, toFl_ok, a1]
  have t4 : svFor (ivBy [(evB bLen [(evVar 0)])] kR1) (gvName 2) (svFor (ivBy [(evB bLen [(evVar 0)])] kR1) (gvName 3) (svIf (tvNot (tvOf (evCall d_is_bond [(evVar 0), (evVar 2), (evVar 3)]))) (svRaise1 "BadBonds" (evTup [(evOp opAdd (evVar 2) (evC (.int 1))), (evOp opAdd (evVar 3) (evC (.int 1)))])) svNil)) [some (.ref r), x1, none, none] h = .nx [some (.ref r), x1, x2, x3] h := by
    rw [svFor_eq, ivBy_eq, q, bind_ok, k1, toFl_ok]
    exact a2
  have st0 : startE 4 [.ref r] = [some (.ref r), none, none, none] := rfl
  rw [d_need_rows, fnD_eq, st0, svSeq_eq, t1, seq_nx, svSeq_eq, t2, seq_nx, svSeq_eq, t3, seq_nx, t4, fin_nx, fin_non]
theorem make_isP {h : AH} {r n : Nat} {M : Nat → Nat → Int} (R : RowsAt h r n M) (T : Tab n M) {f : Ev} {e : Env} {h0 : AH} (hf : pv f e h0 = .ok (.ref r) h) : evMake "Bonds" d_Bonds___init__ [f] e h0 = .ok (.ref h.length) (h ++ [.sins "Bonds" [some (.tup (tabL n M))]]) := by
  have n6 := T.n6
  have R' := R.app [.ins "Bonds" []]
  obtain ⟨ks, ln, nd, nr, er, rr⟩ := id R'
  have lcE : evLc (ivSeq (evVar 1)) (Tgt.own (.one 2)) (Tgt.gv (.one 2)) tvYes (evB bTuple [(evVar 2)]) [some (.ref h.length), some (.ref r), none] (h ++ [.ins "Bonds" []]) = .ok (.tl (tabL n M)) (h ++ [.ins "Bonds" []]) := by
    have e1 : lcGo (some (r, .lst (ks.map .ref))) (Tgt.gv (.one 2)) tvYes (evB bTuple [(evVar 2)]) [some (.ref h.length), some (.ref r), none] (ks.map .ref) (h ++ [.ins "Bonds" []]) = .ok (tabL n M) (h ++ [.ins "Bonds" []]) := by
      obtain ⟨ys, h', a, rfl, hy⟩ := lcGo_inv (g := some (r, .lst (ks.map .ref))) (gv := Tgt.gv (.one 2)) (tt := tvYes) (elt := evB bTuple [(evVar 2)]) (e := [some (.ref h.length), some (.ref r), none]) (h := h ++ [.ins "Bonds" []])
        (fun i l h' => h' = h ++ [.ins "Bonds" []] ∧ l = (List.range i).map fun i => .tup (rowD n (M i))) (ks.map .ref) (fun _ _ _ _ z => by rw [z.1]; exact guardOk_some er)
        (fun i d l h' hd ⟨hh, hl⟩ => by
          rw [List.getElem?_map] at hd
          obtain ⟨k, hk, rfl⟩ := Option.map_eq_some_iff.mp hd
          have g := rr i k hk
          subst hh hl
          refine ⟨_, _, rfl, .inr ⟨_, .tup (rowD n (M i)), _, rfl, ?_, rfl, by simp [List.range_succ]⟩⟩
          simp [Tgt.gv, bTuple_ref g]) ⟨rfl, rfl⟩
      rw [a, hy, List.length_map, ln]
      rfl
    have lt : (ks.map D.ref).length < 16777216 := by rw [List.length_map]; omega
    rw [evLc_eq, ivSeq_eq]
    simp only [evVar_eq, List.getElem?_cons_zero, List.getElem?_cons_succ, ofV_some, bind_ok, itsOf_ref er, its_some]
    rw [if_pos lt]
    have e' : lcGo _ _ _ _ (wipeE [some (.ref h.length), some (.ref r), none] (Tgt.own (.one 2))) _ _ = _ := e1
    rw [e', bind_ok]
  have gi : (h ++ [AO.ins "Bonds" []])[h.length]? = some (.ins "Bonds" []) := by simp
  have sl : svSlot "Bonds" (evVar 0) (evB bTuple [(evLc (ivSeq (evVar 1)) (Tgt.own (.one 2)) (Tgt.gv (.one 2)) tvYes (evB bTuple [(evVar 2)]))]) [some (.ref h.length), some (.ref r), none] (h ++ [.ins "Bonds" []]) = .nx [some (.ref h.length), some (.ref r), none] (h ++ [.sins "Bonds" [some (.tup (tabL n M))]]) := by
    unfold svSlot
    have z : pv (evB bTuple [(evLc (ivSeq (evVar 1)) (Tgt.own (.one 2)) (Tgt.gv (.one 2)) tvYes (evB bTuple [(evVar 2)]))]) [some (.ref h.length), some (.ref r), none] (h ++ [.ins "Bonds" []]) = .ok (.tup (tabL n M)) (h ++ [.ins "Bonds" []]) := by
      rw [pv_eq, evB_eq, evs_cons, lcE]
      simp
    rw [z, toFl_ok, evVar_eq]
    simp only [List.getElem?_cons_zero, ofV_some, toFl_ok]
    rw [if_pos gi]
    simp
  have ini : d_Bonds___init__ [.ref h.length, .ref r] (h ++ [.ins "Bonds" []]) = .ok .non (h ++ [.sins "Bonds" [some (.tup (tabL n M))]]) := by
    have st0 : startE 3 [.ref h.length, .ref r] = [some (.ref h.length), some (.ref r), none] := rfl
    have f9 := fin_same (h := h ++ [AO.ins "Bonds" []]) (h2 := h ++ [AO.sins "Bonds" [some (.tup (tabL n M))]]) (d := .non) rfl (by simp)
    have t1 : svExpr (evCall d_need_rows [(evVar 1)]) [some (.ref h.length), some (.ref r), none] (h ++ [.ins "Bonds" []]) = .nx [some (.ref h.length), some (.ref r), none] (h ++ [.ins "Bonds" []]) := by
      simp [needRows_is R' T]
    rw [d_Bonds___init__, fnD_eq, st0, svSeq_eq, t1, seq_nx, sl, fin_nx, f9]
  unfold evMake
  simp only [evsV_cons, evsV_nil, hf, bind_ok, ini]
end BW

set_option Elab.async false
set_option linter.all false
set_option maxRecDepth 100000
set_option maxHeartbeats 4000000
namespace BW
open PySem
theorem join_len (sep : Str) (B : Nat) : ∀ ts : List Str, (∀ t ∈ ts, t.length ≤ B) → (Str.join sep ts).length ≤ ts.length * (B + sep.length)
  | [], _ => by simp only [List.length_nil, Nat.zero_mul]; exact Nat.le_refl _
  | [x], h => by
    have := h x (List.mem_cons_self)
    show x.length ≤ 1 * (B + sep.length)
    omega
  | x :: y :: r, h => by
    show (x ++ sep ++ Str.join sep (y :: r)).length ≤ _
    rw [strLen_append, strLen_append]
    have h1 := join_len sep B (y :: r) fun t ht => h t (List.mem_cons_of_mem _ ht)
    have h2 := h x (List.mem_cons_self)
    rw [List.length_cons, Nat.add_mul]
    omega
theorem tupleText_len {ts : List Str} {B : Nat} (h : ∀ t ∈ ts, t.length ≤ B) : (tupleText ts).length ≤ ts.length * (B + 2) + 3 := by
  unfold tupleText
  rw [strLen_append, strLen_append]
  have h1 := join_len ", " B ts h
  have e1 : ((", " : Str)).length = 2 := by decide +kernel
  have e2 : (("(" : Str)).length = 1 := by decide +kernel
  rw [e1] at h1
  have e3 : ((if ts.length == 1 then ",)" else ")" : String) : Str).length ≤ 2 := by
    split <;> decide +kernel
  omega
theorem shownAll_length : ∀ l : List PyData, (PyData.shownAll l).length = l.length
  | [] => rfl
  | _ :: l => by simp only [PyData.shownAll, List.length_cons, shownAll_length l]
theorem mem_shownAll : ∀ {l : List PyData} {t : Str}, t ∈ PyData.shownAll l → ∃ d ∈ l, t = d.shown
  | [], _, h => by simp [PyData.shownAll] at h
  | x :: l, t, h => by
    simp only [PyData.shownAll, List.mem_cons] at h
    rcases h with rfl | h
    · exact ⟨x, List.mem_cons_self, rfl⟩
    · obtain ⟨d, h1, h2⟩ := mem_shownAll h
      exact ⟨d, List.mem_cons_of_mem _ h1, h2⟩
end BW

set_option Elab.async false
set_option linter.all false
set_option maxRecDepth 100000
set_option maxHeartbeats 4000000
namespace BW
open PySem
theorem strOk_app {x y : Str} (hx : PyData.strOk x = true) (hy : PyData.strOk y = true) : PyData.strOk (x ++ y) = true := by
  unfold PyData.strOk at *
  show (x.cps ++ y.cps).all (fun c => decide (c < 0x110000)) = true
  rw [Array.all_append, hx, hy]; rfl
theorem strOk_join {sep : Str} (hs : PyData.strOk sep = true) : ∀ ts : List Str, (∀ t ∈ ts, PyData.strOk t = true) → PyData.strOk (Str.join sep ts) = true
  | [], _ => by show PyData.strOk Str.empty = true; decide +kernel
  | [x], h => h x List.mem_cons_self
  | x :: y :: r, h => by
    show PyData.strOk (x ++ sep ++ Str.join sep (y :: r)) = true
    exact strOk_app (strOk_app (h x List.mem_cons_self) hs) (strOk_join hs (y :: r) fun t ht => h t (List.mem_cons_of_mem _ ht))
theorem strOk_tuple {ts : List Str} (h : ∀ t ∈ ts, PyData.strOk t = true) : PyData.strOk (tupleText ts) = true := by
  unfold tupleText
  refine strOk_app (strOk_app (by decide +kernel) (strOk_join (by decide +kernel) ts h)) ?_
  split <;> decide +kernel
theorem opNe_str (h : AH) {z : Str} (hz : PyData.strOk z = true) : opNe h (.str z) (.str z) = some (.bl false) := by
  unfold opNe
  rw [eqD_str h hz hz]
  simp
end BW

set_option Elab.async false
set_option linter.all false
set_option maxRecDepth 100000
set_option maxHeartbeats 4000000
namespace BW
open PySem
theorem seq_step {a b : Sv} {e e' : Env} {h h' : AH} (ha : a e h = .nx e' h') : svSeq a b e h = b e' h' := by
  rw [svSeq_eq, ha, seq_nx]
def kd (p : Str × Bool) : D := .tup [.str p.1, .bl p.2]
end BW

set_option Elab.async false
set_option linter.all false
set_option maxRecDepth 100000
set_option maxHeartbeats 4000000
namespace BW
open PySem
end BW

set_option Elab.async false
set_option linter.all false
set_option maxRecDepth 100000
set_option maxHeartbeats 4000000
namespace BW
open PySem
end BW

set_option Elab.async false
set_option linter.all false
set_option maxRecDepth 100000
set_option maxHeartbeats 4000000
namespace BW
open PySem
theorem strOk_of (s : String) : PyData.strOk (Str.ofString s) = true := by
  rw [Str.ofString_eq_toList]
  unfold PyData.strOk
  simp only [List.all_toArray, List.all_map, List.all_eq_true, Function.comp, decide_eq_true_eq]
  intro c _
  have := c.valid
  simp only [UInt32.isValidChar, Nat.isValidChar] at this
  show c.val.toNat < 0x110000
  omega
theorem textFrom_ok : ∀ (ts : List Str) (k : Nat) (acc : Str), PyData.strOk acc = true → (∀ t ∈ ts, PyData.strOk t = true) → PyData.strOk (textFrom k acc ts) = true
  | [], _, acc, ha, _ => ha
  | t :: ts, k, acc, ha, h => by
    unfold textFrom
    refine textFrom_ok ts _ _ ?_ fun t ht => h t (List.mem_cons_of_mem _ ht)
    exact strOk_app (strOk_app ha (strOk_of _)) (h t List.mem_cons_self)
theorem strOk_list {ts : List Str} (h : ∀ t ∈ ts, PyData.strOk t = true) : PyData.strOk (listText ts) = true := by
  unfold listText
  exact strOk_app (textFrom_ok ts 0 _ (strOk_of _) h) (strOk_of _)
theorem textFrom_le {B : Nat} : ∀ (ts : List Str) (k : Nat) (acc : Str), (∀ t ∈ ts, t.length ≤ B) → (textFrom k acc ts).length ≤ acc.length + ts.length * (B + 2)
  | [], _, acc, _ => by simp [textFrom]
  | t :: ts, k, acc, h => by
    unfold textFrom
    refine Nat.le_trans (textFrom_le (B := B) ts _ _ fun t ht => h t (List.mem_cons_of_mem _ ht)) ?_
    have h1 := h t List.mem_cons_self
    have e1 : (((if k > 0 then ", " else "" : String)) : Str).length ≤ 2 := by split <;> decide +kernel
    rw [List.length_cons, Nat.add_mul, strLen_append, strLen_append]
    omega
theorem listText_len {ts : List Str} {B : Nat} (h : ∀ t ∈ ts, t.length ≤ B) : (listText ts).length ≤ ts.length * (B + 2) + 3 := by
  unfold listText
  have := textFrom_le (B := B) ts 0 "[" h
  have e1 : (("[" : String) : Str).length = 1 := by decide +kernel
  have e2 : (("]" : String) : Str).length = 1 := by decide +kernel
  rw [strLen_append, e2]
  omega
inductive Shw : Nat → PyData → Prop
  | non {B : Nat} : 2000 ≤ B → Shw B .none
  | bl {B : Nat} (b : Bool) : 2000 ≤ B → Shw B (.bool b)
  | int {B : Nat} {i : Int} : i.natAbs.log2 < 1920 → 2000 ≤ B → Shw B (.int i)
  | str {B : Nat} {x : Str} : PyData.strOk (reprText x) = true → (reprText x).length ≤ B → Shw B (.str x)
  | tup {B C : Nat} {xs : List PyData} : (∀ x ∈ xs, Shw B x) → xs.length * (B + 2) + 3 ≤ C → Shw C (.tuple xs)
  | lst {B C : Nat} {xs : List PyData} : (∀ x ∈ xs, Shw B x) → xs.length * (B + 2) + 3 ≤ C → Shw C (.list xs)
theorem showableAll_of : ∀ {xs : List PyData}, (∀ x ∈ xs, x.showable = true) → PyData.showableAll xs = true
  | [], _ => by simp [PyData.showableAll]
  | x :: xs, h => by simp [PyData.showableAll, h x List.mem_cons_self, showableAll_of fun y hy => h y (List.mem_cons_of_mem _ hy)]
theorem Shw.ok {B : Nat} {p : PyData} (h : Shw B p) : p.showable = true ∧ PyData.strOk p.shown = true ∧ p.shown.length ≤ B := by
  induction h with
  | non hB => exact ⟨rfl, strOk_of _, Nat.le_trans (by decide +kernel) hB⟩
  | bl b hB => exact ⟨rfl, by cases b <;> exact strOk_of _, Nat.le_trans (by cases b <;> decide +kernel) hB⟩
  | int hi hB => exact ⟨by simp [PyData.showable, hi], strOk_of _, Nat.le_trans (PyProof.Rows.int_text_len_1921 hi) (Nat.le_trans (by decide) hB)⟩
  | str h1 h2 => exact ⟨rfl, h1, h2⟩
  | @tup B C xs h hC ih =>
    refine ⟨by simp only [PyData.showable]; exact showableAll_of fun x hx => (ih x hx).1, ?_, ?_⟩
    · simp only [PyData.shown]
      exact strOk_tuple fun t ht => by
        obtain ⟨d, hd, rfl⟩ := mem_shownAll ht
        exact (ih d hd).2.1
    · simp only [PyData.shown]
      refine Nat.le_trans (tupleText_len (B := B) fun t ht => ?_) (by rw [shownAll_length]; exact hC)
      obtain ⟨d, hd, rfl⟩ := mem_shownAll ht
      exact (ih d hd).2.2
  | @lst B C xs h hC ih =>
    refine ⟨by simp only [PyData.showable]; exact showableAll_of fun x hx => (ih x hx).1, ?_, ?_⟩
    · simp only [PyData.shown]
      exact strOk_list fun t ht => by
        obtain ⟨d, hd, rfl⟩ := mem_shownAll ht
        exact (ih d hd).2.1
    · simp only [PyData.shown]
      refine Nat.le_trans (listText_len (B := B) fun t ht => ?_) (by rw [shownAll_length]; exact hC)
      obtain ⟨d, hd, rfl⟩ := mem_shownAll ht
      exact (ih d hd).2.2
theorem repr_of {h : AH} {d : D} {p : PyData} {B : Nat} (hd : dataK h 9 d = some p) (hs : Shw B p) (hB : B ≤ 16777216) : bRepr h [d] = some (.str p.shown) := by
  obtain ⟨h1, h2, h3⟩ := hs.ok
  show (dataK h 9 d).bind _ = _
  rw [hd]
  have : p.shown.length ≤ sizeLine := Nat.le_trans h3 (by rw [sizeLine_eq]; exact hB)
  simp [h1, this]
end BW

set_option Elab.async false
set_option linter.all false
set_option maxRecDepth 100000
set_option maxHeartbeats 4000000
namespace BW
open PySem
theorem dataK_word (h : AH) (n : Nat) (w : List Int) : dataK h (n + 1) (.tup (w.map .int)) = some (.tuple (w.map .int)) := by
  show (allK (dataK h n) (w.map D.int)).map PyData.tuple = _
  rw [dataK_ints]; rfl
theorem dataK_ref {h : AH} {k : Nat} {xs : List D} {ps : List PyData} (n : Nat) (e : h[k]? = some (.lst xs)) (hx : allK (dataK h n) xs = some ps) : dataK h (n + 1) (.ref k) = some (.list ps) := by
  simp only [dataK, e, hx]; rfl
@[simp] theorem bList_tup (h : AH) (xs : List D) : bList h [.tup xs] = some (.tl xs) := nrfl rfl
end BW

set_option Elab.async false
set_option linter.all false
namespace Cox
inductive Pr : Nat → Int → Int → Prop
  | b2 : Pr 2 0 0
  | b3 : Pr 3 1 1
  | b4 : Pr 4 1 2
  | b4' : Pr 4 2 1
  | b6 : Pr 6 1 3
  | b6' : Pr 6 3 1
  | b0 : Pr 0 2 2
structure Sys where
  m : Nat → Nat → Nat
  w : Nat → Nat → Int
  own : ∀ a, w a a = -2
  sym : ∀ a b, m a b = m b a
  pr : ∀ a b, a ≠ b → Pr (m a b) (w a b) (w b a)
abbrev Rw := Nat → Int
abbrev Wd := List Nat
namespace Sys
variable (S : Sys)
def press (a : Nat) (r : Rw) : Rw := fun b => r b + S.w a b * r a
def pw : Wd → Rw → Rw
  | [], r => r
  | a :: u, r => pw u (S.press a r)
end Sys
def alt (a b : Nat) : Nat → Wd
  | 0 => []
  | k + 1 => a :: alt b a k
@[simp] theorem alt_len : ∀ (k a b : Nat), (alt a b k).length = k
  | 0, _, _ => rfl
  | k + 1, a, b => by simp [alt, alt_len k b a]
inductive Alike (S : Sys) : Wd → Wd → Prop
  | refl (u : Wd) : Alike S u u
  | symm {u v : Wd} : Alike S u v → Alike S v u
  | trans {u v x : Wd} : Alike S u v → Alike S v x → Alike S u x
  | out (x y : Wd) (a : Nat) : Alike S (x ++ a :: a :: y) (x ++ y)
  | turn (x y : Wd) (a b : Nat) : a ≠ b → Alike S (x ++ alt a b (S.m a b) ++ y) (x ++ alt b a (S.m a b) ++ y)
section
open Sys
variable {S : Sys}
theorem pw_append (u v : Wd) (r : Rw) : S.pw (u ++ v) r = S.pw v (S.pw u r) := by
  induction u generalizing r with
  | nil => rfl
  | cons a u ih => exact ih _
theorem press_twice (a : Nat) (r : Rw) : S.press a (S.press a r) = r := by
  funext b
  simp only [Sys.press, S.own]
  grind
theorem braid (a b : Nat) (h : a ≠ b) (r : Rw) : S.pw (alt a b (S.m a b)) r = S.pw (alt b a (S.m a b)) r := by
  have p := S.pr a b h
  generalize hm : S.m a b = m at *
  generalize hx : S.w a b = x at *
  generalize hy : S.w b a = y at *
  funext c
  cases p <;> simp only [alt, Sys.pw, Sys.press, S.own, hx, hy] <;> grind
theorem Alike.pw {u v : Wd} (h : Alike S u v) (r : Rw) : S.pw u r = S.pw v r := by
  induction h generalizing r with
  | refl => rfl
  | symm _ ih => exact (ih r).symm
  | trans _ _ i j => exact (i r).trans (j r)
  | out x y a => rw [pw_append, pw_append]; show S.pw y (S.press a (S.press a _)) = _; rw [press_twice]
  | turn x y a b h => rw [pw_append, pw_append, pw_append, pw_append, braid a b h]
theorem Alike.par {u v : Wd} (h : Alike S u v) : u.length % 2 = v.length % 2 := by
  induction h with
  | refl => rfl
  | symm _ ih => exact ih.symm
  | trans _ _ i j => exact i.trans j
  | out x y a => simp; omega
  | turn x y a b h => simp
theorem Alike.left (x : Wd) {u v : Wd} (h : Alike S u v) : Alike S (x ++ u) (x ++ v) := by
  induction h with
  | refl => exact .refl _
  | symm _ ih => exact ih.symm
  | trans _ _ i j => exact i.trans j
  | out y z a => have := Alike.out (S := S) (x ++ y) z a; simpa using this
  | turn y z a b h => have := Alike.turn (S := S) (x ++ y) z a b h; simpa using this
theorem Alike.right (x : Wd) {u v : Wd} (h : Alike S u v) : Alike S (u ++ x) (v ++ x) := by
  induction h with
  | refl => exact .refl _
  | symm _ ih => exact ih.symm
  | trans _ _ i j => exact i.trans j
  | out y z a => have := Alike.out (S := S) y (z ++ x) a; simpa using this
  | turn y z a b h => have := Alike.turn (S := S) y (z ++ x) a b h; simpa using this
theorem Alike.app {u v x y : Wd} (h : Alike S u v) (g : Alike S x y) : Alike S (u ++ x) (v ++ y) := (h.right x).trans (g.left v)
theorem alt_snoc : ∀ (k a b : Nat), alt a b (k + 1) = alt a b k ++ [if k % 2 = 0 then a else b]
  | 0, a, b => rfl
  | k + 1, a, b => by
    rw [alt, alt_snoc k b a, alt]
    simp only [List.cons_append]
    congr 2
    by_cases h : k % 2 = 0 <;> simp [h] <;> omega
def Short (S : Sys) (u : Wd) : Prop := ∀ v, Alike S u v → u.length ≤ v.length
theorem ex_short (S : Sys) (u : Wd) : ∃ v, Alike S u v ∧ Short S v := by
  suffices z : ∀ n (u : Wd), u.length ≤ n → ∃ v, Alike S u v ∧ Short S v from z u.length u (Nat.le_refl _)
  intro n
  induction n with
  | zero => exact fun u h => ⟨u, .refl _, fun v _ => by omega⟩
  | succ n ih =>
    intro u h
    by_cases s : Short S u
    · exact ⟨u, .refl _, s⟩
    · have ⟨v, s⟩ := Classical.not_forall.mp s
      have ⟨s1, s2⟩ := Classical.not_imp.mp s
      obtain ⟨x, a, b⟩ := ih v (by omega)
      exact ⟨x, s1.trans a, b⟩
noncomputable def ell (S : Sys) (u : Wd) : Nat := (Classical.choose (ex_short S u)).length
theorem ell_of {u v : Wd} (h : Alike S u v) (s : Short S v) : ell S u = v.length := by
  have ⟨a, b⟩ := Classical.choose_spec (ex_short S u)
  exact Nat.le_antisymm (b _ (a.symm.trans h)) (s _ (h.symm.trans a))
theorem ell_ex (S : Sys) (u : Wd) : ∃ v, Alike S u v ∧ Short S v ∧ v.length = ell S u :=
  have ⟨a, b⟩ := Classical.choose_spec (ex_short S u)
  ⟨_, a, b, rfl⟩
theorem ell_le (u : Wd) : ell S u ≤ u.length := by
  obtain ⟨v, a, b, c⟩ := ell_ex S u
  rw [← c]; exact b _ a.symm
theorem ell_short {u : Wd} (h : Short S u) : ell S u = u.length := ell_of (.refl _) h
theorem ell_congr {u v : Wd} (h : Alike S u v) : ell S u = ell S v := by
  obtain ⟨x, a, b, c⟩ := ell_ex S v
  rw [ell_of (h.trans a) b, c]
theorem ell_par (u : Wd) : ell S u % 2 = u.length % 2 := by
  obtain ⟨v, a, b, c⟩ := ell_ex S u
  rw [← c]; exact a.par.symm
theorem ell_app (u v : Wd) : ell S (u ++ v) ≤ ell S u + ell S v := by
  obtain ⟨x, a1, a2, a3⟩ := ell_ex S u
  obtain ⟨y, b1, b2, b3⟩ := ell_ex S v
  rw [ell_congr (a1.app b1), ← a3, ← b3, ← List.length_append]; exact ell_le _
theorem ell_one_le (a : Nat) : ell S [a] ≤ 1 := ell_le (S := S) [a]
theorem out_end (u : Wd) (s : Nat) : Alike S (u ++ [s] ++ [s]) u := by
  have := Alike.out (S := S) u [] s
  simpa using this
theorem ell_step (u : Wd) (s : Nat) : ell S (u ++ [s]) = ell S u + 1 ∨ ell S u = ell S (u ++ [s]) + 1 := by
  have h1 := ell_app (S := S) u [s]
  have h2 := ell_app (S := S) (u ++ [s]) [s]
  have h3 := ell_one_le (S := S) s
  rw [ell_congr (out_end u s)] at h2
  have p1 := ell_par (S := S) u
  have p2 := ell_par (S := S) (u ++ [s])
  simp at p2
  omega
theorem Short.pre {u v : Wd} (h : Short S (u ++ v)) : Short S u := fun x a => by
  have := h _ (a.right v)
  simp at this; omega
end
end Cox

set_option Elab.async false
set_option linter.all false
namespace Cox
section
open Sys
variable {S : Sys}
def nxt (c d j : Nat) : Nat := if j % 2 = 0 then c else d
theorem nxt_succ (c d j : Nat) : nxt c d (j + 1) = nxt d c j := by
  unfold nxt
  by_cases h : j % 2 = 0 <;> simp [h] <;> omega
theorem alt_succ' (c d j : Nat) : alt c d (j + 1) = alt c d j ++ [nxt c d j] := alt_snoc j c d
theorem rank0 {c d : Nat} (h1 : S.w c d = 2) (h2 : S.w d c = 2) : ∀ (j : Nat) (r : Rw), S.pw (alt c d j) r (nxt c d j) = ((j : Int) + 1) * r c + j * r d
  | 0, r => by simp [alt, Sys.pw, nxt]
  | j + 1, r => by
    rw [alt, Sys.pw, nxt_succ, rank0 h2 h1 j]
    simp only [Sys.press, h1, S.own]
    grind
theorem rank2 {c d : Nat} (h : c ≠ d) (j : Nat) (hj : S.m c d = 0 ∨ j < S.m c d) (r : Rw) (hc : 0 < r c) (hd : 0 < r d) : 0 < S.pw (alt c d j) r (nxt c d j) := by
  have p := S.pr c d h
  generalize hm : S.m c d = m at *
  generalize hx : S.w c d = x at *
  generalize hy : S.w d c = y at *
  cases p with
  | b0 =>
    rw [rank0 hx hy]
    have : 0 ≤ (j : Int) * r d := Int.mul_nonneg (by omega) (by omega)
    have : 0 < ((j : Int) + 1) * r c := Int.mul_pos (by omega) hc
    omega
  | b2 =>
    have : j = 0 ∨ j = 1 := by omega
    rcases this with rfl | rfl <;> simp [alt, Sys.pw, Sys.press, nxt, S.own, hx, hy] <;> omega
  | b3 =>
    have : j = 0 ∨ j = 1 ∨ j = 2 := by omega
    rcases this with rfl | rfl | rfl <;> simp [alt, Sys.pw, Sys.press, nxt, S.own, hx, hy] <;> omega
  | b4 =>
    have : j = 0 ∨ j = 1 ∨ j = 2 ∨ j = 3 := by omega
    rcases this with rfl | rfl | rfl | rfl <;> simp [alt, Sys.pw, Sys.press, nxt, S.own, hx, hy] <;> omega
  | b4' =>
    have : j = 0 ∨ j = 1 ∨ j = 2 ∨ j = 3 := by omega
    rcases this with rfl | rfl | rfl | rfl <;> simp [alt, Sys.pw, Sys.press, nxt, S.own, hx, hy] <;> omega
  | b6 =>
    have : j = 0 ∨ j = 1 ∨ j = 2 ∨ j = 3 ∨ j = 4 ∨ j = 5 := by omega
    rcases this with rfl | rfl | rfl | rfl | rfl | rfl <;> simp [alt, Sys.pw, Sys.press, nxt, S.own, hx, hy] <;> omega
  | b6' =>
    have : j = 0 ∨ j = 1 ∨ j = 2 ∨ j = 3 ∨ j = 4 ∨ j = 5 := by omega
    rcases this with rfl | rfl | rfl | rfl | rfl | rfl <;> simp [alt, Sys.pw, Sys.press, nxt, S.own, hx, hy] <;> omega
theorem alt_add : ∀ (i j c d : Nat), alt c d (i + j) = alt c d i ++ (if i % 2 = 0 then alt c d j else alt d c j)
  | 0, j, c, d => by simp [alt]
  | i + 1, j, c, d => by
    rw [show i + 1 + j = (i + j) + 1 by omega, alt, alt, alt_add i j d c]
    by_cases h : i % 2 = 0
    · rw [if_pos h, if_neg (by omega)]; rfl
    · rw [if_neg h, if_pos (by omega)]; rfl
theorem undo_end (v : Wd) (s : Nat) : Alike S (v ++ [s] ++ [s]) v := out_end v s
theorem ex_max (Q : Nat → Prop) (k : Nat) (hb : ∀ j, Q j → j ≤ k) {i : Nat} (h : Q i) : ∃ j, i ≤ j ∧ Q j ∧ ¬ Q (j + 1) := by
  suffices z : ∀ n i, k - i = n → Q i → ∃ j, i ≤ j ∧ Q j ∧ ¬ Q (j + 1) from z _ i rfl h
  intro n
  induction n with
  | zero => exact fun i e q => ⟨i, Nat.le_refl _, q, fun z => by have := hb _ z; omega⟩
  | succ n ih =>
    intro i e q
    by_cases z : Q (i + 1)
    · obtain ⟨j, a, b, c⟩ := ih (i + 1) (by omega) z
      exact ⟨j, by omega, b, c⟩
    · exact ⟨i, Nat.le_refl _, q, z⟩
theorem pos : ∀ (k : Nat) (u : Wd) (s : Nat), u.length = k → Short S u → ell S (u ++ [s]) = k + 1 → ∀ r : Rw, (∀ a, 0 < r a) → 0 < S.pw u r s := by
  intro k
  induction k using Nat.strongRecOn with
  | ind k ih =>
  intro u s hk hu hs r hr
  by_cases hz : k = 0
  · subst hz
    rw [List.length_eq_zero_iff.mp hk]
    exact hr s
  have hne : u ≠ [] := fun z => by rw [z] at hk; simp at hk; omega
  obtain ⟨u0, t, rfl⟩ : ∃ u0 t, u = u0 ++ [t] := ⟨u.dropLast, u.getLast hne, (List.dropLast_concat_getLast hne).symm⟩
  have hts : t ≠ s := fun z => by
    subst z
    have := ell_congr (S := S) (undo_end u0 t)
    have := ell_le (S := S) u0
    simp at hk
    omega
  simp at hk
  -- the longest stretch of s and t at the end
  obtain ⟨j, hj1, ⟨v, c, d, hcd, hal, hvj⟩, hmax⟩ := ex_max (fun j => ∃ v c d, ((c = s ∧ d = t) ∨ (c = t ∧ d = s)) ∧ Alike S (u0 ++ [t]) (v ++ alt c d j) ∧ v.length + j = k) k (fun j ⟨v, c, d, _, _, h⟩ => by omega) (i := 1) ⟨u0, t, s, .inr ⟨rfl, rfl⟩, .refl _, by omega⟩
  obtain ⟨i, rfl⟩ : ∃ i, j = i + 1 := ⟨j - 1, by omega⟩
  have ne : c ≠ d := by rcases hcd with ⟨rfl, rfl⟩ | ⟨rfl, rfl⟩ <;> first | exact hts | exact Ne.symm hts
  have sh : Short S (v ++ alt c d (i + 1)) := fun x a => by
    have := hu x (hal.trans a)
    simp at this ⊢
    omega
  have sv : Short S v := sh.pre
  have up : ∀ e, e = c ∨ e = d → ell S (v ++ [e]) = v.length + 1 := by
    intro e he
    rcases ell_step (S := S) v e with z | z
    · rw [z, ell_short sv]
    · exfalso
      rw [ell_short sv] at z
      obtain ⟨v', a1, a2, a3⟩ := ell_ex S (v ++ [e])
      have av : Alike S v (v' ++ [e]) := (undo_end v e).symm.trans (a1.right [e])
      have au : Alike S (u0 ++ [t]) (v' ++ [e] ++ alt c d (i + 1)) := hal.trans (av.right _)
      rcases he with rfl | rfl
      · have o := Alike.out (S := S) v' (alt d e i) e
        have := hu _ (au.trans (by simpa [alt] using o))
        simp at this
        omega
      · refine hmax ⟨v', e, c, ?_, ?_, ?_⟩
        · rcases hcd with ⟨rfl, rfl⟩ | ⟨rfl, rfl⟩ <;> simp
        · rw [List.append_assoc] at au
          exact au
        · omega
  have pc := ih v.length (by omega) v c rfl sv (up c (.inl rfl)) r hr
  have pd := ih v.length (by omega) v d rfl sv (up d (.inr rfl)) r hr
  have last : ∀ x y : Wd, Alike S (v ++ alt c d (i + 1)) (x ++ [s]) → x.length < k → False := fun x y a hl => by
    have h1 := (hal.trans a).right [s]
    have h2 := ell_congr (h1.trans (undo_end x s))
    have h3 := ell_le (S := S) x
    omega
  have hn : nxt c d (i + 1) = s := by
    apply Classical.byContradiction
    intro z
    have e : nxt c d i = s := by
      unfold nxt at *
      by_cases h : i % 2 = 0
      · rw [if_neg (by omega)] at z
        rw [if_pos h]
        rcases hcd with ⟨e1, e2⟩ | ⟨e1, e2⟩
        · exact e1
        · exact absurd e2 z
      · rw [if_pos (by omega)] at z
        rw [if_neg h]
        rcases hcd with ⟨e1, e2⟩ | ⟨e1, e2⟩
        · exact absurd e1 z
        · exact e2
    refine last (v ++ alt c d i) [] ?_ (by simp; omega)
    rw [alt_succ', e, ← List.append_assoc]
    exact .refl _
  have hm : S.m c d = 0 ∨ i + 1 < S.m c d := by
    by_cases h0 : S.m c d = 0
    · exact .inl h0
    refine .inr (Nat.lt_of_not_le fun hle => ?_)
    obtain ⟨q, hq⟩ : ∃ q, S.m c d = q + 1 := ⟨S.m c d - 1, by omega⟩
    have e := alt_add (i + 1 - S.m c d) (S.m c d) c d
    rw [show i + 1 - S.m c d + S.m c d = i + 1 by omega] at e
    by_cases hp : (i + 1 - S.m c d) % 2 = 0
    · rw [if_pos hp] at e
      have tn := Alike.turn (S := S) (v ++ alt c d (i + 1 - S.m c d)) [] c d ne
      simp only [List.append_nil] at tn
      have el : nxt d c q = s := by
        rw [← hn]; unfold nxt
        by_cases h : q % 2 = 0
        · rw [if_pos h, if_neg (by omega)]
        · rw [if_neg h, if_pos (by omega)]
      have e2 : alt d c (S.m c d) = alt d c q ++ [s] := by rw [hq, alt_succ', el]
      refine last (v ++ alt c d (i + 1 - S.m c d) ++ alt d c q) [] ?_ (by simp; omega)
      rw [e2] at tn
      rw [e, ← List.append_assoc]
      simpa using tn
    · rw [if_neg hp] at e
      have tn := Alike.turn (S := S) (v ++ alt c d (i + 1 - S.m c d)) [] d c (Ne.symm ne)
      simp only [List.append_nil] at tn
      rw [S.sym d c] at tn
      have el : nxt c d q = s := by
        rw [← hn]; unfold nxt
        by_cases h : q % 2 = 0
        · rw [if_pos h, if_pos (by omega)]
        · rw [if_neg h, if_neg (by omega)]
      have e2 : alt c d (S.m c d) = alt c d q ++ [s] := by rw [hq, alt_succ', el]
      refine last (v ++ alt c d (i + 1 - S.m c d) ++ alt c d q) [] ?_ (by simp; omega)
      rw [e2] at tn
      rw [e, ← List.append_assoc]
      simpa using tn
  have fin := rank2 (S := S) ne (i + 1) hm (S.pw v r) pc pd
  rw [hn, ← pw_append] at fin
  rw [hal.pw r]
  exact fin
def ones : Rw := fun _ => 1
def row (S : Sys) (u : Wd) : Rw := S.pw u ones
end
end Cox

set_option Elab.async false
set_option linter.all false
namespace Cox
section
open Sys
variable {S : Sys}
def lst (n : Nat) (r : Rw) : List Int := (List.range n).map r
def belowN (n : Nat) (r : Rw) : Wd := (List.range n).filter fun b => decide (r b < 0)
def und (S : Sys) (n : Nat) (pk : Wd → Nat) : Nat → Rw → Wd × Rw
  | 0, r => ([], r)
  | k + 1, r => if belowN n r = [] then ([], r) else
    let a := pk (belowN n r)
    let q := und S n pk k (S.press a r)
    (a :: q.1, q.2)
def hd (l : Wd) : Nat := l.headD 0
def lt (l : Wd) : Nat := l.getLastD 0
def least (S : Sys) (n : Nat) (u : Wd) : Wd := (und S n hd 60 (row S u.reverse)).1
end
end Cox

set_option Elab.async false
set_option linter.all false
set_option maxRecDepth 100000
set_option maxHeartbeats 4000000
namespace BW
open PySem
def Runs (s : Sv) (e : Env) (h : AH) (Q : Fl → Prop) : Prop := Q (s e h)
def Fl.go (o : Fl) (k : Env → AH → Prop) (Q : Fl → Prop) : Prop := match o with
  | .nx e h => k e h
  | o => Q o
@[simp] theorem go_ret (d : D) (h : AH) (k : Env → AH → Prop) (Q : Fl → Prop) : (Fl.ret d h).go k Q = Q (.ret d h) := nrfl rfl
theorem go_seq (o : Fl) (b : Sv) (Q : Fl → Prop) : Q (o.seq b) = o.go (fun e h => Runs b e h Q) Q := by cases o <;> rfl
theorem Runs.step {a b : Sv} {e : Env} {h : AH} {Q : Fl → Prop} (k : ∀ (K : Sv) (Q' : Fl → Prop), K = b → Q' = Q → (a e h).go (fun e h => Runs K e h Q') Q') : Runs (svSeq a b) e h Q := by
  have := k b Q rfl rfl
  rw [← go_seq] at this
  unfold Runs
  rw [svSeq_eq]
  exact this
theorem Runs.last {a : Sv} {e : Env} {h : AH} {Q : Fl → Prop} (k : ∀ (Q' : Fl → Prop), Q' = Q → Q' (a e h)) : Runs a e h Q := k Q rfl
theorem Runs.seq {a b : Sv} {e e' : Env} {h h' : AH} {Q : Fl → Prop} (ha : a e h = .nx e' h') (k : Runs b e' h' Q) : Runs (svSeq a b) e h Q := by
  unfold Runs; rw [seq_step ha]; exact k
theorem Runs.asg {f : Ev} {i : Nat} {b : Sv} {e : Env} {h h1 : AH} {d : D} {Q : Fl → Prop} (hf : pv f e h = .ok d h1) (k : Runs b (e.set i (some d)) h1 Q) : Runs (svSeq (svAsg f (gvName i)) b) e h Q :=
  Runs.seq (by rw [svAsg_eq, hf, toFl_ok, gvName_eq, nxE_ok]) k
theorem Runs.loop {iv : Iv} {g : Gv} {body b : Sv} {e : Env} {h h1 : AH} {it : Its} {Q : Fl → Prop} (P : Nat → Env → AH → Prop) (hi : iv e h = .ok it h1) (h0 : P 0 e h1)
    (hg : ∀ i e h, i ≤ it.xs.length → P i e h → guardOk it.g h = true)
    (hs : ∀ i d e h, it.xs[i]? = some d → P i e h → ∃ e1 h1, g d e h = .ok e1 h1 ∧ Runs body e1 h1 fun o => ∃ e2 h2, o = .nx e2 h2 ∧ P (i + 1) e2 h2)
    (k : ∀ e h, P it.xs.length e h → Runs b e h Q) : Runs (svSeq (svFor iv g body) b) e h Q := by
  obtain ⟨e', h', a, p⟩ := forGo_inv (g := it.g) (gv := g) (body := body) P it.xs hg (fun i d e h hd hp => by
    obtain ⟨e1, h1, a1, e2, h2, a2, a3⟩ := hs i d e h hd hp
    exact ⟨e1, h1, e2, h2, a1, a2, a3⟩) h0
  exact Runs.seq (by rw [svFor_eq, hi, toFl_ok]; exact a) (k e' h' p)
theorem Runs.call {n : Nat} {body : Sv} {ds : List D} {h : AH} {o : Out D} (k : Runs body (startE n ds) h fun f => f.fin h = o) : fnD n body ds h = o := by
  rw [fnD_eq]; exact k
theorem Runs.callE {n : Nat} {body : Sv} {ds : List D} {h : AH} {P : Out D → Prop} (k : Runs body (startE n ds) h fun f => P (f.fin h)) : P (fnD n body ds h) := by
  rw [fnD_eq]; exact k
theorem evLc_filter {iv : Iv} {own : List Nat} {gv : Gv} {tt : Tv} {elt : Ev} {e : Env} {h : AH} (it : Its) (p : D → Bool) (f : D → D) (hi : iv e h = .ok it h) (hn : it.xs.length < 16777216) (hg : guardOk it.g h = true)
    (hs : ∀ d ∈ it.xs, ∃ e1, gv d (wipeE e own) h = .ok e1 h ∧ tt e1 h = .ok (p d) h ∧ (p d = true → pv elt e1 h = .ok (f d) h)) : evLc iv own gv tt elt e h = .ok (.tl ((it.xs.filter p).map f)) h := by
  rw [evLc_eq, hi, bind_ok, if_pos hn, lcGo_pure p f it.xs hg hs, bind_ok]
theorem evLc_rangeM {iv : Iv} {own : List Nat} {gv : Gv} {elt : Ev} {e : Env} {h : AH} (a : Int) (n : Nat) (f : Nat → D) (hi : iv e h = .ok { xs := rangeD a n } h) (hn : n < 16777216)
    (hs : ∀ i, i < n → ∃ e1, gv (.int (a + (i : Nat))) (wipeE e own) h = .ok e1 h ∧ pv elt e1 h = .ok (f i) h) : evLc iv own gv tvYes elt e h = .ok (.tl ((List.range n).map f)) h := by
  rw [evLc_eq, hi, bind_ok, if_pos (by rw [rangeD_length]; exact hn), lcGo_rangeM f a n rfl hs, bind_ok]
theorem evLc_onM {α : Type} {iv : Iv} {own : List Nat} {gv : Gv} {elt : Ev} {e : Env} {h : AH} (g : Option (Nat × GO)) (q : α → D) (f : α → D) (l : List α) (hi : iv e h = .ok { xs := l.map q, g := g } h) (hn : l.length < 16777216) (hg : guardOk g h = true)
    (hs : ∀ a ∈ l, ∃ e1, gv (q a) (wipeE e own) h = .ok e1 h ∧ pv elt e1 h = .ok (f a) h) : evLc iv own gv tvYes elt e h = .ok (.tl (l.map f)) h := by
  rw [evLc_eq, hi, bind_ok, if_pos (by rw [List.length_map]; exact hn), lcGo_onM q f l hg hs, bind_ok]
theorem st0 (n : Nat) (ds : List D) : startE n ds = ds.map some ++ List.replicate (n - ds.length) none := rfl
theorem ivSeq_of {f : Ev} {e : Env} {h h1 : AH} {d : D} {it : Its} (hf : f e h = .ok d h1) (hi : itsOf h1 d = some it) : ivSeq f e h = .ok it h1 := by
  rw [ivSeq_eq, hf, bind_ok, hi, its_some]
end BW

set_option Elab.async false
set_option linter.all false
set_option maxRecDepth 100000
set_option maxHeartbeats 4000000
namespace BW
open PySem Cox
def up (u : Wd) : List Int := u.map fun (a : Nat) => (a : Int) + 1
end BW

set_option Elab.async false
set_option linter.all false
set_option maxRecDepth 100000
set_option maxHeartbeats 4000000
namespace BW
open PySem Cox
section
variable {h : AH} {b n : Nat} {M : Nat → Nat → Int}
end
end BW

set_option Elab.async false
set_option linter.all false
set_option maxRecDepth 100000
set_option maxHeartbeats 4000000
namespace BW
open PySem Cox
section
variable {h : AH} {b n : Nat} {M : Nat → Nat → Int}
theorem wordT (h : AH) (w : List Int) : WordAt h (.tup (w.map .int)) w := .inl rfl
open Classical in
end
end BW

set_option Elab.async false
set_option linter.all false
set_option maxRecDepth 100000
set_option maxHeartbeats 4000000
namespace BW
open PySem Cox
section
variable {h : AH} {r n : Nat} {M : Nat → Nat → Int}
end
end BW

set_option Elab.async false
set_option linter.all false
set_option maxRecDepth 100000
set_option maxHeartbeats 4000000
namespace BW
open PySem Cox
section
variable {h : AH} {r n : Nat} {M : Nat → Nat → Int}
end
end BW

set_option Elab.async false
set_option linter.all false
set_option maxRecDepth 100000
set_option maxHeartbeats 4000000
namespace BW
open PySem Cox
section
variable {h : AH} {r n : Nat} {M : Nat → Nat → Int}
end
end BW

set_option Elab.async false
set_option linter.all false
set_option maxRecDepth 100000
set_option maxHeartbeats 4000000
namespace BW
open PySem Cox
theorem allK_self {f : D → Option PyData} (hf : ∀ d p, f d = some p → PyData.eqv p p = true) : ∀ {xs : List D} {ps : List PyData}, allK f xs = some ps → PyData.eqvAll ps ps = true
  | [], _, e => by cases e; rfl
  | x :: xs, _, e => by
    unfold allK at e
    split at e
    · rename_i a as h1 h2
      cases e
      simp only [PyData.eqvAll, hf x a h1, allK_self hf h2, Bool.and_self]
    · cases e
theorem eqv_data {h : AH} : ∀ (n : Nat) (d : D) (p : PyData), dataK h n d = some p → PyData.eqv p p = true := by
  intro n
  induction n with
  | zero =>
    intro d p e
    cases d <;> simp only [dataK] at e <;> first | (cases e; simp [PyData.eqv]) | (split at e <;> cases e; simp [PyData.eqv]) | cases e
  | succ n ih =>
    intro d p e
    cases d <;> simp only [dataK] at e
    case non => cases e; simp [PyData.eqv]
    case bl => cases e; simp [PyData.eqv]
    case int => cases e; simp [PyData.eqv]
    case str => split at e <;> cases e; simp [PyData.eqv]
    case tup xs =>
      obtain ⟨ps, h1, rfl⟩ := Option.map_eq_some_iff.mp e
      simp only [PyData.eqv]; exact allK_self ih h1
    case tl xs =>
      obtain ⟨ps, h1, rfl⟩ := Option.map_eq_some_iff.mp e
      simp only [PyData.eqv]; exact allK_self ih h1
    case rl xs =>
      obtain ⟨ps, h1, rfl⟩ := Option.map_eq_some_iff.mp e
      simp only [PyData.eqv]; exact allK_self ih h1
    case ref k =>
      split at e
      · obtain ⟨ps, h1, rfl⟩ := Option.map_eq_some_iff.mp e
        simp only [PyData.eqv]; exact allK_self ih h1
      · cases e
    all_goals cases e
theorem eq_same {h : AH} {a b : D} {p : PyData} (ha : dataK h 9 a = some p) (hb : dataK h 9 b = some p) : opEq h a b = some (.bl true) := by
  unfold opEq eqD
  rw [ha, hb]
  simp [eqv_data _ _ _ ha]
theorem ne_same {h : AH} {a b : D} {p : PyData} (ha : dataK h 9 a = some p) (hb : dataK h 9 b = some p) : opNe h a b = some (.bl false) := by
  unfold opNe eqD
  rw [ha, hb]
  simp [eqv_data _ _ _ ha]
@[simp] theorem dataK_int (h : AH) (n : Nat) (i : Int) : dataK h n (.int i) = some (.int i) := by cases n <;> rfl
theorem allK_two {f : D → Option PyData} {a b : D} {p q : PyData} (ha : f a = some p) (hb : f b = some q) : allK f [a, b] = some [p, q] := by
  simp [allK, ha, hb]
theorem dataK_tl (h : AH) (n : Nat) (xs : List D) : dataK h (n + 1) (.tl xs) = (allK (dataK h n) xs).map .list := rfl
theorem dataK_tp (h : AH) (n : Nat) (xs : List D) : dataK h (n + 1) (.tup xs) = (allK (dataK h n) xs).map .tuple := rfl
theorem log2_small {i : Int} {k : Nat} (h : i.natAbs < 2 ^ k) (hk : k ≤ 1920) (h0 : 0 < k) : i.natAbs.log2 < 1920 := by
  by_cases z : i.natAbs = 0
  · rw [z]; decide
  · exact Nat.lt_of_lt_of_le ((Nat.log2_lt z).mpr h) hk
theorem shw_int {i : Int} (h0 : -1000000 ≤ i) (h1 : i ≤ 1000000) : Shw 2000 (.int i) := .int (log2_small (k := 20) (by have : (2 : Nat) ^ 20 = 1048576 := rfl; omega) (by decide) (by decide)) (Nat.le_refl _)
theorem Runs.par2 {f g : Ev} {i j : Nat} {b : Sv} {e : Env} {h h1 h2 : AH} {d d' : D} {Q : Fl → Prop} (hf : pv f e h = .ok d h1) (hg : pv g e h1 = .ok d' h2) (k : Runs b ((e.set i (some d)).set j (some d')) h2 Q) : Runs (svSeq (svPar [f, g] [i, j]) b) e h Q :=
  Runs.seq (by rw [svPar_eq, evsV_cons, hf, bind_ok, evsV_cons, hg, bind_ok, evsV_nil, bind_ok, bind_ok, toFl_ok]; rfl) k
theorem pv_call {d : Fd} {fs : List Ev} {e : Env} {h h1 h2 : AH} {ds : List D} {v : D} (ev : evsV fs e h = .ok ds h1) (hd : d ds h1 = .ok v h2) (hp : promote v h2 = .ok v h2) : pv (evCall d fs) e h = .ok v h2 := by
  rw [pv_eq, evCall_eq, ev, bind_ok, hd, bind_ok, hp]
def litM (L : List (List Int)) : Nat → Nat → Int := fun i j => (L.getD i []).getD j 0
theorem litRows (L : List (List Int)) {n : Nat} (h : AH) (hL : L.length = n) (hr : ∀ row ∈ L, row.length = n) : RowsAt (h ++ (L.map (fun row => AO.lst (row.map .int)) ++ [.lst ((List.range n).map fun i => .ref (h.length + i))])) (h.length + n) n (litM L) := by
  refine ⟨(List.range n).map fun i => h.length + i, by simp, ?_, ?_, ?_, ?_⟩
  · rw [List.nodup_iff_pairwise_ne, List.pairwise_map]
    exact List.Pairwise.imp (fun {a b} (z : a ≠ b) e => z (Nat.add_left_cancel e)) (List.nodup_iff_pairwise_ne.mp List.nodup_range)
  · intro z
    obtain ⟨i, hi, e⟩ := List.mem_map.mp z
    have := List.mem_range.mp hi
    omega
  · rw [List.getElem?_append_right (by omega), List.getElem?_append_right (by simp; omega)]
    have : h.length + n - h.length - (L.map (fun row => AO.lst (row.map .int))).length = 0 := by simp; omega
    rw [this, List.map_map]; rfl
  · intro i k e
    rw [List.getElem?_map, Option.map_eq_some_iff] at e
    obtain ⟨j, hj, rfl⟩ := e
    obtain ⟨h1, h2⟩ := List.getElem?_eq_some_iff.mp hj
    simp at h1 h2
    subst h2
    have il : i < L.length := by omega
    rw [List.getElem?_append_right (by omega), List.getElem?_append_left (by simp; omega), show h.length + i - h.length = i by omega]
    rw [List.getElem?_map, List.getElem?_eq_getElem il]
    simp only [Option.map_some, Option.some.injEq, AO.lst.injEq]
    have rl := hr L[i] (List.getElem_mem il)
    unfold rowD litM
    apply List.ext_getElem
    · simp [rl]
    · intro j h3 h4
      simp at h3
      simp [il, h3]
theorem Tab.lit {n : Nat} {M : Nat → Nat → Int} (n1 : 1 ≤ n) (n6 : n ≤ 6) (k : ∀ i, i < n → ∀ j, j < n → (if i = j then M i j = 1 else M i j = 2 ∨ M i j = 3 ∨ M i j = 4 ∨ M i j = 6 ∨ M i j = 0) ∧ M i j = M j i) : Tab n M :=
  ⟨n1, n6, fun i hi => by have := (k i hi i hi).1; rwa [if_pos rfl] at this, fun i j hi hj h => by have := (k i hi j hj).1; rwa [if_neg h] at this, fun i j hi hj => (k i hi j hj).2⟩
end BW

set_option Elab.async false
set_option linter.all false
set_option maxRecDepth 100000
set_option maxHeartbeats 4000000
namespace BW
open PySem Cox
theorem draw4 {N : Int} {h : AH} {limit : Int} (I : MInv 2 0 3 N h) (hN : N ≤ 1000000) (h1 : 1 ≤ limit) (h2 : limit ≤ 10000000000000000000000000000000000000000) :
    ∃ d h', d__law_draw [.ref 2, .int limit] h = .ok (.int d) h' ∧ 0 ≤ d ∧ d < limit ∧ MInv 2 0 3 (N + 1) h' ∧ Frame 4 h h' ∧ h'.length = h.length := draw_is I hN h1 h2 (by omega) (by omega) (by omega)
end BW

set_option Elab.async false
set_option linter.all false
namespace Cox
section
open Sys
variable {S : Sys}
end
end Cox

set_option Elab.async false
set_option linter.all false
set_option maxRecDepth 100000
set_option maxHeartbeats 4000000
namespace BW
open PySem Cox
theorem attr_at {c f : Str} {fe : Ev} {e : Env} {h h1 : AH} {l : Nat} {fs : List (Str × D)} {d : D} (he : fe e h = .ok (.ref l) h1) (hl : h1[l]? = some (.ins c fs)) (hf : fs.lookup f = some d) : evAttr c f fe e h = .ok d h1 := by
  unfold evAttr
  rw [he, bind_ok]
  simp only [hl, hf, if_true]
theorem setattr_at {c f : Str} {fo fv : Ev} {e : Env} {h h1 h2 : AH} {l : Nat} {fs : List (Str × D)} {d : D} (hv : pv fv e h = .ok d h1) (ho : fo e h1 = .ok (.ref l) h2) (hl : h2[l]? = some (.ins c fs)) (hn : fs.length ≤ 100) : svAttr c f fo fv e h = .nx e (h2.set l (.ins c (putA f d fs))) := by
  unfold svAttr
  rw [hv, toFl_ok, ho, toFl_ok]
  simp only [hl]
  simp only [true_and]
  rw [if_pos hn]
section
variable {h : AH} {l b g n : Nat} {M : Nat → Nat → Int} {u : Wd} {ds : List Deed}
end
end BW

set_option Elab.async false
set_option linter.all false
set_option maxRecDepth 100000
set_option maxHeartbeats 4000000
namespace BW
open PySem Cox
section
variable {l b g n : Nat} {M : Nat → Nat → Int}
end
end BW

set_option Elab.async false
set_option linter.all false
set_option maxRecDepth 100000
set_option maxHeartbeats 4000000
namespace BW
open PySem Cox
section
variable {l b g n : Nat} {M : Nat → Nat → Int}
end
end BW

set_option Elab.async false
set_option linter.all false
set_option maxRecDepth 100000
set_option maxHeartbeats 4000000
namespace BW
open PySem Cox
theorem pow_10 (h : AH) (k : Nat) (hk : k ≤ 1000) {ki : Int} (e : ki = k) : opPow h (.int 10) (.int ki) = some (.int (10 ^ k)) := by
  subst e
  show (if (0 : Int) ≤ (k : Int) ∧ (k : Int) ≤ 1000 ∧ (10 : Int).natAbs < 2 ^ 1000 then some (D.int (10 ^ (k : Int).toNat)) else none) = _
  rw [if_pos ⟨by omega, by omega, by decide⟩, Int.toNat_natCast]
end BW

set_option Elab.async false
set_option linter.all false
set_option maxRecDepth 100000
set_option maxHeartbeats 4000000
namespace BW
open PySem
def SeqAt (h : AH) (d : D) (vs : List D) : Prop := d = .tup vs ∨ ∃ k, d = .ref k ∧ h[k]? = some (.lst vs)
end BW

set_option Elab.async false
set_option linter.all false
set_option maxRecDepth 100000
set_option maxHeartbeats 4000000
namespace BW
open PySem Cox
def Val (h : AH) (v : D) : Prop := (∃ t, tyD h v = some t) ∧ promote v h = .ok v h
theorem val_int (h : AH) (i : Int) : Val h (.int i) := ⟨⟨_, rfl⟩, rfl⟩
theorem val_non (h : AH) : Val h .non := ⟨⟨_, rfl⟩, rfl⟩
theorem val_str (h : AH) (s : Str) : Val h (.str s) := ⟨⟨_, rfl⟩, rfl⟩
theorem val_tup (h : AH) (xs : List D) : Val h (.tup xs) := ⟨⟨_, rfl⟩, rfl⟩
theorem val_lst {h : AH} {k : Nat} {xs : List D} (e : h[k]? = some (.lst xs)) : Val h (.ref k) := ⟨⟨"list", by simp [tyD, e]⟩, rfl⟩
theorem val_dk {h : AH} {k : Nat} {xs : List (L2.Key × D)} (e : h[k]? = some (.dk xs)) : Val h (.ref k) := ⟨⟨"dict", by simp [tyD, e]⟩, rfl⟩
section
variable {h : AH} {b n : Nat} {M : Nat → Nat → Int}
end
end BW

set_option Elab.async false
set_option linter.all false
set_option maxRecDepth 100000
set_option maxHeartbeats 4000000
namespace BW
open PySem Cox
section
variable {h : AH} {b n r : Nat} {M : Nat → Nat → Int}
end
end BW

set_option Elab.async false
set_option linter.all false
set_option maxRecDepth 100000
set_option maxHeartbeats 4000000
namespace BW
open PySem Cox
section
variable {h : AH} {b n : Nat} {M : Nat → Nat → Int} {d d' d2 : D} {c : Str} {x : D}
end
theorem Val.pr {h : AH} {v : D} (V : Val h v) (h' : AH) : promote v h' = .ok v h' := by
  cases v with
  | tl xs => have := V.2; rw [promote_tl] at this; cases this
  | _ => rfl
end BW

set_option Elab.async false
set_option linter.all false
set_option maxRecDepth 100000
set_option maxHeartbeats 4000000
namespace BW
open PySem Cox
theorem mul_list {h : AH} {v : D} {k : Int} (k0 : 0 ≤ k) (k1 : k ≤ 1000) : opMul h (.tl [v]) (.int k) = some (.tl (List.replicate k.toNat v)) := by
  have l : lstOf h (.tl [v]) = some [v] := rfl
  simp only [opMul, l]
  rw [if_pos ⟨by omega, by omega, by simp only [List.length_singleton, Nat.one_mul]; exact small_of (by omega)⟩]
  simp
theorem add_list {h : AH} {q : Nat} {xs ys : List D} (g : h[q]? = some (.lst xs)) (hl : xs.length + ys.length ≤ 1000) : opAdd h (.ref q) (.tl ys) = some (.tl (xs ++ ys)) := by
  have l1 := lstOf_ref g
  have l2 : lstOf h (.tl ys) = some ys := rfl
  simp only [opAdd, l1, l2]
  rw [if_pos (small_of hl)]
theorem Shw.mono {B C : Nat} {p : PyData} (h : Shw B p) (hB : B ≤ C) : Shw C p := by
  cases h with
  | non h => exact .non (Nat.le_trans h hB)
  | bl b h => exact .bl b (Nat.le_trans h hB)
  | int h1 h => exact .int h1 (Nat.le_trans h hB)
  | str h1 h => exact .str h1 (Nat.le_trans h hB)
  | tup h1 h => exact .tup h1 (Nat.le_trans h hB)
  | lst h1 h => exact .lst h1 (Nat.le_trans h hB)
end BW

set_option Elab.async false
set_option linter.all false
set_option maxRecDepth 100000
set_option maxHeartbeats 4000000
namespace BW
open PySem Cox
section
variable {h : AH} {b n : Nat} {M : Nat → Nat → Int}
end
end BW

set_option Elab.async false
set_option linter.all false
set_option maxRecDepth 100000
set_option maxHeartbeats 4000000
namespace BW
open PySem Cox
section
variable {h : AH} {b r n : Nat} {M : Nat → Nat → Int}
end
end BW

set_option Elab.async false
set_option linter.all false
set_option maxRecDepth 100000
set_option maxHeartbeats 4000000
namespace BW
open PySem Cox
section
variable {h : AH} {b n : Nat} {M : Nat → Nat → Int}
end
end BW

set_option Elab.async false
set_option linter.all false
set_option maxRecDepth 100000
set_option maxHeartbeats 4000000
namespace BW
open PySem Cox
inductive QZ (h : AH) : D → Prop
  | val {v : D} {p : PyData} : (∀ h, Val h v) → (∀ m, v.lt m = true) → (∀ h', dataK h' 8 v = some p) → Shw 20000 p → QZ h v
  | lst {q : Nat} : 4 ≤ q → h[q]? = some (.lst [.int 3]) → QZ h (.ref q)
  | dct {q : Nat} : 4 ≤ q → h[q]? = some (.dk []) → QZ h (.ref q)
theorem QZ.frame {h h' : AH} {v : D} (O : QZ h v) (F : Frame 4 h h') : QZ h' v := by
  cases O with
  | val a b c d => exact .val a b c d
  | lst q4 g => exact .lst q4 (F.at_ q4 g)
  | dct q4 g => exact .dct q4 (F.at_ q4 g)
theorem QZ.app {h : AH} {v : D} (O : QZ h v) (t : AH) : QZ (h ++ t) v := O.frame (Frame.app 4 h t)
theorem QZ.V {h : AH} {v : D} (O : QZ h v) : Val h v := by
  cases O with
  | val a b c d => exact a h
  | lst q4 g => exact val_lst g
  | dct q4 g => exact val_dk g
theorem QZ.pr {h : AH} {v : D} (O : QZ h v) (h' : AH) : promote v h' = .ok v h' := O.V.pr h'
def ShQ (B : Nat) (p : PyData) : Prop := p.showable = true ∧ PyData.strOk p.shown = true ∧ p.shown.length ≤ B
theorem ShQ.tup {B C : Nat} {xs : List PyData} (ih : ∀ x ∈ xs, ShQ B x) (hC : xs.length * (B + 2) + 3 ≤ C) : ShQ C (.tuple xs) := by
  refine ⟨by simp only [PyData.showable]; exact showableAll_of fun x hx => (ih x hx).1, ?_, ?_⟩
  · simp only [PyData.shown]
    exact strOk_tuple fun t ht => by
      obtain ⟨d, hd, rfl⟩ := mem_shownAll ht
      exact (ih d hd).2.1
  · simp only [PyData.shown]
    refine Nat.le_trans (tupleText_len (B := B) fun t ht => ?_) (by rw [shownAll_length]; exact hC)
    obtain ⟨d, hd, rfl⟩ := mem_shownAll ht
    exact (ih d hd).2.2
theorem ShQ.dict0 : ShQ 20000 (.dict []) := by
  have y4 : ((PyData.dict []).showable && PyData.strOk (PyData.dict []).shown && decide ((PyData.dict []).shown.length ≤ 20000)) = true := by decide +kernel
  simp only [Bool.and_eq_true, decide_eq_true_eq] at y4
  exact ⟨y4.1.1, y4.1.2, y4.2⟩
theorem reprT_of {h : AH} {d x : D} (e : bRepr h [d] = some x) : bReprT h [d] = some x := by
  unfold bReprT bReprQ
  rw [e]
theorem tellV {h : AH} {v : D} (O : QZ h v) {c : Str} (hc : Shw 20000 (.str c)) (oc : PyData.strOk c = true) : ∃ s, PyData.strOk s = true ∧ bReprT h [.tup [.str c, v]] = some (.str s) := by
  have plainC : ∀ p, dataK h 8 v = some p → Shw 20000 p → ∃ s, PyData.strOk s = true ∧ bReprT h [.tup [.str c, v]] = some (.str s) := fun p d1 s1 => by
    have one : dataK h 9 (.tup [.str c, v]) = some (.tuple [.str c, p]) := by
      rw [dataK_tp, allK_two (p := .str c) (by simp [dataK, oc]) d1]; rfl
    have sh : Shw 50000 (.tuple [.str c, p]) := .tup (B := 20000) (fun x hx => by
        simp only [List.mem_cons, List.not_mem_nil, or_false] at hx
        rcases hx with rfl | rfl <;> assumption) (by simp)
    exact ⟨_, sh.ok.2.1, reprT_of (repr_of one sh (by decide))⟩
  cases O with
  | val a b d e => exact plainC _ (d h) e
  | @lst q q4 g => exact plainC (.list [.int 3]) (dataK_ref 7 g (by simp [allK, dataK_int])) (.lst (B := 2000) (fun x hx => by rw [List.mem_singleton.mp hx]; exact shw_int (by decide) (by decide)) (by decide))
  | @dct q q4 g =>
    have noK : bRepr h [.tup [.str c, .ref q]] = none := by
      have : dataK h 9 (.tup [.str c, .ref q]) = none := by
        show (allK (dataK h 8) _).map PyData.tuple = _
        have z : dataK h 8 (.ref q) = none := by simp [dataK, g]
        simp [allK, z]
      simp only [bRepr, this]; rfl
    have noQ : bReprQ h [.tup [.str c, .ref q]] = none := by
      unfold bReprQ
      rw [noK]
      rfl
    have allQ : allK (dataQ h 8) [.str c, .ref q] = some [.str c, .dict []] := allK_two (by simp [dataQ, oc]) (by simp [dataQ, g])
    have ok : ShQ 50000 (.tuple [.str c, .dict []]) := .tup (B := 20000) (fun x hx => by
      simp only [List.mem_cons, List.not_mem_nil, or_false] at hx
      rcases hx with rfl | rfl
      · exact hc.ok
      · exact ShQ.dict0) (by simp)
    have dp : (PyData.tuple [.str c, .dict []]).depth ≤ 40 := by
      have : (PyData.tuple [.str c, .dict []]).depth = (PyData.tuple [.str "", .dict []]).depth := by simp [PyData.depth, PyData.depthAll]
      rw [this]; decide +kernel
    obtain ⟨z1, z4, z2⟩ := ok
    have z2' : (PyData.tuple [.str c, .dict []]).shown.length ≤ sizeLine := by rw [sizeLine_eq]; omega
    refine ⟨_, z4, ?_⟩
    unfold bReprT
    rw [noQ]
    simp only [allQ, Option.bind_some]
    rw [if_pos (by simp only [z1, z2', dp, decide_true, Bool.and_self])]
theorem quirk_is {h : AH} {N : Int} (I : MInv 2 0 3 N h) (hN : N ≤ 800000) (l4 : 4 ≤ h.length) {e : Env} (he : e[1]? = some (some (.ref 2))) :
    ∃ v h', pv (evOp opIx (evLst [(evC .non), (evC (.int 0)), (evC (.int 7)), (evTup [(evC (.int 1)), (evC (.int 2))]), (evC (.str "x")), (evLst [(evC (.int 3))]), evD0, (evOp opPow (evC (.int 10)) (evC (.int 40)))]) (evCall d__law_draw [(evVar 1), (evC (.int 8))])) e h = .ok v h' ∧ QZ h' v ∧ MInv 2 0 3 (N + 1) h' ∧ Frame 4 h h' := by
  have pow : ∀ h', opPow h' (.int 10) (.int 40) = some (.int 10000000000000000000000000000000000000000) := fun h' => by rw [pow_10 h' 40 (by decide) (ki := 40) rfl]; rfl
  have d0 : ∀ e h, evD0 e h = .ok (.ref h.length) (h ++ [.dk []]) := fun e h => rfl
  have s1 : evLst [(evC .non), (evC (.int 0)), (evC (.int 7)), (evTup [(evC (.int 1)), (evC (.int 2))]), (evC (.str "x")), (evLst [(evC (.int 3))]), evD0, (evOp opPow (evC (.int 10)) (evC (.int 40)))] e h = .ok (.tl [.non, .int 0, .int 7, .tup [.int 1, .int 2], .str "x", .ref h.length, .ref (h.length + 1), .int 10000000000000000000000000000000000000000]) (h ++ [.lst [.int 3], .dk []]) := by
    simp [d0, pow, ofO_some2]
  have I2 := I.app [.lst [.int 3], .dk []]
  have F2 : Frame 4 h (h ++ [.lst [.int 3], .dk []]) := Frame.app _ _ _
  have g1 : (h ++ [AO.lst [.int 3], .dk []])[h.length]? = some (.lst [.int 3]) := get2a h _ _
  have g2 : (h ++ [AO.lst [.int 3], .dk []])[h.length + 1]? = some (.dk []) := get2b h _ _
  obtain ⟨k, h3, r3, k0, k1, I3, F3, l3⟩ := draw4 (limit := 8) I2 (by omega) (by omega) (by omega)
  have g1 := F3.at_ l4 g1
  have g2 := F3.at_ (by omega) g2
  have main : ∀ v, L2.atI [.non, .int 0, .int 7, .tup [.int 1, .int 2], .str "x", .ref h.length, .ref (h.length + 1), .int 10000000000000000000000000000000000000000] k = some v → QZ h3 v →
      ∃ v h', pv (evOp opIx (evLst [(evC .non), (evC (.int 0)), (evC (.int 7)), (evTup [(evC (.int 1)), (evC (.int 2))]), (evC (.str "x")), (evLst [(evC (.int 3))]), evD0, (evOp opPow (evC (.int 10)) (evC (.int 40)))]) (evCall d__law_draw [(evVar 1), (evC (.int 8))])) e h = .ok v h' ∧ QZ h' v ∧ MInv 2 0 3 (N + 1) h' ∧ Frame 4 h h' := by
    intro v hv O
    refine ⟨v, h3, ?_, O, I3, F2.trans F3⟩
    have ix : opIx h3 (.tl [.non, .int 0, .int 7, .tup [.int 1, .int 2], .str "x", .ref h.length, .ref (h.length + 1), .int 10000000000000000000000000000000000000000]) (.int k) = some v := by rw [opIx_tl]; exact hv
    rw [pv_eq, evOp_eq, s1, bind_ok]
    simp only [evCall_eq, evsV_cons, evsV_nil, pv_eq, evVar_eq, he, ofV_some, bind_ok, promote_ref, evC_eq, promote_int, r3, ix, ofO_some2]
    exact O.pr h3
  obtain rfl | rfl | rfl | rfl | rfl | rfl | rfl | rfl : k = 0 ∨ k = 1 ∨ k = 2 ∨ k = 3 ∨ k = 4 ∨ k = 5 ∨ k = 6 ∨ k = 7 := by omega
  · exact main .non rfl (.val (p := .none) val_non (fun _ => rfl) (fun _ => rfl) (.non (by decide)))
  · exact main (.int 0) rfl (.val (p := .int 0) (fun h => val_int h _) (fun _ => rfl) (fun _ => rfl) ((shw_int (by decide) (by decide)).mono (by decide)))
  · exact main (.int 7) rfl (.val (p := .int 7) (fun h => val_int h _) (fun _ => rfl) (fun _ => rfl) ((shw_int (by decide) (by decide)).mono (by decide)))
  · exact main (.tup [.int 1, .int 2]) rfl (.val (p := .tuple [.int 1, .int 2]) (fun h => val_tup h _) (fun _ => rfl) (fun _ => rfl) (.tup (B := 2000) (fun x hx => by
      simp only [List.mem_cons, List.not_mem_nil, or_false] at hx
      rcases hx with rfl | rfl <;> exact shw_int (by decide) (by decide)) (by decide)))
  · exact main (.str "x") rfl (.val (p := .str "x") (fun h => val_str h _) (fun _ => rfl) (fun _ => by simp [dataK, strOk_of]) (.str (by decide +kernel) (by decide +kernel)))
  · exact main (.ref h.length) rfl (.lst l4 g1)
  · exact main (.ref (h.length + 1)) rfl (.dct (by omega) g2)
  · exact main (.int 10000000000000000000000000000000000000000) rfl (.val (p := .int 10000000000000000000000000000000000000000) (fun h => val_int h _) (fun _ => rfl) (fun _ => rfl) (.int (by decide +kernel) (by decide)))
theorem evMk1_eq {c : Str} {f : Ev} {e : Env} {h h' : AH} {v : D} (hf : pv f e h = .ok v h') : evMk1 c f e h = .ok (.exc c [v]) h' := by
  unfold evMk1; rw [hf, bind_ok]
theorem evMk0_eq (c : Str) (e : Env) (h : AH) : evMk0 c e h = .ok (.exc c []) h := rfl
theorem evFld_mk {c fn : Str} {f : Ev} {e : Env} {h h' : AH} {v : D} (hf : pv f e h = .ok v h') (hm : c ∈ xNames) (hfn : fieldOf c = some fn) : evFld fn (evMk1 c f) e h = .ok v h' := by
  unfold evFld
  rw [evMk1_eq hf, bind_ok]
  dsimp only
  rw [if_pos ⟨hm, hfn⟩]
theorem evIsX_mk {t : Str → Bool} {f : Ev} {e : Env} {h h' : AH} {c : Str} {xs : List D} (hf : f e h = .ok (.exc c xs) h') (hm : c ∈ xNames) : evIsX t f e h = .ok (.bl (t c)) h' := by
  unfold evIsX
  rw [hf, bind_ok]
  dsimp only
  rw [if_pos hm]
end BW

set_option Elab.async false
set_option linter.all false
set_option maxRecDepth 100000
set_option maxHeartbeats 4000000
namespace BW
open PySem Cox
end BW

set_option Elab.async false
set_option linter.all false
set_option maxRecDepth 100000
set_option maxHeartbeats 4000000
namespace BW
open PySem Cox
section
variable {h : AH} {b r n : Nat} {M : Nat → Nat → Int}
end
end BW

set_option Elab.async false
set_option linter.all false
namespace Cox
section
open Sys
variable {S : Sys}
def In (J : Nat → Prop) (u : Wd) : Prop := ∀ a ∈ u, J a
def endsN (c : Wd) (r : Rw) : Wd := c.filter fun a => decide (r a < 0)
def prt (S : Sys) (c : Wd) : Nat → Rw → Wd × Rw
  | 0, r => ([], r)
  | k + 1, r => match endsN c r with
    | [] => ([], r)
    | a :: _ => (a :: (prt S c k (S.press a r)).1, (prt S c k (S.press a r)).2)
def rest (S : Sys) (n : Nat) (c u : Wd) : Wd := least S n (prt S c 60 (row S u)).1.reverse
end
end Cox
namespace Cox
section
open Sys
variable {S : Sys}
end
end Cox

set_option Elab.async false
set_option linter.all false
set_option maxRecDepth 100000
set_option maxHeartbeats 4000000
namespace BW
open PySem Cox
section
variable {h : AH} {b r n : Nat} {M : Nat → Nat → Int}
end
end BW

set_option Elab.async false
set_option linter.all false
set_option maxRecDepth 100000
set_option maxHeartbeats 4000000
namespace BW
open PySem Cox
section
variable {h : AH} {b r n : Nat} {M : Nat → Nat → Int}
end
end BW

set_option Elab.async false
set_option linter.all false
set_option maxRecDepth 100000
set_option maxHeartbeats 4000000
namespace BW
open PySem Cox
section
variable {h : AH} {b r n : Nat} {M : Nat → Nat → Int}
end
end BW

set_option Elab.async false
set_option linter.all false
namespace Cox
section
open Sys
variable {S : Sys}
end
end Cox

set_option Elab.async false
set_option linter.all false
set_option maxRecDepth 100000
set_option maxHeartbeats 4000000
namespace BW
open PySem Cox
section
variable {S : Sys}
end
section
variable {h : AH} {b r n : Nat} {M : Nat → Nat → Int}
end
end BW

set_option Elab.async false
set_option linter.all false
set_option maxRecDepth 100000
set_option maxHeartbeats 4000000
namespace BW
open PySem Cox
section
variable {S : Sys} {n : Nat}
end
section
variable {h : AH} {b r n : Nat} {M : Nat → Nat → Int}
end
end BW

set_option Elab.async false
set_option linter.all false
set_option maxRecDepth 100000
set_option maxHeartbeats 4000000
namespace BW
open PySem Cox
section
variable {S : Sys} {n : Nat}
end
section
variable {h : AH} {b n : Nat} {M : Nat → Nat → Int}
end
end BW

set_option Elab.async false
set_option linter.all false
set_option maxRecDepth 100000
set_option maxHeartbeats 4000000
namespace Cox
section
variable (near : Nat → Nat → Bool)
variable {near}
end
section
variable {near : Nat → Nat → Bool} {n : Nat}
end
section
variable {S : Sys}
end
end Cox

set_option Elab.async false
set_option linter.all false
set_option maxRecDepth 100000
set_option maxHeartbeats 4000000
namespace BW
open PySem Cox
section
variable {h : AH} {b r n : Nat} {M : Nat → Nat → Int}
end
end BW

set_option Elab.async false
set_option linter.all false
set_option maxRecDepth 100000
set_option maxHeartbeats 4000000
namespace BW
open PySem Cox
section
variable {L : Lv} {h t : AH} {c w : Str} {x : D}
end
section
variable {fb : Ev} {e : Env} {h t : AH} {x : D} (ix : List Nat)
end
end BW

set_option Elab.async false
set_option linter.all false
set_option maxRecDepth 100000
set_option maxHeartbeats 4000000
namespace BW
open PySem Cox
mutual
theorem ltD_mono {n m : Nat} (h : n ≤ m) : ∀ d : D, d.lt n = true → d.lt m = true
  | .tup xs, q => by simp only [D.lt] at q ⊢; exact ltsD_mono h xs q
  | .rl xs, q => by simp only [D.lt] at q ⊢; exact ltsD_mono h xs q
  | .exc _ xs, q => by simp only [D.lt] at q ⊢; exact ltsD_mono h xs q
  | .tl xs, q => by simp [D.lt] at q
  | .ref k, q => by simp only [D.lt, decide_eq_true_eq] at q ⊢; omega
  | .non, _ => rfl
  | .bl _, _ => rfl
  | .int _, _ => rfl
  | .str _, _ => rfl
  | .kt _, _ => rfl
theorem ltsD_mono {n m : Nat} (h : n ≤ m) : ∀ xs : List D, D.lts n xs = true → D.lts m xs = true
  | [], _ => rfl
  | x :: xs, q => by
    simp only [D.lts, Bool.and_eq_true] at q ⊢
    exact ⟨ltD_mono h x q.1, ltsD_mono h xs q.2⟩
end
section
variable {h : AH} {b r n : Nat} {M : Nat → Nat → Int}
section
variable {d v u : D} {c : Str} {x : D}
variable (hp : promote d h = .ok d h) (nw : d_need_word [.ref b, d] h = .ok .non h) (pv : promote v h = .ok v h) (nc : d_need_choice [.ref b, v] h = .exc (.exc "BadChoice" [v]) h) (lv : v.lt h.length = true)
include hp nw pv nc lv
end
end
end BW

set_option Elab.async false
set_option linter.all false
set_option maxRecDepth 100000
set_option maxHeartbeats 4000000
namespace BW
open PySem Cox
section
variable {h : AH} {b r n : Nat} {M : Nat → Nat → Int} {v x : D} {c : Str}
end
end BW

set_option Elab.async false
set_option linter.all false
set_option maxRecDepth 100000
set_option maxHeartbeats 4000000
namespace BW
open PySem Cox
section
variable {h : AH} {b n : Nat} {M : Nat → Nat → Int} {d o x : D} {c : Str}
end
end BW

set_option Elab.async false
set_option linter.all false
set_option maxRecDepth 100000
set_option maxHeartbeats 4000000
namespace BW
open PySem Cox
def wT (w : List Int) : D := .tup (w.map .int)
def prD (p : D × List Int) : D := .tup [p.1, wT p.2]
def bnO (b : Nat) (w : List Int) (hs ls : List (D × List Int)) : AO := .ins "Bench" [("bonds", .ref b), ("first", wT w), ("held", .tup (hs.map prD)), ("later", .tup (ls.map prD))]
section
variable {h : AH} {b n p : Nat} {M : Nat → Nat → Int} {w : List Int} {hs ls : List (D × List Int)}
theorem bench_isI (g : h[p]? = some (bnO b w hs ls)) {m : Str} (hm : ([("bonds", D.ref b), ("first", wT w), ("held", .tup (hs.map prD)), ("later", .tup (ls.map prD))] : List (Str × D)).lookup m = none) : isI h "Bench" m (.ref p) = true := by
  unfold isI
  simp only [g, bnO, hm]
  rfl
theorem benchDeeds_is (g : h[p]? = some (bnO b w hs ls)) (hl : hs.length ≤ 100000) (hp : ∀ q ∈ hs, (∀ h', promote q.1 h' = .ok q.1 h') ∧ ∀ k, q.1.lt k = true) : d_Bench_deeds [.ref p] h = .ok (.tup (hs.map (·.1))) h := by
  have ah : evAttr "Bench" "held" (evVar 0) [some (.ref p), none] h = .ok (.tup (hs.map prD)) h := attr_at rfl g rfl
  unfold d_Bench_deeds
  refine Runs.call ?_
  show Runs _ [some (.ref p), none] h _
  have lc := evLc_onM (iv := ivSeq (evAttr "Bench" "held" (evVar 0))) (own := Tgt.own (.one 1)) (gv := Tgt.gv (.one 1)) (elt := evOp opIx (evVar 1) (evC (.int 0))) (e := [some (.ref p), none]) (h := h) none prD (fun q => q.1) hs (ivSeq_of ah (itsOf_tup _ _)) (by omega) rfl (fun q hq => by
    refine ⟨_, rfl, ?_⟩
    have i0 : opIx h (prD q) (.int 0) = some q.1 := rfl
    rw [pv_eq, evOp_eq, evVar_eq]
    simp only [wipeE, Tgt.own, List.foldl_cons, List.foldl_nil, List.set_cons_succ, List.set_cons_zero, List.getElem?_cons_zero, List.getElem?_cons_succ, ofV_some, bind_ok, evC_eq, i0, ofO_some2]
    exact (hp q hq).1 h)
  refine Runs.last fun Q' hQ => ?_
  rw [svRet_eq, evB_eq, evs_cons, lc]
  have lts : ∀ l : List (D × List Int), (∀ q ∈ l, ∀ k, q.1.lt k = true) → D.lts h.length (l.map (·.1)) = true := fun l => by
    induction l with
    | nil => intro _; rfl
    | cons a l ih =>
      intro hh
      show (D.lt h.length a.1 && D.lts h.length _) = true
      rw [hh a List.mem_cons_self, ih fun q hq => hh q (List.mem_cons_of_mem _ hq)]
      rfl
  simp only [bind_ok, evs_nil, bTuple_tl, ofO_some2, toFl_ok]
  subst hQ
  show (Fl.ret _ _).fin h = _
  rw [fin_ret]
  exact fin_pure0 rfl (lts hs fun q hq => (hp q hq).2)
theorem fin_len {h h' : AH} {d : D} (hp : promote d h' = .ok d h') (l : h'.length = h.length) : BW.fin h d h' = .ok d h' := by
  unfold BW.fin
  rw [hp]
  dsimp only
  rw [← l, List.take_length]
  split <;> rfl
theorem gvAttr_at {c f : Str} {fo : Ev} {e : Env} {h : AH} {d : D} {p : Nat} {fs : List (Str × D)} (ho : fo e h = .ok (.ref p) h) (g : h[p]? = some (.ins c fs)) (hl : fs.length ≤ 100) : gvAttr c f fo d e h = .ok e (h.set p (.ins c (putA f d fs))) := by
  unfold gvAttr
  rw [ho]
  simp only [g]
  rw [if_pos ⟨trivial, hl⟩]
theorem gvs2 (g1 g2 : Gv) (x y : D) (e : Env) (h : AH) : gvs [g1, g2] [x, y] e h = match g1 x e h with
    | .ok e1 h1 => (match g2 y e1 h1 with | .ok e2 h2 => .ok e2 h2 | _ => .stuck)
    | _ => .stuck := by
  unfold gvs
  cases g1 x e h with
  | ok e1 h1 =>
    dsimp only
    unfold gvs
    cases g2 y e1 h1 <;> rfl
  | _ => rfl
end
end BW

set_option Elab.async false
set_option linter.all false
set_option maxRecDepth 100000
set_option maxHeartbeats 4000000
namespace BW
open PySem Cox
section
variable {h : AH} {b r n p : Nat} {M : Nat → Nat → Int} {w : List Int}
def noD : D := .tup [.str "deed", .int 0]
end
end BW

set_option Elab.async false
set_option linter.all false
set_option maxRecDepth 100000
set_option maxHeartbeats 4000000
namespace BW
open PySem Cox
section
variable {h : AH} {b r n p : Nat} {M : Nat → Nat → Int} {w : List Int}
end
end BW

set_option Elab.async false
set_option linter.all false
set_option maxRecDepth 100000
set_option maxHeartbeats 4000000
namespace BW
open PySem Cox
section
variable {b b' n : Nat} {M M' : Nat → Nat → Int}
theorem bonds_isC {h : AH} (B : BondsAt h b n M) : isC h "Bonds" (.ref b) = true := by
  unfold BondsAt at B
  simp [isC, B]
theorem evNeO_at {d : Fd} {f g : Ev} {e : Env} {h h1 h2 h3 : AH} {o y : D} {k : Bool} (hf : f e h = .ok o h1) (hg : g e h1 = .ok y h2) (c : isC h2 "Bonds" o = true) (c2 : isC h2 "Bonds" y = true) (hd : d [o, y] h2 = .ok (.bl k) h3) : evNeO "Bonds" d f g e h = .ok (.bl (!k)) h3 := by
  unfold evNeO
  rw [hf, bind_ok, hg, bind_ok, c, c2]
  show (d [o, y] h2).bind _ = _
  rw [hd, bind_ok]
theorem allK_map {α : Type} {f : D → Option PyData} {g : α → D} {q : α → PyData} : ∀ {l : List α}, (∀ a ∈ l, f (g a) = some (q a)) → allK f (l.map g) = some (l.map q)
  | [], _ => rfl
  | a :: l, hh => by rw [List.map_cons, List.map_cons, allK, hh a List.mem_cons_self, allK_map fun x m => hh x (List.mem_cons_of_mem _ m)]
theorem dataK_tab (h : AH) (n : Nat) (M : Nat → Nat → Int) : ∃ p, dataK h 9 (.tup (tabL n M)) = some p := by
  rw [dataK_tp]
  unfold tabL
  rw [allK_map (q := fun i => PyData.tuple (((List.range n).map (M i)).map .int)) fun i _ => by
    rw [show rowD n (M i) = ((List.range n).map (M i)).map .int by unfold rowD; rw [List.map_map]; rfl, dataK_tp, dataK_ints]
    rfl]
  exact ⟨_, rfl⟩
end
end BW

set_option Elab.async false
set_option linter.all false
set_option maxRecDepth 100000
set_option maxHeartbeats 4000000
namespace BW
open PySem Cox
theorem allK_imp {f g : D → Option PyData} (hg : ∀ d p, f d = some p → g d = some p) : ∀ {xs : List D} {ps : List PyData}, allK f xs = some ps → allK g xs = some ps
  | [], _, e => e
  | x :: xs, ps, e => by
    unfold allK at e ⊢
    cases h1 : f x with
    | none => rw [h1] at e; cases e
    | some a =>
      cases h2 : allK f xs with
      | none => rw [h1, h2] at e; cases e
      | some as =>
        rw [h1, h2] at e
        rw [hg _ _ h1, allK_imp hg h2]
        exact e
theorem dataK_up {h : AH} : ∀ (n : Nat) (d : D) (p : PyData), dataK h n d = some p → dataK h (n + 1) d = some p := by
  intro n
  induction n with
  | zero =>
    intro d p e
    cases d <;> first | exact e | cases e
  | succ n ih =>
    intro d p e
    cases d with
    | tup xs =>
      obtain ⟨ps, e1, e2⟩ := Option.map_eq_some_iff.mp (show (allK (dataK h n) xs).map PyData.tuple = some p from e)
      show (allK (dataK h (n + 1)) xs).map PyData.tuple = some p
      rw [allK_imp ih e1]; exact congrArg some e2
    | tl xs =>
      obtain ⟨ps, e1, e2⟩ := Option.map_eq_some_iff.mp (show (allK (dataK h n) xs).map PyData.list = some p from e)
      show (allK (dataK h (n + 1)) xs).map PyData.list = some p
      rw [allK_imp ih e1]; exact congrArg some e2
    | rl xs =>
      obtain ⟨ps, e1, e2⟩ := Option.map_eq_some_iff.mp (show (allK (dataK h n) xs).map PyData.list = some p from e)
      show (allK (dataK h (n + 1)) xs).map PyData.list = some p
      rw [allK_imp ih e1]; exact congrArg some e2
    | ref k =>
      have e' : (match h[k]? with | some (.lst xs) => (allK (dataK h n) xs).map PyData.list | _ => none) = some p := e
      show (match h[k]? with | some (.lst xs) => (allK (dataK h (n + 1)) xs).map PyData.list | _ => none) = some p
      split at e'
      · rename_i xs hx
        obtain ⟨ps, e1, e2⟩ := Option.map_eq_some_iff.mp e'
        rw [allK_imp ih e1]; exact congrArg some e2
      · cases e'
    | _ => exact e
theorem tellE {h : AH} {v : D} (O : QZ h v) : ∃ s, PyData.strOk s = true ∧ bReprE h [v] = some (.str s) := by
  have plainC : ∀ p, dataK h 8 v = some p → Shw 20000 p → ∃ s, PyData.strOk s = true ∧ bReprE h [v] = some (.str s) := fun p d1 s1 => by
    refine ⟨_, s1.ok.2.1, ?_⟩
    unfold bReprE
    rw [reprT_of (repr_of (dataK_up 8 v p d1) s1 (by decide))]
  cases O with
  | val a b d e => exact plainC _ (d h) e
  | @lst q q4 g => exact plainC (.list [.int 3]) (dataK_ref 7 g (by simp [allK, dataK_int])) (.lst (B := 2000) (fun x hx => by rw [List.mem_singleton.mp hx]; exact shw_int (by decide) (by decide)) (by decide))
  | @dct q q4 g =>
    have y4 : PyData.strOk (PyData.dict []).shown = true := by decide +kernel
    refine ⟨_, y4, ?_⟩
    have noK : bRepr h [.ref q] = none := by
      have : dataK h 9 (.ref q) = none := by
        show (match h[q]? with | some (.lst xs) => (allK (dataK h 8) xs).map PyData.list | _ => none) = _
        rw [g]
      simp only [bRepr, this]; rfl
    have noT : bReprT h [.ref q] = none := by
      unfold bReprT bReprQ
      rw [noK]
      simp [topQ, lstOf, g]
    unfold bReprE
    rw [noT]
    simp only [g]
def c72 : Nat → Str
  | 0 => "BadChoice"
  | 1 => "BadText"
  | 2 => "NothingLeft"
  | 3 => "Endless"
  | 4 => "BadWord"
  | 5 => "BadNumber"
  | _ => "Unlike"
def x72 (v : D) (n : Nat) : D := .exc (c72 n) (if n = 2 ∨ n = 3 ∨ n = 6 then [] else [v])
theorem k72 : ∀ j, j < 7 → c72 j ∈ xNames ∧ decide (c72 j ≠ "TooGreat") = true ∧ decide (c72 j = "TooGreat") = false ∧ ∀ i, i < 7 → decide (c72 j = c72 i) = decide (i = j) := by decide +kernel
theorem evFld_at {c fn : Str} {f : Ev} {e : Env} {h h' : AH} {v : D} (hf : f e h = .ok (.exc c [v]) h') (hm : c ∈ xNames) (hfn : fieldOf c = some fn) : evFld fn f e h = .ok v h' := by
  unfold evFld
  rw [hf, bind_ok]
  dsimp only
  rw [if_pos ⟨hm, hfn⟩]
theorem allK_bls (h : AH) (n : Nat) : ∀ l : List Bool, allK (dataK h n) (l.map .bl) = some (l.map .bool)
  | [] => rfl
  | b :: l => by rw [List.map_cons, allK, allK_bls h n l]; cases n <;> rfl
def kL (j : Nat) : List Bool := (List.range 7).map fun i => decide (i = j)
theorem enumD_gets {xs : List D} {j : Nat} {d : D} (h : (enumD xs)[j]? = some d) : ∃ x, xs[j]? = some x ∧ d = .tup [.int j, x] := by
  unfold enumD at h
  rw [List.getElem?_mapIdx, Option.map_eq_some_iff] at h
  obtain ⟨x, h1, rfl⟩ := h
  exact ⟨x, h1, rfl⟩
theorem each_is {h : AH} {v : D} (O : QZ h v) : d2_law_each_right [v] h = .ok (.bl true) h := by
  obtain ⟨s, sok, sh⟩ := tellE O
  have pV := O.pr
  have pX : ∀ c xs h', promote (.exc c xs) h' = .ok (.exc c xs) h' := fun _ _ _ => rfl
  unfold d2_law_each_right
  refine Runs.call ?_
  (simp only [startE_eq, List.map_cons, List.map_nil, List.length_cons, List.length_nil, List.replicate, List.cons_append, List.nil_append])
  -- the exceptions
  have g3 : pv (evVar 0) [some v, none, none, none, none, none, none] h = .ok v h := by simp [pV]
  refine Runs.asg (d := .ref h.length) (h1 := h ++ [.lst ((List.range 7).map (x72 v))]) (by
    have m1 : ∀ c, evMk1 c (evVar 0) [some v, none, none, none, none, none, none] h = .ok (.exc c [v]) h := fun c => evMk1_eq g3
    have e1 : evLst [(evMk1 "BadChoice" (evVar 0)), (evMk1 "BadText" (evVar 0)), (evMk0 "NothingLeft"), (evMk0 "Endless"), (evMk1 "BadWord" (evVar 0)), (evMk1 "BadNumber" (evVar 0)), (evMk0 "Unlike")] [some v, none, none, none, none, none, none] h = .ok (.tl ((List.range 7).map (x72 v))) h := by
      rw [evLst_eq]
      simp only [evsV_cons, evsV_nil, pv_eq, m1, evMk0_eq, bind_ok, pX]
      rfl
    rw [pv_eq, e1, bind_ok, promote_tl]) ?_
  simp only [List.set_cons_succ, List.set_cons_zero]
  obtain ⟨t1, ht1⟩ : ∃ t1, t1 = [AO.lst ((List.range 7).map (x72 v))] := ⟨_, rfl⟩
  have gx : (h ++ t1)[h.length]? = some (.lst ((List.range 7).map (x72 v))) := by rw [ht1]; exact List.getElem?_concat_length
  rw [← ht1]
  clear ht1
  -- their fields
  have g4 : pv (evVar 0) [some v, some (.ref h.length), none, none, none, none, none] (h ++ t1) = .ok v (h ++ t1) := by simp [pV]
  refine Runs.asg (d := .ref (h ++ t1).length) (h1 := h ++ t1 ++ [.lst (List.replicate 4 v)]) (by
    have i0 : evOp opIx (evVar 1) (evC (.int 0)) [some v, some (.ref h.length), none, none, none, none, none] (h ++ t1) = .ok (.exc "BadChoice" [v]) (h ++ t1) := by
      have : opIx (h ++ t1) (.ref h.length) (.int 0) = some (x72 v 0) := by rw [opIx_ref gx]; rfl
      simp [this]
      rfl
    have i1 : evOp opIx (evVar 1) (evC (.int 1)) [some v, some (.ref h.length), none, none, none, none, none] (h ++ t1) = .ok (.exc "BadText" [v]) (h ++ t1) := by
      have : opIx (h ++ t1) (.ref h.length) (.int 1) = some (x72 v 1) := by rw [opIx_ref gx]; rfl
      simp [this]
      rfl
    have f1 := evFld_at (fn := "value") i0 (by decide +kernel) (by decide +kernel)
    have f2 := evFld_at (fn := "place") i1 (by decide +kernel) (by decide +kernel)
    have f3 := evFld_mk (c := "BadChoice") (fn := "value") g4 (by decide +kernel) (by decide +kernel)
    have f4 := evFld_mk (c := "BadText") (fn := "place") g4 (by decide +kernel) (by decide +kernel)
    rw [pv_eq, evLst_eq]
    simp only [evsV_cons, evsV_nil, pv_eq, f1, f2, f3, f4, bind_ok, pV]
    rfl) ?_
  simp only [List.set_cons_succ, List.set_cons_zero]
  have g2 : (h ++ t1 ++ [AO.lst (List.replicate 4 v)])[(h ++ t1).length]? = some (.lst (List.replicate 4 v)) := List.getElem?_concat_length
  have gx : (h ++ t1 ++ [AO.lst (List.replicate 4 v)])[h.length]? = some (.lst ((List.range 7).map (x72 v))) := by rw [List.getElem?_append_left (List.getElem?_eq_some_iff.mp gx).1]; exact gx
  have O2 : QZ (h ++ t1 ++ [AO.lst (List.replicate 4 v)]) v := (O.app t1).app _
  obtain ⟨s, sok, sh⟩ := tellE O2
  obtain ⟨t2, ht2⟩ : ∃ t2, h ++ t1 ++ [AO.lst (List.replicate 4 v)] = h ++ t2 := ⟨_, List.append_assoc _ _ _⟩
  rw [ht2] at g2 gx O2 sh ⊢
  generalize (h ++ t1).length = q2 at *
  generalize hqx : h.length = qx at gx ⊢
  refine Runs.seq (e' := [some v, some (.ref qx), some (.ref q2), none, none, none, none]) (h' := h ++ t2) (by
    have ne := opNe_str (h ++ t2) sok
    have lc := evLc_filter (iv := ivSeq (evVar 2)) (own := Tgt.own (.one 4)) (gv := Tgt.gv (.one 4)) (tt := tvOf (evOp opNe (evB bReprE [(evVar 4)]) (evB bReprE [(evVar 0)]))) (elt := evVar 4) (e := [some v, some (.ref qx), some (.ref q2), none, none, none, none]) (h := h ++ t2) { xs := List.replicate 4 v, g := some (q2, .lst (List.replicate 4 v)) } (fun _ => false) (fun d => d) (ivSeq_of (d := .ref q2) rfl (itsOf_ref g2)) (by simp) (guardOk_some g2) (fun d hd => by
      rw [List.eq_of_mem_replicate hd]
      refine ⟨_, rfl, ?_, fun z => by cases z⟩
      rw [tvOf_eq, evOp_eq, evB_eq, evs_cons, evVar_eq]
      simp only [wipeE, Tgt.own, List.foldl_cons, List.foldl_nil, List.set_cons_succ, List.set_cons_zero, List.getElem?_cons_zero, List.getElem?_cons_succ, ofV_some, bind_ok, evs_nil]
      rw [sh, ofO_some2, bind_ok, evB_eq, evs_cons, evVar_eq]
      simp only [List.getElem?_cons_zero, List.getElem?_cons_succ, ofV_some, bind_ok, evs_nil]
      rw [sh, ofO_some2, bind_ok, ne, ofO_some2, bind_ok]
      rfl)
    rw [show ((({ xs := List.replicate 4 v, g := some (q2, .lst (List.replicate 4 v)) } : Its).xs.filter fun _ => false).map fun d => d) = ([] : List D) by simp] at lc
    have ne0 : opNe (h ++ t2) (.tl []) (.tl []) = some (.bl false) := ne_same (p := .list []) rfl rfl
    have tt : tvOf (evOp opNe (evLc (ivSeq (evVar 2)) (Tgt.own (.one 4)) (Tgt.gv (.one 4)) (tvOf (evOp opNe (evB bReprE [(evVar 4)]) (evB bReprE [(evVar 0)]))) (evVar 4)) (evLst [])) [some v, some (.ref qx), some (.ref q2), none, none, none, none] (h ++ t2) = .ok false (h ++ t2) := by
      rw [tvOf_eq, evOp_eq, lc, bind_ok]
      simp [ne0]
    rw [svIf_eq, tt, toFl_ok]
    rfl) ?_
  -- each is of its class
  refine Runs.loop (h1 := h ++ t2) (it := { xs := enumD ((List.range 7).map (x72 v)), g := some (qx, .lst ((List.range 7).map (x72 v))) }) (fun j e h' => (∃ t, h' = h ++ t) ∧ h'[qx]? = some (.lst ((List.range 7).map (x72 v))) ∧ ∃ x3 x4 x5, e = [some v, some (.ref qx), some (.ref q2), x3, x4, x5, none]) (by simp [kEnum, itsOf_ref gx]) ⟨⟨_, rfl⟩, gx, _, _, _, rfl⟩ (fun _ _ h' _ p => guardOk_some p.2.1) ?_ ?_
  · rintro j d e h' hd ⟨⟨t, rfl⟩, gx, x3, x4, x5, rfl⟩
    obtain ⟨x, hx, rfl⟩ := enumD_gets hd
    have hj : j < 7 := by have := (List.getElem?_eq_some_iff.mp hx).1; simpa using this
    obtain rfl : x = x72 v j := by
      rw [List.getElem?_map, List.getElem?_range hj] at hx
      exact (Option.some.inj hx).symm
    obtain ⟨nm, nt, et, cc⟩ := k72 j hj
    refine ⟨[some v, some (.ref qx), some (.ref q2), some (.int (j : Int)), some (x72 v j), x5, none], h ++ t, by simp [gvTup, gvs], ?_⟩
    have is : ∀ (T : Str → Bool) (x5 : Option D) (H : AH), evIsX T (evVar 4) [some v, some (.ref qx), some (.ref q2), some (.int (j : Int)), some (x72 v j), x5, none] H = .ok (.bl (T (c72 j))) H := fun T x5 H => evIsX_mk (c := c72 j) (xs := if j = 2 ∨ j = 3 ∨ j = 6 then [] else [v]) (by rw [evVar_eq]; rfl) nm
    have pB : ∀ b h', promote (.bl b) h' = .ok (.bl b) h' := fun _ _ => rfl
    obtain ⟨fb, hjb⟩ : ∃ fb : Nat → D, fb = fun i : Nat => D.bl (decide (i = j)) := ⟨_, rfl⟩
    have bI : ∀ (i : Nat) (hi : i < 7) (nI : Str), nI = c72 i → ∀ (x5 : Option D) (H : AH), evIsX (fun c => decide (c = nI)) (evVar 4) [some v, some (.ref qx), some (.ref q2), some (.int (j : Int)), some (x72 v j), x5, none] H = .ok (fb i) H := by
      rintro i hi _ rfl x5 H
      rw [is, hjb]
      exact congrArg (fun b => Out.ok (D.bl b) H) (cc i hi)
    have b0 := bI 0 (by decide) "BadChoice" rfl
    have b1 := bI 1 (by decide) "BadText" rfl
    have b2 := bI 2 (by decide) "NothingLeft" rfl
    have b3 := bI 3 (by decide) "Endless" rfl
    have b4 := bI 4 (by decide) "BadWord" rfl
    have b5 := bI 5 (by decide) "BadNumber" rfl
    have b6 := bI 6 (by decide) "Unlike" rfl
    have pF : ∀ i h', promote (fb i) h' = .ok (fb i) h' := fun _ _ => by rw [hjb]; rfl
    refine Runs.asg (d := .ref (h ++ t).length) (h1 := h ++ t ++ [.lst [fb 0, fb 1, fb 2]]) (by
      rw [pv_eq, evLst_eq]
      simp only [evsV_cons, evsV_nil, pv_eq, b0, b1, b2, bind_ok, pF]
      rfl) ?_
    simp only [List.set_cons_succ, List.set_cons_zero]
    have ga : (h ++ t ++ [AO.lst [fb 0, fb 1, fb 2]])[(h ++ t).length]? = some (.lst [fb 0, fb 1, fb 2]) := List.getElem?_concat_length
    have gx : (h ++ t ++ [AO.lst [fb 0, fb 1, fb 2]])[qx]? = some (.lst ((List.range 7).map (x72 v))) := by rw [List.getElem?_append_left (List.getElem?_eq_some_iff.mp gx).1]; exact gx
    obtain ⟨ta, hta⟩ : ∃ ta, h ++ t ++ [AO.lst [fb 0, fb 1, fb 2]] = h ++ ta := ⟨_, List.append_assoc _ _ _⟩
    rw [hta] at ga gx ⊢
    generalize (h ++ t).length = qa at *
    refine Runs.asg (d := .ref (h ++ ta).length) (h1 := h ++ ta ++ [.lst [fb 0, fb 1, fb 2, fb 3, fb 4, fb 5]]) (by
      have e1 : evLst [(evIsX (fun c => decide (c = "Endless")) (evVar 4)), (evIsX (fun c => decide (c = "BadWord")) (evVar 4)), (evIsX (fun c => decide (c = "BadNumber")) (evVar 4))] [some v, some (.ref qx), some (.ref q2), some (.int (j : Int)), some (x72 v j), some (.ref qa), none] (h ++ ta) = .ok (.tl [fb 3, fb 4, fb 5]) (h ++ ta) := by
        rw [evLst_eq]
        simp only [evsV_cons, evsV_nil, pv_eq, b3, b4, b5, bind_ok, pF]
        rfl
      have ad := add_list (ys := [fb 3, fb 4, fb 5]) ga (by simp)
      rw [pv_eq, evOp_eq, evVar_eq]
      simp only [List.getElem?_cons_zero, List.getElem?_cons_succ, ofV_some, bind_ok]
      rw [e1, bind_ok, ad, ofO_some2, bind_ok, promote_tl]
      rfl) ?_
    simp only [List.set_cons_succ, List.set_cons_zero]
    have s1 : ∀ xs : List D, (h ++ ta ++ [AO.lst xs])[(h ++ ta).length]? = some (.lst xs) := fun xs => List.getElem?_concat_length
    have s2 : ∀ xs ys : List D, (h ++ ta ++ [AO.lst xs]).set (h ++ ta).length (.lst ys) = h ++ ta ++ [.lst ys] := fun xs ys => by
      rw [List.set_append_right _ _ (Nat.le_refl _), Nat.sub_self]; rfl
    have gx : ∀ o, (h ++ ta ++ [AO.lst o])[qx]? = some (.lst ((List.range 7).map (x72 v))) := fun o => by rw [List.getElem?_append_left (List.getElem?_eq_some_iff.mp gx).1]; exact gx
    generalize (h ++ ta).length = qb at *
    have ap := append_eq (f := evVar 5) (g := evIsX (fun c => decide (c = "Unlike")) (evVar 4)) (e := [some v, some (.ref qx), some (.ref q2), some (.int (j : Int)), some (x72 v j), some (.ref qb), none]) (h := h ++ ta ++ [AO.lst [fb 0, fb 1, fb 2, fb 3, fb 4, fb 5]]) (h1 := h ++ ta ++ [AO.lst [fb 0, fb 1, fb 2, fb 3, fb 4, fb 5]]) (h2 := h ++ ta ++ [AO.lst [fb 0, fb 1, fb 2, fb 3, fb 4, fb 5]]) (n := qb) (d := fb 6) (by simp) (s1 _) (by rw [pv_eq, b6, bind_ok, pF]) (s1 _) (by simp)
    rw [s2] at ap
    refine Runs.seq (by rw [svExpr_eq, ap, toFl_ok]) ?_
    have gk := s1 ([fb 0, fb 1, fb 2, fb 3, fb 4, fb 5] ++ [fb 6])
    have gx := gx ([fb 0, fb 1, fb 2, fb 3, fb 4, fb 5] ++ [fb 6])
    obtain ⟨tb, htb⟩ : ∃ tb, h ++ ta ++ [AO.lst ([fb 0, fb 1, fb 2, fb 3, fb 4, fb 5] ++ [fb 6])] = h ++ tb := ⟨_, List.append_assoc _ _ _⟩
    rw [htb] at gk gx ⊢
    have ek : [fb 0, fb 1, fb 2, fb 3, fb 4, fb 5] ++ [fb 6] = (kL j).map .bl := by rw [hjb]; rfl
    rw [ek] at gk
    have hH : ∀ x, evIsX x (evVar 4) [some v, some (.ref qx), some (.ref q2), some (.int (j : Int)), some (x72 v j), some (.ref qb), none] (h ++ tb) = .ok (.bl (x (c72 j))) (h ++ tb) := fun x => is x _ _
    -- as due
    have lc := evLc_rangeM (iv := ivBy [(evC (.int 7))] kR1) (own := Tgt.own (.one 6)) (gv := Tgt.gv (.one 6)) (elt := evOp opEq (evVar 6) (evVar 3)) (e := [some v, some (.ref qx), some (.ref q2), some (.int (j : Int)), some (x72 v j), some (.ref qb), none]) (h := h ++ tb) 0 7 (fun i => D.bl (decide (i = j))) (by simp [kR1]; decide) (by decide) (fun i hi => by
      refine ⟨_, rfl, ?_⟩
      have : decide ((i : Int) = (j : Int)) = decide (i = j) := decide_eq_decide.mpr (by omega)
      rw [show ((0 : Int) + (i : Int)) = (i : Int) by omega]
      rw [pv_eq, evOp_eq, evVar_eq]
      simp only [wipeE, Tgt.own, List.foldl_cons, List.foldl_nil, List.set_cons_succ, List.set_cons_zero, List.getElem?_cons_zero, List.getElem?_cons_succ, ofV_some, bind_ok, evVar_eq]
      by_cases c : i = j
      · have c' : (i : Int) = (j : Int) := by omega
        simp [c]
      · have c' : ¬ (i : Int) = (j : Int) := by omega
        simp [c, c'])
    have er : ((List.range 7).map fun i => D.bl (decide (i = j))) = (kL j).map .bl := by unfold kL; rw [List.map_map]; rfl
    rw [er] at lc
    have ne : opNe (h ++ tb) (.ref qb) (.tl ((kL j).map .bl)) = some (.bl false) := ne_same (dataK_ref 8 gk (allK_bls _ 8 _)) (by rw [dataK_tl, allK_bls]; rfl)
    refine Runs.seq (e' := [some v, some (.ref qx), some (.ref q2), some (.int (j : Int)), some (x72 v j), some (.ref qb), none]) (h' := h ++ tb) (by
      have n1 : tvOf (evOp opNe (evVar 5) (evLc (ivBy [(evC (.int 7))] kR1) (Tgt.own (.one 6)) (Tgt.gv (.one 6)) tvYes (evOp opEq (evVar 6) (evVar 3)))) [some v, some (.ref qx), some (.ref q2), some (.int (j : Int)), some (x72 v j), some (.ref qb), none] (h ++ tb) = .ok false (h ++ tb) := by
        rw [tvOf_eq, evOp_eq, evVar_eq]
        simp only [List.getElem?_cons_zero, List.getElem?_cons_succ, ofV_some, bind_ok]
        rw [lc, bind_ok, ne, ofO_some2, bind_ok]
        rfl
      have n2 : tvNot (tvOf (evIsX (fun c => decide (c ≠ "TooGreat")) (evVar 4))) [some v, some (.ref qx), some (.ref q2), some (.int (j : Int)), some (x72 v j), some (.ref qb), none] (h ++ tb) = .ok false (h ++ tb) := by
        rw [tvNot_eq, tvOf_eq, hH, nt]
        rfl
      rw [svIf_eq, tvOr_eq, n1, bind_ok, if_neg Bool.false_ne_true, n2, toFl_ok]
      rfl) ?_
    refine Runs.last fun Q' hQ => ?_
    have ne2 : opNe (h ++ tb) (.tl [.bl true, .bl false]) (.tl [.bl true, .bl false]) = some (.bl false) := ne_same (p := .list [.bool true, .bool false]) rfl rfl
    have n3 : tvOf (evOp opNe (evLst [(evIsX (fun c => decide (c ≠ "TooGreat")) (evVar 4)), (evIsX (fun c => decide (c = "TooGreat")) (evVar 4))]) (evLst [(evC (.bl true)), (evC (.bl false))])) [some v, some (.ref qx), some (.ref q2), some (.int (j : Int)), some (x72 v j), some (.ref qb), none] (h ++ tb) = .ok false (h ++ tb) := by
      have e1 : evLst [(evIsX (fun c => decide (c ≠ "TooGreat")) (evVar 4)), (evIsX (fun c => decide (c = "TooGreat")) (evVar 4))] [some v, some (.ref qx), some (.ref q2), some (.int (j : Int)), some (x72 v j), some (.ref qb), none] (h ++ tb) = .ok (.tl [.bl true, .bl false]) (h ++ tb) := by
        rw [evLst_eq]
        simp only [evsV_cons, evsV_nil, pv_eq, hH, nt, et, bind_ok, pB]
        rfl
      have e2 : evLst [(evC (.bl true)), (evC (.bl false))] [some v, some (.ref qx), some (.ref q2), some (.int (j : Int)), some (x72 v j), some (.ref qb), none] (h ++ tb) = .ok (.tl [.bl true, .bl false]) (h ++ tb) := by
        simp [pB]
      rw [tvOf_eq, evOp_eq, e1, bind_ok, e2, bind_ok, ne2, ofO_some2, bind_ok]
      rfl
    rw [svIf_eq, n3, toFl_ok, if_neg Bool.false_ne_true]
    subst hQ
    exact ⟨_, _, rfl, ⟨_, rfl⟩, gx, _, _, _, rfl⟩
  · rintro e h' ⟨⟨t, rfl⟩, _, x3, x4, x5, rfl⟩
    refine Runs.last fun Q' hQ => ?_
    rw [svRet_eq, evC_eq, toFl_ok]
    subst hQ
    show (Fl.ret _ _).fin h = _
    rw [fin_ret]
    exact fin_pure _ rfl rfl
end BW

set_option Elab.async false
set_option linter.all false
set_option maxRecDepth 100000
set_option maxHeartbeats 4000000
namespace BW
open PySem Cox
section
variable {b n : Nat} {M : Nat → Nat → Int} {w : List Int}
theorem benchMade {H : AH} (B : BondsAt H b n M) (n6 : n ≤ 6) {d : D} (W : WordAt H d w) (hw : Letters n w) (hl : w.length ≤ 60) : d_Bench___init__ [.ref H.length, .ref b, d] (H ++ [.ins "Bench" []]) = .ok .non (H ++ [bnO b w [] []]) := by
  have B1 := B.app [.ins "Bench" []]
  have W1 := W.app [.ins "Bench" []]
  have nw := needWord B1 (by omega) W1 hw hl
  have g0 : ∀ fs : List (Str × D), (H ++ [AO.ins "Bench" fs])[H.length]? = some (.ins "Bench" fs) := fun fs => by simp
  have s0 : ∀ (fs fs' : List (Str × D)), (H ++ [AO.ins "Bench" fs]).set H.length (.ins "Bench" fs') = H ++ [.ins "Bench" fs'] := fun fs fs' => by
    rw [List.set_append_right _ _ (Nat.le_refl _), Nat.sub_self]; rfl
  unfold d_Bench___init__
  refine Runs.call ?_
  show Runs _ [some (.ref H.length), some (.ref b), some d] _ _
  refine Runs.seq (e' := [some (.ref H.length), some (.ref b), some d]) (h' := H ++ [.ins "Bench" []]) (by
    rw [svExpr_eq, evCall_eq]
    simp [W1.prom, nw]) ?_
  refine Runs.seq (e' := [some (.ref H.length), some (.ref b), some d]) (h' := H ++ [.ins "Bench" [("bonds", .ref b)]]) (by
    rw [setattr_at (c := "Bench") (f := "bonds") (fo := evVar 0) (fv := evVar 1) (d := .ref b) (l := H.length) (h1 := H ++ [.ins "Bench" []]) (h2 := H ++ [.ins "Bench" []]) rfl rfl (g0 []) (by simp), s0]; rfl) ?_
  have W2 := W.app [.ins "Bench" [("bonds", .ref b)]]
  refine Runs.seq (e' := [some (.ref H.length), some (.ref b), some d]) (h' := H ++ [.ins "Bench" [("bonds", .ref b), ("first", wT w)]]) (by
    rw [setattr_at (c := "Bench") (f := "first") (fo := evVar 0) (fv := evB bTuple [(evVar 2)]) (d := wT w) (l := H.length) (h1 := H ++ [.ins "Bench" [("bonds", .ref b)]]) (h2 := H ++ [.ins "Bench" [("bonds", .ref b)]]) (by
      rw [pv_eq, evB_eq]
      simp [W2.tup, wT]) rfl (g0 _) (by simp), s0]; rfl) ?_
  refine Runs.last fun Q' hQ => ?_
  have e1 : pv (evTup [(evTup []), (evTup [])]) [some (.ref H.length), some (.ref b), some d] (H ++ [.ins "Bench" [("bonds", .ref b), ("first", wT w)]]) = .ok (.tup [.tup [], .tup []]) (H ++ [.ins "Bench" [("bonds", .ref b), ("first", wT w)]]) := by simp
  have a1 : gvAttr "Bench" "held" (evVar 0) (.tup []) [some (.ref H.length), some (.ref b), some d] (H ++ [.ins "Bench" [("bonds", .ref b), ("first", wT w)]]) = .ok [some (.ref H.length), some (.ref b), some d] (H ++ [.ins "Bench" [("bonds", .ref b), ("first", wT w), ("held", .tup [])]]) := by
    rw [gvAttr_at (p := H.length) rfl (g0 _) (by simp), s0]; rfl
  have a2 : gvAttr "Bench" "later" (evVar 0) (.tup []) [some (.ref H.length), some (.ref b), some d] (H ++ [.ins "Bench" [("bonds", .ref b), ("first", wT w), ("held", .tup [])]]) = .ok [some (.ref H.length), some (.ref b), some d] (H ++ [bnO b w [] []]) := by
    rw [gvAttr_at (p := H.length) rfl (g0 _) (by simp), s0]; rfl
  have fin_ : svAsg (evTup [(evTup []), (evTup [])]) (gvTup [(gvAttr "Bench" "held" (evVar 0)), (gvAttr "Bench" "later" (evVar 0))]) [some (.ref H.length), some (.ref b), some d] (H ++ [.ins "Bench" [("bonds", .ref b), ("first", wT w)]]) = .nx [some (.ref H.length), some (.ref b), some d] (H ++ [bnO b w [] []]) := by
    rw [svAsg_eq, e1, toFl_ok]
    show (gvs _ [.tup [], .tup []] _ _).nxE = _
    rw [gvs2, a1]
    dsimp only
    rw [a2]
    rfl
  rw [fin_]
  subst hQ
  show (Fl.nx _ _).fin _ = _
  rw [fin_nx]
  exact fin_len rfl (by simp)
theorem evMake_ok {c : Str} {d : Fd} {fs : List Ev} {e : Env} {h h1 h2 : AH} {ds : List D} (ev : evsV fs e h = .ok ds h1) (hd : d (.ref h1.length :: ds) (h1 ++ [.ins c []]) = .ok .non h2) : evMake c d fs e h = .ok (.ref h1.length) h2 := by
  unfold evMake
  rw [ev, bind_ok, hd, bind_ok]
end
section
variable {h : AH} {b b' p p' n : Nat} {M : Nat → Nat → Int} {w : List Int}
theorem bench_ins {hs ls : List (D × List Int)} (g : h[p]? = some (bnO b w hs ls)) : isIns h "Bench" (.ref p) = true := by
  unfold bnO at g
  simp [isIns, g]
theorem bench_noC {hs ls : List (D × List Int)} (g : h[p]? = some (bnO b w hs ls)) : isC h "Bonds" (.ref p) = false := by
  unfold bnO at g
  simp [isC, g]
theorem bonds_noI (B : BondsAt h b n M) : isIns h "Bench" (.ref b) = false := by
  unfold BondsAt at B
  simp [isIns, B]
theorem eqS_yes (B : BondsAt h b n M) (B' : BondsAt h b' n M) : d_Bonds___eq__X [.ref b, .ref b'] h = .ok (.bl true) h := by
  have c := bonds_isC B'
  have s1 := fun (e : Env) (he : evVar 0 e h = .ok (.ref b) h) => slot_eq B he
  have s2 := fun (e : Env) (he : evVar 1 e h = .ok (.ref b') h) => slot_eq B' he
  have i1 : evIsiS "Bonds" "Bench" (evVar 1) [some (.ref b), some (.ref b')] h = .ok (.bl true) h := by
    unfold evIsiS
    simp [c]
  obtain ⟨p, hp⟩ := dataK_tab h n M
  have oe := eq_same (h := h) hp hp
  unfold d_Bonds___eq__X
  refine Runs.call ?_
  (simp only [startE_eq, List.map_cons, List.map_nil, List.length_cons, List.length_nil, List.replicate, List.cons_append, List.nil_append])
  (refine Runs.last fun Q' hQ => ?_; simp [i1, s1, s2, oe]; subst hQ; try dsimp only)
  simp
theorem eqS_no {y : D} (B : BondsAt h b n M) (c : isC h "Bonds" y = false) (i : isIns h "Bench" y = true) : d_Bonds___eq__X [.ref b, y] h = .ok (.bl false) h := by
  have i1 : evIsiS "Bonds" "Bench" (evVar 1) [some (.ref b), some y] h = .ok (.bl false) h := by
    unfold evIsiS
    simp [c, i]
  unfold d_Bonds___eq__X
  refine Runs.call ?_
  (simp only [startE_eq, List.map_cons, List.map_nil, List.length_cons, List.length_nil, List.replicate, List.cons_append, List.nil_append])
  (refine Runs.last fun Q' hQ => ?_; simp [i1]; subst hQ; try dsimp only)
  simp
theorem eqO_no {y : D} {o : D} (i : isIns h "Bench" y = false) (c : isC h "Bonds" y = true ∨ ∃ t, tyD h y = some t) : d_Bench___eq__X [o, y] h = .ok (.bl false) h := by
  have i1 : evIsiO "Bonds" "Bench" (evVar 1) [some o, some y] h = .ok (.bl false) h := by
    unfold evIsiO
    rcases c with c | ⟨t, c⟩
    · simp [c, i]
    · by_cases z : isC h "Bonds" y = true
      · simp [i, z]
      · simp [i, z, c]
  unfold d_Bench___eq__X
  refine Runs.call ?_
  (simp only [startE_eq, List.map_cons, List.map_nil, List.length_cons, List.length_nil, List.replicate, List.cons_append, List.nil_append])
  (refine Runs.step fun K Q' hK hQ => ?_; simp [i1]; subst hK hQ)
  simp
theorem eqO_yes (B : BondsAt h b n M) (g : h[p]? = some (bnO b w [] [])) (g' : h[p']? = some (bnO b w [] [])) : d_Bench___eq__X [.ref p, .ref p'] h = .ok (.bl true) h := by
  have i1 : evIsiO "Bonds" "Bench" (evVar 1) [some (.ref p), some (.ref p')] h = .ok (.bl true) h := by
    unfold evIsiO
    simp [bench_ins g']
  have a0 : evAttr "Bench" "bonds" (evVar 0) [some (.ref p), some (.ref p')] h = .ok (.ref b) h := attr_at rfl g rfl
  have a1 : evAttr "Bench" "bonds" (evVar 1) [some (.ref p), some (.ref p')] h = .ok (.ref b) h := attr_at rfl g' rfl
  have f0 : evAttr "Bench" "first" (evVar 0) [some (.ref p), some (.ref p')] h = .ok (wT w) h := attr_at rfl g rfl
  have f1 : evAttr "Bench" "first" (evVar 1) [some (.ref p), some (.ref p')] h = .ok (wT w) h := attr_at rfl g' rfl
  have ne := evNeO_at (d := d_Bonds___eq__X) a0 a1 (bonds_isC B) (bonds_isC B) (eqS_yes B B)
  have m0 : evMethI "Bench" "deeds" d_Bench_deeds (evVar 0) [] [some (.ref p), some (.ref p')] h = .ok (.tup []) h := by
    unfold evMethI
    rw [evVar_eq]
    simp only [List.getElem?_cons_zero, List.getElem?_cons_succ, ofV_some, bind_ok]
    rw [if_pos (bench_isI g rfl), evsV_nil, bind_ok, benchDeeds_is g (by simp) (by simp)]
    rfl
  have m1 : evMethI "Bench" "deeds" d_Bench_deeds (evVar 1) [] [some (.ref p), some (.ref p')] h = .ok (.tup []) h := by
    unfold evMethI
    rw [evVar_eq]
    simp only [List.getElem?_cons_zero, List.getElem?_cons_succ, ofV_some, bind_ok]
    rw [if_pos (bench_isI g' rfl), evsV_nil, bind_ok, benchDeeds_is g' (by simp) (by simp)]
    rfl
  have q1 : opEq h (wT w) (wT w) = some (.bl true) := eq_same (p := .tuple (w.map .int)) (dataK_word h 8 w) (dataK_word h 8 w)
  have q2 : opEq h (.tup []) (.tup []) = some (.bl true) := eq_same (p := .tuple []) rfl rfl
  unfold d_Bench___eq__X
  refine Runs.call ?_
  show Runs _ [some (.ref p), some (.ref p')] h _
  refine Runs.seq (e' := [some (.ref p), some (.ref p')]) (h' := h) (by
    have t1 : tvNot (tvOf (evIsiO "Bonds" "Bench" (evVar 1))) [some (.ref p), some (.ref p')] h = .ok false h := by
      rw [tvNot_eq, tvOf_eq, i1]; rfl
    have t2 : tvOf (evNeO "Bonds" d_Bonds___eq__X (evAttr "Bench" "bonds" (evVar 0)) (evAttr "Bench" "bonds" (evVar 1))) [some (.ref p), some (.ref p')] h = .ok false h := by
      rw [tvOf_eq, ne]; rfl
    rw [svIf_eq, tvOr_eq, t1, bind_ok, if_neg Bool.false_ne_true, t2, toFl_ok]
    rfl) ?_
  refine Runs.last fun Q' hQ => ?_
  rw [svRet_eq, evAnd_eq, evOp_eq, f0, bind_ok, f1, bind_ok, q1, ofO_some2, bind_ok]
  simp only [tv_bl, bind_ok, if_true, evOp_eq, m0, m1, q2, ofO_some2, toFl_ok]
  subst hQ
  simp
structure OthB (h : AH) (b : Nat) (y : D) : Prop where
  pr : ∀ h', promote y h' = .ok y h'
  noI : isIns h "Bench" y = false
  ty : (y = .ref b) ∨ (isC h "Bonds" y = false ∧ ∃ t, tyD h y = some t)
theorem otherB_is {N : Int} (I : MInv 2 0 3 N h) (hN : N ≤ 800000) (l4 : 4 ≤ h.length) (B : BondsAt h b n M) (b4 : 4 ≤ b) {e : Env} (he : e[1]? = some (some (.ref 2))) (he3 : e[3]? = some (some (.tup (w.map .int)))) (he2 : e[2]? = some (some (.ref b))) :
    ∃ y h', pv (evOp opIx (evLst [(evC .non), (evVar 3), (evB bList [(evVar 3)]), (evVar 2), (evC (.int 5)), evD0, (evC (.str "bench"))]) (evCall d__law_draw [(evVar 1), (evC (.int 7))])) e h = .ok y h' ∧ OthB h' b y ∧ MInv 2 0 3 (N + 1) h' ∧ Frame 4 h h' := by
  have d0 : ∀ e h, evD0 e h = .ok (.ref h.length) (h ++ [.dk []]) := fun e h => rfl
  have p1 : ∀ xs h', promote (.tup xs) h' = .ok (.tup xs) h' := fun _ _ => rfl
  have bl : bList h [.tup (w.map .int)] = some (.tl (w.map .int)) := rfl
  have s1 : evLst [(evC .non), (evVar 3), (evB bList [(evVar 3)]), (evVar 2), (evC (.int 5)), evD0, (evC (.str "bench"))] e h = .ok (.tl [.non, .tup (w.map .int), .ref h.length, .ref b, .int 5, .ref (h.length + 1), .str "bench"]) (h ++ [.lst (w.map .int), .dk []]) := by
    simp [d0, he3, he2, bl, p1]
  have I2 := I.app [.lst (w.map .int), .dk []]
  have F2 : Frame 4 h (h ++ [.lst (w.map .int), .dk []]) := Frame.app _ _ _
  have g1 : (h ++ [AO.lst (w.map .int), .dk []])[h.length]? = some (.lst (w.map .int)) := get2a h _ _
  have g2 : (h ++ [AO.lst (w.map .int), .dk []])[h.length + 1]? = some (.dk []) := get2b h _ _
  obtain ⟨k, h3, r3, k0, k1, I3, F3, l3⟩ := draw4 (limit := 7) I2 (by omega) (by omega) (by omega)
  have g1 := F3.at_ l4 g1
  have g2 := F3.at_ (by omega) g2
  have B3 : BondsAt h3 b n M := (F2.trans F3).at_ b4 B
  have main : ∀ y, L2.atI [D.non, .tup (w.map .int), .ref h.length, .ref b, .int 5, .ref (h.length + 1), .str "bench"] k = some y → OthB h3 b y →
      ∃ y h', pv (evOp opIx (evLst [(evC .non), (evVar 3), (evB bList [(evVar 3)]), (evVar 2), (evC (.int 5)), evD0, (evC (.str "bench"))]) (evCall d__law_draw [(evVar 1), (evC (.int 7))])) e h = .ok y h' ∧ OthB h' b y ∧ MInv 2 0 3 (N + 1) h' ∧ Frame 4 h h' := by
    intro y hy Y
    refine ⟨y, h3, ?_, Y, I3, F2.trans F3⟩
    have ix : opIx h3 (.tl [.non, .tup (w.map .int), .ref h.length, .ref b, .int 5, .ref (h.length + 1), .str "bench"]) (.int k) = some y := by rw [opIx_tl]; exact hy
    rw [pv_eq, evOp_eq, s1, bind_ok]
    simp only [evCall_eq, evsV_cons, evsV_nil, pv_eq, evVar_eq, he, ofV_some, bind_ok, promote_ref, evC_eq, promote_int, r3, ix, ofO_some2]
    exact Y.pr h3
  obtain rfl | rfl | rfl | rfl | rfl | rfl | rfl : k = 0 ∨ k = 1 ∨ k = 2 ∨ k = 3 ∨ k = 4 ∨ k = 5 ∨ k = 6 := by omega
  · exact main .non rfl ⟨fun _ => rfl, rfl, .inr ⟨rfl, _, rfl⟩⟩
  · exact main (.tup (w.map .int)) rfl ⟨fun _ => rfl, rfl, .inr ⟨rfl, _, rfl⟩⟩
  · exact main (.ref h.length) rfl ⟨fun _ => rfl, by simp [isIns, g1], .inr ⟨by simp [isC, g1], "list", by simp [tyD, g1]⟩⟩
  · exact main (.ref b) rfl ⟨fun _ => rfl, bonds_noI B3, .inl rfl⟩
  · exact main (.int 5) rfl ⟨fun _ => rfl, rfl, .inr ⟨rfl, _, rfl⟩⟩
  · exact main (.ref (h.length + 1)) rfl ⟨fun _ => rfl, by simp [isIns, g2], .inr ⟨by simp [isC, g2], "dict", by simp [tyD, g2]⟩⟩
  · exact main (.str "bench") rfl ⟨fun _ => rfl, rfl, .inr ⟨rfl, _, rfl⟩⟩
end
theorem T33 : Tab 2 (litM [[1, 3], [3, 1]]) := .lit (by decide) (by decide) (by decide)
theorem plain (ns : List Int) (hn : ns.length ≤ 63) (_ : ∀ z ∈ ns, Builtin.Int.intBits z ≤ 1048576) : ∃ h, d_law [.rl (ns.map .int)] [] = .ok (.bl true) h := by
  unfold d_law
  obtain ⟨h0, b1, I0, l0⟩ := begun_is ns hn
  refine Runs.callE (P := fun o => ∃ h', o = .ok (.bl true) h') ?_
  (simp only [startE_eq, List.map_cons, List.map_nil, List.length_cons, List.length_nil, List.replicate, List.cons_append, List.nil_append])
  have pr : promote (D.rl (ns.map .int)) [] = .ok (D.rl (ns.map .int)) [] := rfl
  refine Runs.asg (pv_call (by simp [pr]) b1 rfl) ?_
  simp only [List.set_cons_succ, List.set_cons_zero]
  -- each
  obtain ⟨v, h1, r1, O1, I1, F1⟩ := quirk_is (e := [some (.rl (ns.map .int)), some (.ref 2), none, none, none, none]) I0 (by omega) (by omega) rfl
  have l1 : 4 ≤ h1.length := by have := F1.len; omega
  refine Runs.seq (e' := [some (.rl (ns.map .int)), some (.ref 2), none, none, none, none]) (h' := h1) (by
    rw [svIf_eq, tvNot_eq, tvOf_eq, evCall_eq, evsV_cons, r1, bind_ok, evsV_nil, bind_ok, bind_ok, each_is O1, bind_ok]
    rfl) ?_
  clear r1
  -- web, own
  have R2 := litRows [[1, 3], [3, 1]] h1 (n := 2) rfl (by decide)
  have pe2 : pv (evLst [(evLst [(evC (.int 1)), (evC (.int 3))]), (evLst [(evC (.int 3)), (evC (.int 1))])]) [some (.rl (ns.map .int)), some (.ref 2), none, none, none, none] h1 = .ok (.ref (h1.length + 2)) (h1 ++ ([[1, 3], [3, 1]].map (fun row => AO.lst (row.map .int)) ++ [.lst ((List.range 2).map fun i => .ref (h1.length + i))])) := by
    simp [List.range, List.range.loop]
  have mk2 := make_isP R2 T33 pe2
  have I2 := I1.app ([[1, 3], [3, 1]].map (fun row => AO.lst (row.map .int)) ++ [.lst ((List.range 2).map fun i => .ref (h1.length + i))])
  have l2 : 4 ≤ (h1 ++ ([[1, 3], [3, 1]].map (fun row => AO.lst (row.map D.int)) ++ [AO.lst ((List.range 2).map fun i => D.ref (h1.length + i))])).length := by simp; omega
  generalize h1 ++ ([[1, 3], [3, 1]].map (fun row => AO.lst (row.map .int)) ++ [.lst ((List.range 2).map fun i => .ref (h1.length + i))]) = h2 at *
  have B3 : BondsAt (h2 ++ [.sins "Bonds" [some (.tup (tabL 2 (litM [[1, 3], [3, 1]])))]]) h2.length 2 (litM [[1, 3], [3, 1]]) := by unfold BondsAt; simp
  have I3 := I2.app [.sins "Bonds" [some (.tup (tabL 2 (litM [[1, 3], [3, 1]])))]]
  have l3 : 4 ≤ (h2 ++ [AO.sins "Bonds" [some (.tup (tabL 2 (litM [[1, 3], [3, 1]])))]]).length := by simp; omega
  have b4 : 4 ≤ h2.length := l2
  generalize litM [[1, 3], [3, 1]] = M at *
  generalize h2 ++ [AO.sins "Bonds" [some (.tup (tabL 2 M))]] = h3 at *
  generalize h2.length = b at *
  obtain ⟨kd, h4, r4, k0, k1, I4, F4, l4⟩ := draw4 (limit := 4) I3 (by omega) (by omega) (by omega)
  obtain ⟨w, hk, Lw, wl⟩ : ∃ w : List Int, L2.atI [D.tup [], D.tup [D.int 1], D.tup [D.int 1, D.int 2], D.tup [D.int 2, D.int 2]] kd = some (.tup (w.map .int)) ∧ Letters 2 w ∧ w.length ≤ 60 := by
    obtain rfl | rfl | rfl | rfl : kd = 0 ∨ kd = 1 ∨ kd = 2 ∨ kd = 3 := by omega
    · exact ⟨[], rfl, by simp [Letters], by simp⟩
    · exact ⟨[1], rfl, by simp [Letters], by simp⟩
    · exact ⟨[1, 2], rfl, by simp [Letters], by simp⟩
    · exact ⟨[2, 2], rfl, by simp [Letters], by simp⟩
  have l4' : 4 ≤ h4.length := by omega
  have B4 : BondsAt h4 b 2 M := F4.at_ b4 B3
  have pT : ∀ xs h', promote (.tup xs) h' = .ok (.tup xs) h' := fun _ _ => rfl
  refine Runs.par2 (h1 := h3) (h2 := h4) (d := .ref b) (d' := .tup (w.map .int)) (by rw [pv_eq, mk2, bind_ok, promote_ref]) (by
    have e1 : evLst [(evTup []), (evTup [(evC (.int 1))]), (evTup [(evC (.int 1)), (evC (.int 2))]), (evTup [(evC (.int 2)), (evC (.int 2))])] [some (.rl (ns.map .int)), some (.ref 2), none, none, none, none] h3 = .ok (.tl [D.tup [], D.tup [D.int 1], D.tup [D.int 1, D.int 2], D.tup [D.int 2, D.int 2]]) h3 := by
      simp [pT]
    rw [pv_eq, evOp_eq, e1, bind_ok]
    have ix : opIx h4 (.tl [D.tup [], D.tup [D.int 1], D.tup [D.int 1, D.int 2], D.tup [D.int 2, D.int 2]]) (.int kd) = some (.tup (w.map .int)) := by rw [opIx_tl]; exact hk
    simp only [evCall_eq, evsV_cons, evsV_nil, pv_eq, evVar_eq, List.getElem?_cons_zero, List.getElem?_cons_succ, ofV_some, bind_ok, promote_ref, evC_eq, promote_int, r4, ix, ofO_some2]
    exact pT _ _) ?_
  simp only [List.set_cons_succ, List.set_cons_zero]
  -- here
  have mkB : evMake "Bench" d_Bench___init__ [(evVar 2), (evVar 3)] [some (.rl (ns.map .int)), some (.ref 2), some (.ref b), some (.tup (w.map .int)), none, none] h4 = .ok (.ref h4.length) (h4 ++ [bnO b w [] []]) := evMake_ok (ds := [.ref b, .tup (w.map .int)]) (by simp [pT]) (benchMade B4 (by omega) (wordT _ w) Lw wl)
  refine Runs.asg (d := .ref h4.length) (h1 := h4 ++ [bnO b w [] []]) (by rw [pv_eq, mkB, bind_ok, promote_ref]) ?_
  simp only [List.set_cons_succ, List.set_cons_zero]
  clear mkB
  have g5 : (h4 ++ [bnO b w [] []])[h4.length]? = some (bnO b w [] []) := List.getElem?_concat_length
  have B5 := B4.app [bnO b w [] []]
  have I5 := I4.app [bnO b w [] []]
  have l5 : 4 ≤ (h4 ++ [bnO b w [] []]).length := by simp; omega
  generalize h4 ++ [bnO b w [] []] = h5 at *
  generalize h4.length = p at *
  -- odd
  obtain ⟨y, h6, r6, Y, I6, F6⟩ := otherB_is (b := b) (n := 2) (M := M) (w := w) (e := [some (.rl (ns.map .int)), some (.ref 2), some (.ref b), some (.tup (w.map .int)), some (.ref p), none]) I5 (by omega) l5 B5 b4 rfl rfl rfl
  refine Runs.asg r6 ?_
  simp only [List.set_cons_succ, List.set_cons_zero]
  clear r6
  have g6 := F6.at_ l4' g5
  have B6 : BondsAt h6 b 2 M := F6.at_ b4 B5
  obtain ⟨pY, noI, tY⟩ := Y
  have pvp : pv (evVar 4) [some (.rl (ns.map .int)), some (.ref 2), some (.ref b), some (.tup (w.map .int)), some (.ref p), some y] h6 = .ok (.ref p) h6 := by simp
  have pvy : pv (evVar 5) [some (.rl (ns.map .int)), some (.ref 2), some (.ref b), some (.tup (w.map .int)), some (.ref p), some y] h6 = .ok y h6 := by simp [pY]
  have cY : isC h6 "Bonds" y = true ∨ ∃ t, tyD h6 y = some t := by
    rcases tY with rfl | ⟨_, t⟩
    · exact .inl (bonds_isC B6)
    · exact .inr t
  have eqb := eqO_no (o := .ref p) noI cY
  have q1 : evEqX "Bonds" "Bench" d_Bonds___eq__X d_Bench___eq__X (evVar 4) (evVar 5) [some (.rl (ns.map .int)), some (.ref 2), some (.ref b), some (.tup (w.map .int)), some (.ref p), some y] h6 = .ok (.bl false) h6 := by
    unfold evEqX
    rw [pvp, bind_ok, pvy, bind_ok, if_pos (bench_ins g6), if_pos (by
      rw [Bool.or_eq_true, Bool.or_eq_true]
      rcases cY with z | ⟨t, z⟩
      · exact .inr (.inl z)
      · exact .inr (.inr (by rw [z]; rfl)))]
    exact eqb
  have q2 : evEqX "Bonds" "Bench" d_Bonds___eq__X d_Bench___eq__X (evVar 5) (evVar 4) [some (.rl (ns.map .int)), some (.ref 2), some (.ref b), some (.tup (w.map .int)), some (.ref p), some y] h6 = .ok (.bl false) h6 := by
    unfold evEqX
    rw [pvy, bind_ok, pvp, bind_ok, if_neg (by rw [noI]; exact Bool.false_ne_true)]
    rcases tY with rfl | ⟨noC, t, ht⟩
    · rw [if_pos (bonds_isC B6), if_pos (by rw [bench_ins g6]; rfl)]
      exact eqS_no B6 (bench_noC g6) (bench_ins g6)
    · rw [if_neg (by rw [noC]; exact Bool.false_ne_true), if_pos (bench_ins g6), if_pos (by rw [ht]; rfl)]
      exact eqb
  have bl : bList h6 [.tup (w.map .int)] = some (.tl (w.map .int)) := rfl
  have B7 := B6.app [.lst (w.map .int)]
  have mkC : evMake "Bench" d_Bench___init__ [(evVar 2), (evB bList [(evVar 3)])] [some (.rl (ns.map .int)), some (.ref 2), some (.ref b), some (.tup (w.map .int)), some (.ref p), some y] h6 = .ok (.ref (h6 ++ [AO.lst (w.map .int)]).length) (h6 ++ [.lst (w.map .int)] ++ [bnO b w [] []]) := evMake_ok (ds := [.ref b, .ref h6.length]) (by simp [bl]) (benchMade B7 (by omega) (.inr ⟨_, rfl, List.getElem?_concat_length⟩) Lw wl)
  have B8 := B7.app [bnO b w [] []]
  have g7 : (h6 ++ [AO.lst (w.map .int)] ++ [bnO b w [] []])[p]? = some (bnO b w [] []) := by
    rw [List.append_assoc, List.getElem?_append_left (List.getElem?_eq_some_iff.mp g6).1]; exact g6
  have g8 : (h6 ++ [AO.lst (w.map .int)] ++ [bnO b w [] []])[(h6 ++ [AO.lst (w.map .int)]).length]? = some (bnO b w [] []) := List.getElem?_concat_length
  generalize h6 ++ [AO.lst (w.map .int)] ++ [bnO b w [] []] = h8 at *
  generalize (h6 ++ [AO.lst (w.map .int)]).length = p2 at *
  have q3 : evNeX "Bench" d_Bench___eq__X (evVar 4) (evMake "Bench" d_Bench___init__ [(evVar 2), (evB bList [(evVar 3)])]) [some (.rl (ns.map .int)), some (.ref 2), some (.ref b), some (.tup (w.map .int)), some (.ref p), some y] h6 = .ok (.bl false) h8 := by
    unfold evNeX
    rw [pvp, bind_ok, pv_eq, mkC, bind_ok, promote_ref, bind_ok, if_pos (by rw [bench_ins g7, bench_ins g8]; rfl), eqO_yes B8 g7 g8, bind_ok]
    rfl
  have pB : ∀ b h', promote (.bl b) h' = .ok (.bl b) h' := fun _ _ => rfl
  have e1 : evLst [(evEqX "Bonds" "Bench" d_Bonds___eq__X d_Bench___eq__X (evVar 4) (evVar 5)), (evEqX "Bonds" "Bench" d_Bonds___eq__X d_Bench___eq__X (evVar 5) (evVar 4)), (evNeX "Bench" d_Bench___eq__X (evVar 4) (evMake "Bench" d_Bench___init__ [(evVar 2), (evB bList [(evVar 3)])]))] [some (.rl (ns.map .int)), some (.ref 2), some (.ref b), some (.tup (w.map .int)), some (.ref p), some y] h6 = .ok (.tl [.bl false, .bl false, .bl false]) h8 := by
    rw [evLst_eq]
    simp only [evsV_cons, evsV_nil, pv_eq, q1, q2, q3, bind_ok, pB]
    rfl
  have ml := mul_list (h := h8) (v := .bl false) (k := 3) (by decide) (by decide)
  have eq : opEq h8 (.tl [.bl false, .bl false, .bl false]) (.tl (List.replicate (3 : Int).toNat (.bl false))) = some (.bl true) := eq_same (p := .list [.bool false, .bool false, .bool false]) rfl rfl
  refine Runs.last fun Q' hQ => ?_
  have e2 : evOp opMul (evLst [(evC (.bl false))]) (evC (.int 3)) [some (.rl (ns.map .int)), some (.ref 2), some (.ref b), some (.tup (w.map .int)), some (.ref p), some y] h8 = .ok (.tl (List.replicate (3 : Int).toNat (.bl false))) h8 := by
    have : evLst [(evC (.bl false))] [some (.rl (ns.map .int)), some (.ref 2), some (.ref b), some (.tup (w.map .int)), some (.ref p), some y] h8 = .ok (.tl [.bl false]) h8 := by simp [pB]
    rw [evOp_eq, this, bind_ok, evC_eq, bind_ok, ml, ofO_some2]
  rw [svRet_eq, evOp_eq, e1, bind_ok, e2, bind_ok, eq, ofO_some2, toFl_ok]
  subst hQ
  simp [BW.fin, D.lt, oldOk]
end BW

set_option Elab.async false
set_option linter.all false
set_option maxRecDepth 100000
set_option maxHeartbeats 4000000
namespace BW
open PySem PySem.Spec PyProof.Rows L2
variable [Tb]
def topS (i : Nat) : Stmt := PySem.Challenge.pw_bondwords_k72_exceptions_of_the_second_h.main.body.getD i (.Pass ⟨0, 0, 0, 0⟩)
theorem sc_is_whole : FnScope ["value"] ["value"] (defScope (topS 16)) := ⟨rfl, rfl, rfl, by decide +kernel, rfl, by decide +kernel, by decide +kernel⟩
theorem ok_is_whole {P : Program} {w : World} {K : PySem.W.Frag} {mg : Str → Option Value} {base : Heap} {f : Addr} {fd : FuncData} (F : Fun K "is_whole" "is_whole" (topS 16) f fd) (m : mg "is_whole" = some (.ref f)) (B : Bi mg) : Fn P w K mg base "is_whole" 1 1 d_is_whole :=
  fn_mk 0 F m sc_is_whole (F.binds fun _ _ _ _ _ _ us hl => match us, hl with | [_], _ => rfl) fun cdv A outer s H E hr =>
    have tk := takes_of (X := cxOf (L2.CX P w) P w K mg base ["value"] "is_whole" (defScope (topS 16)) f cdv A outer s H E) rfl rfl rfl rfl
    have po := passes_of (X := cxOf (L2.CX P w) P w K mg base ["value"] "is_whole" (defScope (topS 16)) f cdv A outer s H E) rfl
    (den_bone (den_ret (den_vand (den_isi rfl B.isinstance rfl B.int (by decide +kernel) (dv 0)) (den_vone (den_vnot (den_isi rfl B.isinstance rfl B.bool (by decide +kernel) (dv 0)))))))
theorem sc_is_among : FnScope ["value", "least", "most"] ["value", "least", "most"] (defScope (topS 17)) := ⟨rfl, rfl, rfl, by decide +kernel, rfl, by decide +kernel, by decide +kernel⟩
theorem ok_is_among {P : Program} {w : World} {K : PySem.W.Frag} {mg : Str → Option Value} {base : Heap} {f : Addr} {fd : FuncData} (F : Fun K "is_among" "is_among" (topS 17) f fd) (m : mg "is_among" = some (.ref f)) (B : Bi mg) (c_is_whole : Fn P w K mg base "is_whole" 1 1 d_is_whole) : Fn P w K mg base "is_among" 2 3 d_is_among :=
  fn_mk 1 F m sc_is_among (F.binds fun _ _ _ _ _ _ us hl => match us, hl with | [_, _, _], _ => rfl) fun cdv A outer s H E hr =>
    have tk := takes_of (X := cxOf (L2.CX P w) P w K mg base ["value", "least", "most"] "is_among" (defScope (topS 17)) f cdv A outer s H E) rfl rfl rfl rfl
    have po := passes_of (X := cxOf (L2.CX P w) P w K mg base ["value", "least", "most"] "is_among" (defScope (topS 17)) f cdv A outer s H E) rfl
    (den_bone (den_ret (den_vand (den_callF c_is_whole hr tk (den_consV (dv 0) den_nilV)) (den_vone (den_chain opd_le opd_le (dv 1) (dv 0) (dv 2))))))
theorem sc_is_list : FnScope ["value"] ["value"] (defScope (topS 18)) := ⟨rfl, rfl, rfl, by decide +kernel, rfl, by decide +kernel, by decide +kernel⟩
theorem ok_is_list {P : Program} {w : World} {K : PySem.W.Frag} {mg : Str → Option Value} {base : Heap} {f : Addr} {fd : FuncData} (F : Fun K "is_list" "is_list" (topS 18) f fd) (m : mg "is_list" = some (.ref f)) (B : Bi mg) : Fn P w K mg base "is_list" 1 1 d_is_list :=
  fn_mk 0 F m sc_is_list (F.binds fun _ _ _ _ _ _ us hl => match us, hl with | [_], _ => rfl) fun cdv A outer s H E hr =>
    have tk := takes_of (X := cxOf (L2.CX P w) P w K mg base ["value"] "is_list" (defScope (topS 18)) f cdv A outer s H E) rfl rfl rfl rfl
    have po := passes_of (X := cxOf (L2.CX P w) P w K mg base ["value"] "is_list" (defScope (topS 18)) f cdv A outer s H E) rfl
    (den_bone (den_ret (den_isiLT rfl B.isinstance rfl B.list rfl B.tuple (dv 0))))
theorem sc_is_bond : FnScope ["rows", "one", "other", "value"] ["rows", "one", "other"] (defScope (topS 19)) := ⟨rfl, rfl, rfl, by decide +kernel, rfl, by decide +kernel, by decide +kernel⟩
theorem ok_is_bond {P : Program} {w : World} {K : PySem.W.Frag} {mg : Str → Option Value} {base : Heap} {f : Addr} {fd : FuncData} (F : Fun K "is_bond" "is_bond" (topS 19) f fd) (m : mg "is_bond" = some (.ref f)) (B : Bi mg) (g_KINDS : TupG K mg "KINDS" [.int 2, .int 3, .int 4, .int 6, .int 0]) (c_is_among : Fn P w K mg base "is_among" 2 3 d_is_among) (c_is_whole : Fn P w K mg base "is_whole" 1 1 d_is_whole) : Fn P w K mg base "is_bond" 3 3 d_is_bond :=
  fn_mk 2 F m sc_is_bond (F.binds fun _ _ _ _ _ _ us hl => match us, hl with | [_, _, _], _ => rfl) fun cdv A outer s H E hr =>
    have tk := takes_of (X := cxOf (L2.CX P w) P w K mg base ["rows", "one", "other", "value"] "is_bond" (defScope (topS 19)) f cdv A outer s H E) rfl rfl rfl rfl
    have po := passes_of (X := cxOf (L2.CX P w) P w K mg base ["rows", "one", "other", "value"] "is_bond" (defScope (topS 19)) f cdv A outer s H E) rfl
    (den_bcons (den_set (i := 3) sc_is_bond.nd rfl (by first | exact Or.inl rfl | exact Or.inr rfl) (den_ix (den_ix (dv 0) (dv 1)) (dv 2)))
      (den_bcons (den_ifS (den_tcmp (opd_eq hr.units) (dv 1) (dv 2)) (den_bone (den_ret (den_callF c_is_among hr tk (den_consV (dv 3) (den_consV den_int (den_consV den_int den_nilV)))))) den_bnil)
      (den_bone (den_ret (den_vand (den_callF c_is_whole hr tk (den_consV (dv 3) den_nilV)) (den_vand (den_inG g_KINDS rfl rfl (dv 3)) (den_vone (den_vor (den_cmp opd_lt (dv 1) (dv 2)) (den_vone (den_cmp (opd_eq hr.units) (dv 3) (den_ix (den_ix (dv 0) (dv 2)) (dv 1))))))))))))
theorem sc_need_rows : FnScope ["rows", "row", "one", "other"] ["rows"] (defScope (topS 20)) := ⟨rfl, rfl, rfl, by decide +kernel, rfl, by decide +kernel, by decide +kernel⟩
theorem ok_need_rows {P : Program} {w : World} {K : PySem.W.Frag} {mg : Str → Option Value} {base : Heap} {f : Addr} {fd : FuncData} (F : Fun K "need_rows" "need_rows" (topS 20) f fd) (m : mg "need_rows" = some (.ref f)) (B : Bi mg) (x_BadBonds : XC1 P K mg "BadBonds") (x_TooGreat : XC1 P K mg "TooGreat") (g_MOST_LETTERS : GI mg "MOST_LETTERS" 6) (c_is_list : Fn P w K mg base "is_list" 1 1 d_is_list) (c_is_bond : Fn P w K mg base "is_bond" 3 3 d_is_bond) : Fn P w K mg base "need_rows" 4 1 d_need_rows :=
  fn_mk 3 F m sc_need_rows (F.binds fun _ _ _ _ _ _ us hl => match us, hl with | [_], _ => rfl) fun cdv A outer s H E hr =>
    have tk := takes_of (X := cxOf (L2.CX P w) P w K mg base ["rows", "row", "one", "other"] "need_rows" (defScope (topS 20)) f cdv A outer s H E) rfl rfl rfl rfl
    have po := passes_of (X := cxOf (L2.CX P w) P w K mg base ["rows", "row", "one", "other"] "need_rows" (defScope (topS 20)) f cdv A outer s H E) rfl
    (den_bcons (den_ifS (PW.pt (den_or (den_tnot (den_tval (den_callF c_is_list hr tk (den_consV (dv 0) den_nilV)))) (den_or1 (den_tcmp (opd_eq hr.units) (den_callB cd_len rfl B.len (by decide +kernel) (den_cons (dv 0) den_nil)) den_int)))) (den_bone (den_raise1 x_BadBonds B.super hr tk den_non)) den_bnil)
      (den_bcons (den_ifS (den_tcmp opd_gt (den_callB cd_len rfl B.len (by decide +kernel) (den_cons (dv 0) den_nil)) (den_gi g_MOST_LETTERS)) (den_bone (den_raise1 x_TooGreat B.super hr tk (den_gi g_MOST_LETTERS))) den_bnil)
      (den_bcons (den_for po rfl (den_iseq (dv 0)) (den_gname (i := 1) sc_need_rows.nd rfl (by first | exact Or.inl rfl | exact Or.inr rfl)) (den_bone (den_ifS (PW.pt (den_or (den_tnot (den_tval (den_callF c_is_list hr tk (den_consV (dv 1) den_nilV)))) (den_or1 (den_tcmp (opd_ne hr.units) (den_callB cd_len rfl B.len (by decide +kernel) (den_cons (dv 1) den_nil)) (den_callB cd_len rfl B.len (by decide +kernel) (den_cons (dv 0) den_nil)))))) (den_bone (den_raise1 x_BadBonds B.super hr tk den_non)) den_bnil)))
      (den_bone (den_for po rfl (den_range1 rfl B.range (den_cons (den_callB cd_len rfl B.len (by decide +kernel) (den_cons (dv 0) den_nil)) den_nil)) (den_gname (i := 2) sc_need_rows.nd rfl (by first | exact Or.inl rfl | exact Or.inr rfl)) (den_bone (den_for po rfl (den_range1 rfl B.range (den_cons (den_callB cd_len rfl B.len (by decide +kernel) (den_cons (dv 0) den_nil)) den_nil)) (den_gname (i := 3) sc_need_rows.nd rfl (by first | exact Or.inl rfl | exact Or.inr rfl)) (den_bone (den_ifS (den_tnot (den_tval (den_callF c_is_bond hr tk (den_consV (dv 0) (den_consV (dv 2) (den_consV (dv 3) den_nilV)))))) (den_bone (den_raise1 x_BadBonds B.super hr tk (den_tup (den_consV (den_op opd_add (dv 2) den_int) (den_consV (den_op opd_add (dv 3) den_int) den_nilV))))) den_bnil)))))))))
theorem sc_Bonds___init__ : FnScope ["self", "rows", "row"] ["self", "rows"] (defScope (inClass (topS 21) 1)) := ⟨rfl, rfl, rfl, by decide +kernel, rfl, by decide +kernel, by decide +kernel⟩
theorem ok_Bonds___init__ {P : Program} {w : World} {K : PySem.W.Frag} {mg : Str → Option Value} {base : Heap} {f : Addr} {fd : FuncData} {C : Addr} (F : Fun K "__init__" "Bonds.__init__" (inClass (topS 21) 1) f fd) (hC : mg "Bonds" = some (.ref C)) (m : Mk K C f) (B : Bi mg) (sB : SC K mg "Bonds" "table") (c_need_rows : Fn P w K mg base "need_rows" 4 1 d_need_rows) : Mkr P w K mg base "Bonds" 5 2 d_Bonds___init__ :=
  mkr_mk 4 F hC m sc_Bonds___init__ (F.binds fun _ _ _ _ _ _ us hl => match us, hl with | [_, _], _ => rfl) fun cdv A outer s H E hr =>
    have tk := takes_of (X := cxOf (L2.CX P w) P w K mg base ["self", "rows", "row"] "Bonds.__init__" (defScope (inClass (topS 21) 1)) f cdv A outer s H E) rfl rfl rfl rfl
    have po := passes_of (X := cxOf (L2.CX P w) P w K mg base ["self", "rows", "row"] "Bonds.__init__" (defScope (inClass (topS 21) 1)) f cdv A outer s H E) rfl
    (den_bcons (den_expr (den_callF c_need_rows hr tk (den_consV (dv 1) den_nilV)))
      (den_bone (den_setslot sB (dv 0) (den_callTy cd_tuple rfl B.tuple (by decide +kernel) (den_cons (den_lc (own := [("row", 2)]) (.one 2) rfl sc_Bonds___init__.nd (den_iseq (dv 1)) rfl (blkOk_by (by kernel_rfl)) (fun _ _ _ _ _ => pg_name (i := 2) sc_Bonds___init__.nd rfl (by first | exact Or.inl rfl | exact Or.inr rfl)) (fun _ _ _ _ _ => den_noif) (fun _ _ _ _ _ => (den_callTy cd_tuple rfl B.tuple (by decide +kernel) (den_cons (dv 2) den_nil)))) den_nil)))))
theorem sc_Bonds___len__ : FnScope ["self"] ["self"] (defScope (inClass (topS 21) 2)) := ⟨rfl, rfl, rfl, by decide +kernel, rfl, by decide +kernel, by decide +kernel⟩
theorem ok_Bonds___len__ {P : Program} {w : World} {K : PySem.W.Frag} {mg : Str → Option Value} {base : Heap} {f : Addr} {fd : FuncData} {C : Addr} (F : Fun K "__len__" "Bonds.__len__" (inClass (topS 21) 2) f fd) (hC : mg "Bonds" = some (.ref C)) (m : Meth K C "__len__" f) (B : Bi mg) (sB : SC K mg "Bonds" "table") : Mt P w K mg base "Bonds" "__len__" 1 1 d_Bonds___len__ :=
  mt_mk 0 F hC m sc_Bonds___len__ (F.binds fun _ _ _ _ _ _ us hl => match us, hl with | [_], _ => rfl) fun cdv A outer s H E hr =>
    have tk := takes_of (X := cxOf (L2.CX P w) P w K mg base ["self"] "Bonds.__len__" (defScope (inClass (topS 21) 2)) f cdv A outer s H E) rfl rfl rfl rfl
    have po := passes_of (X := cxOf (L2.CX P w) P w K mg base ["self"] "Bonds.__len__" (defScope (inClass (topS 21) 2)) f cdv A outer s H E) rfl
    (den_bone (den_ret (den_callB cd_len rfl B.len (by decide +kernel) (den_cons (den_slot sB (dv 0)) den_nil))))
theorem sc_Bonds___eq__ : FnScope ["self", "other"] ["self", "other"] (defScope (inClass (topS 21) 3)) := ⟨rfl, rfl, rfl, by decide +kernel, rfl, by decide +kernel, by decide +kernel⟩
theorem ok_Bonds___eq__ {P : Program} {w : World} {K : PySem.W.Frag} {mg : Str → Option Value} {base : Heap} {f : Addr} {fd : FuncData} {C : Addr} (F : Fun K "__eq__" "Bonds.__eq__" (inClass (topS 21) 3) f fd) (hC : mg "Bonds" = some (.ref C)) (m : Meth K C "__eq__" f) (B : Bi mg) (sB : SC K mg "Bonds" "table") (T2 : TwoC K mg "Bonds" "Bench") : Mt P w K mg base "Bonds" "__eq__" 1 2 d_Bonds___eq__X :=
  mt_mk 0 F hC m sc_Bonds___eq__ (F.binds fun _ _ _ _ _ _ us hl => match us, hl with | [_, _], _ => rfl) fun cdv A outer s H E hr =>
    have tk := takes_of (X := cxOf (L2.CX P w) P w K mg base ["self", "other"] "Bonds.__eq__" (defScope (inClass (topS 21) 3)) f cdv A outer s H E) rfl rfl rfl rfl
    have po := passes_of (X := cxOf (L2.CX P w) P w K mg base ["self", "other"] "Bonds.__eq__" (defScope (inClass (topS 21) 3)) f cdv A outer s H E) rfl
    (den_bone (den_ret (den_vand (den_isiS T2 rfl B.isinstance rfl (dv 1)) (den_vone (den_cmp (opd_eq hr.units) (den_slot sB (dv 0)) (den_slot sB (dv 1)))))))
theorem sc_need_word : FnScope ["bonds", "word", "place", "letter"] ["bonds", "word"] (defScope (topS 22)) := ⟨rfl, rfl, rfl, by decide +kernel, rfl, by decide +kernel, by decide +kernel⟩
theorem ok_need_word {P : Program} {w : World} {K : PySem.W.Frag} {mg : Str → Option Value} {base : Heap} {f : Addr} {fd : FuncData} (F : Fun K "need_word" "need_word" (topS 22) f fd) (m : mg "need_word" = some (.ref f)) (B : Bi mg) (sB : SC K mg "Bonds" "table") (x_BadWord : XC1 P K mg "BadWord") (x_TooGreat : XC1 P K mg "TooGreat") (g_MOST_WORD : GI mg "MOST_WORD" 60) (c_is_list : Fn P w K mg base "is_list" 1 1 d_is_list) (c_Bonds___len__ : Mt P w K mg base "Bonds" "__len__" 1 1 d_Bonds___len__) (c_is_among : Fn P w K mg base "is_among" 2 3 d_is_among) : Fn P w K mg base "need_word" 3 2 d_need_word :=
  fn_mk 2 F m sc_need_word (F.binds fun _ _ _ _ _ _ us hl => match us, hl with | [_, _], _ => rfl) fun cdv A outer s H E hr =>
    have tk := takes_of (X := cxOf (L2.CX P w) P w K mg base ["bonds", "word", "place", "letter"] "need_word" (defScope (topS 22)) f cdv A outer s H E) rfl rfl rfl rfl
    have po := passes_of (X := cxOf (L2.CX P w) P w K mg base ["bonds", "word", "place", "letter"] "need_word" (defScope (topS 22)) f cdv A outer s H E) rfl
    (den_bcons (den_ifS (den_tnot (den_tval (den_callF c_is_list hr tk (den_consV (dv 1) den_nilV)))) (den_bone (den_raise1 x_BadWord B.super hr tk den_non)) den_bnil)
      (den_bcons (den_ifS (den_tcmp opd_gt (den_callB cd_len rfl B.len (by decide +kernel) (den_cons (dv 1) den_nil)) (den_gi g_MOST_WORD)) (den_bone (den_raise1 x_TooGreat B.super hr tk (den_gi g_MOST_WORD))) den_bnil)
      (den_bone (den_for po rfl (den_enum rfl B.enumerate (den_cons (dv 1) den_nil)) (den_gtup rfl (den_gcons (den_gname (i := 2) sc_need_word.nd rfl (by first | exact Or.inl rfl | exact Or.inr rfl)) (den_gcons (den_gname (i := 3) sc_need_word.nd rfl (by first | exact Or.inl rfl | exact Or.inr rfl)) den_gnil))) (den_bone (den_ifS (den_tnot (den_tval (den_callF c_is_among hr tk (den_consV (dv 3) (den_consV den_int (den_consV (den_lenO sB c_Bonds___len__ hr tk wc_E rfl B.len (dv 0)) den_nilV)))))) (den_bone (den_raise1 x_BadWord B.super hr tk (dv 2))) den_bnil))))))
theorem sc_Bench___init__ : FnScope ["self", "bonds", "word"] ["self", "bonds", "word"] (defScope (inClass (topS 24) 0)) := ⟨rfl, rfl, rfl, by decide +kernel, rfl, by decide +kernel, by decide +kernel⟩
theorem ok_Bench___init__ {P : Program} {w : World} {K : PySem.W.Frag} {mg : Str → Option Value} {base : Heap} {f : Addr} {fd : FuncData} {C : Addr} (F : Fun K "__init__" "Bench.__init__" (inClass (topS 24) 0) f fd) (hC : mg "Bench" = some (.ref C)) (m : Mk K C f) (B : Bi mg) (oc_Bench : OC K mg "Bench" ["bonds", "first", "held", "later"]) (c_need_word : Fn P w K mg base "need_word" 3 2 d_need_word) : Mkr P w K mg base "Bench" 4 3 d_Bench___init__ :=
  mkr_mk 3 F hC m sc_Bench___init__ (F.binds fun _ _ _ _ _ _ us hl => match us, hl with | [_, _, _], _ => rfl) fun cdv A outer s H E hr =>
    have tk := takes_of (X := cxOf (L2.CX P w) P w K mg base ["self", "bonds", "word"] "Bench.__init__" (defScope (inClass (topS 24) 0)) f cdv A outer s H E) rfl rfl rfl rfl
    have po := passes_of (X := cxOf (L2.CX P w) P w K mg base ["self", "bonds", "word"] "Bench.__init__" (defScope (inClass (topS 24) 0)) f cdv A outer s H E) rfl
    (den_bcons (den_expr (den_callF c_need_word hr tk (den_consV (dv 1) (den_consV (dv 2) den_nilV))))
      (den_bcons (den_setattr oc_Bench List.mem_cons_self (dv 0) (dv 1))
      (den_bcons (den_setattr oc_Bench (List.mem_cons_of_mem _ List.mem_cons_self) (dv 0) (den_callTy cd_tuple rfl B.tuple (by decide +kernel) (den_cons (dv 2) den_nil)))
      (den_bone (den_asg (den_tup (den_consV (den_tup den_nilV) (den_consV (den_tup den_nilV) den_nilV))) (den_gtup rfl (den_gcons (den_gattr (W := W0) oc_Bench (List.mem_cons_of_mem _ (List.mem_cons_of_mem _ List.mem_cons_self)) (dv 0)) (den_gcons (den_gattr (W := W0) oc_Bench (List.mem_cons_of_mem _ (List.mem_cons_of_mem _ (List.mem_cons_of_mem _ List.mem_cons_self))) (dv 0)) den_gnil))))))))
theorem sc_Bench_deeds : FnScope ["self", "row"] ["self"] (defScope (inClass (topS 24) 4)) := ⟨rfl, rfl, rfl, by decide +kernel, rfl, by decide +kernel, by decide +kernel⟩
theorem ok_Bench_deeds {P : Program} {w : World} {K : PySem.W.Frag} {mg : Str → Option Value} {base : Heap} {f : Addr} {fd : FuncData} {C : Addr} (F : Fun K "deeds" "Bench.deeds" (inClass (topS 24) 4) f fd) (hC : mg "Bench" = some (.ref C)) (m : Meth K C "deeds" f) (B : Bi mg) (oc_Bench : OC K mg "Bench" ["bonds", "first", "held", "later"]) : Mt P w K mg base "Bench" "deeds" 1 1 d_Bench_deeds :=
  mt_mk 0 F hC m sc_Bench_deeds (F.binds fun _ _ _ _ _ _ us hl => match us, hl with | [_], _ => rfl) fun cdv A outer s H E hr =>
    have tk := takes_of (X := cxOf (L2.CX P w) P w K mg base ["self", "row"] "Bench.deeds" (defScope (inClass (topS 24) 4)) f cdv A outer s H E) rfl rfl rfl rfl
    have po := passes_of (X := cxOf (L2.CX P w) P w K mg base ["self", "row"] "Bench.deeds" (defScope (inClass (topS 24) 4)) f cdv A outer s H E) rfl
    (den_bone (den_ret (den_callTy cd_tuple rfl B.tuple (by decide +kernel) (den_cons (den_lc (own := [("row", 1)]) (.one 1) rfl sc_Bench_deeds.nd (den_iseq (den_attr oc_Bench (List.mem_cons_of_mem _ (List.mem_cons_of_mem _ List.mem_cons_self)) (dv 0))) rfl (blkOk_by (by kernel_rfl)) (fun _ _ _ _ _ => pg_name (i := 1) sc_Bench_deeds.nd rfl (by first | exact Or.inl rfl | exact Or.inr rfl)) (fun _ _ _ _ _ => den_noif) (fun _ _ _ _ _ => (den_ix (dv 1) den_int))) den_nil))))
theorem sc_Bench___eq__ : FnScope ["self", "other"] ["self", "other"] (defScope (inClass (topS 24) 3)) := ⟨rfl, rfl, rfl, by decide +kernel, rfl, by decide +kernel, by decide +kernel⟩
theorem ok_Bench___eq__ {P : Program} {w : World} {K : PySem.W.Frag} {mg : Str → Option Value} {base : Heap} {f : Addr} {fd : FuncData} {C : Addr} (F : Fun K "__eq__" "Bench.__eq__" (inClass (topS 24) 3) f fd) (hC : mg "Bench" = some (.ref C)) (m : Meth K C "__eq__" f) (B : Bi mg) (eB : EqC K mg "Bonds") (T2 : TwoC K mg "Bonds" "Bench") (oc_Bench : OC K mg "Bench" ["bonds", "first", "held", "later"]) (c_Bonds___eq__ : Mt P w K mg base "Bonds" "__eq__" 1 2 d_Bonds___eq__X) (c_Bench_deeds : Mt P w K mg base "Bench" "deeds" 1 1 d_Bench_deeds) : Mt P w K mg base "Bench" "__eq__" 3 2 d_Bench___eq__X :=
  mt_mk 2 F hC m sc_Bench___eq__ (F.binds fun _ _ _ _ _ _ us hl => match us, hl with | [_, _], _ => rfl) fun cdv A outer s H E hr =>
    have tk := takes_of (X := cxOf (L2.CX P w) P w K mg base ["self", "other"] "Bench.__eq__" (defScope (inClass (topS 24) 3)) f cdv A outer s H E) rfl rfl rfl rfl
    have po := passes_of (X := cxOf (L2.CX P w) P w K mg base ["self", "other"] "Bench.__eq__" (defScope (inClass (topS 24) 3)) f cdv A outer s H E) rfl
    (den_bcons (den_ifS (PW.pt (den_or (den_tnot (den_tval (den_isiO T2 rfl B.isinstance rfl (dv 1)))) (den_or1 (den_tneO eB c_Bonds___eq__ hr tk wc_E (den_attr oc_Bench List.mem_cons_self (dv 0)) (den_attr oc_Bench List.mem_cons_self (dv 1)))))) (den_bone (den_ret den_bl)) den_bnil)
      (den_bone (den_ret (den_vand (den_cmp (opd_eq hr.units) (den_attr oc_Bench (List.mem_cons_of_mem _ List.mem_cons_self) (dv 0)) (den_attr oc_Bench (List.mem_cons_of_mem _ List.mem_cons_self) (dv 1))) (den_vone (den_cmp (opd_eq hr.units) (den_methI0 oc_Bench c_Bench_deeds hr tk wc_E (dv 0)) (den_methI0 oc_Bench c_Bench_deeds hr tk wc_E (dv 1))))))))
theorem sc__law_mixed : FnScope ["cell", "n", "blend"] ["cell", "n"] (defScope (topS 26)) := ⟨rfl, rfl, rfl, by decide +kernel, rfl, by decide +kernel, by decide +kernel⟩
theorem ok__law_mixed {P : Program} {w : World} {K : PySem.W.Frag} {mg : Str → Option Value} {base : Heap} {f : Addr} {fd : FuncData} (F : Fun K "_law_mixed" "_law_mixed" (topS 26) f fd) (m : mg "_law_mixed" = some (.ref f)) (B : Bi mg) : Fn P w K mg base "_law_mixed" 1 2 d__law_mixed :=
  fn_mk 0 F m sc__law_mixed (F.binds fun _ _ _ _ _ _ us hl => match us, hl with | [_, _], _ => rfl) fun cdv A outer s H E hr =>
    have tk := takes_of (X := cxOf (L2.CX P w) P w K mg base ["cell", "n", "blend"] "_law_mixed" (defScope (topS 26)) f cdv A outer s H E) rfl rfl rfl rfl
    have po := passes_of (X := cxOf (L2.CX P w) P w K mg base ["cell", "n", "blend"] "_law_mixed" (defScope (topS 26)) f cdv A outer s H E) rfl
    (den_bcons (den_set (i := 2) sc__law_mixed.nd rfl (by first | exact Or.inl rfl | exact Or.inr rfl) (den_op opd_add (den_op opd_add (den_op opd_mod (den_callTy cd_int rfl B.int (by decide +kernel) (den_cons (den_op opd_mul (den_op opd_mul (dv 0) (den_op opd_add den_int (den_op opd_mul den_int (dv 1)))) den_int) den_nil)) den_int) (den_op opd_mul (den_op opd_mul den_int (dv 1)) (dv 1))) (den_op opd_mul den_int (dv 1))))
      (den_bone (den_ret (den_op opd_fdiv (den_op opd_mod (den_callTy cd_int rfl B.int (by decide +kernel) (den_cons (den_op opd_mul (dv 2) den_int) den_nil)) den_int) den_int))))
theorem sc__law_folded : FnScope ["script", "found", "n", "cell"] ["script"] (defScope (topS 27)) := ⟨rfl, rfl, rfl, by decide +kernel, rfl, by decide +kernel, by decide +kernel⟩
theorem ok__law_folded {P : Program} {w : World} {K : PySem.W.Frag} {mg : Str → Option Value} {base : Heap} {f : Addr} {fd : FuncData} (F : Fun K "_law_folded" "_law_folded" (topS 27) f fd) (m : mg "_law_folded" = some (.ref f)) (B : Bi mg) : Fn P w K mg base "_law_folded" 1 1 d__law_folded :=
  fn_mk 0 F m sc__law_folded (F.binds fun _ _ _ _ _ _ us hl => match us, hl with | [_], _ => rfl) fun cdv A outer s H E hr =>
    have tk := takes_of (X := cxOf (L2.CX P w) P w K mg base ["script", "found", "n", "cell"] "_law_folded" (defScope (topS 27)) f cdv A outer s H E) rfl rfl rfl rfl
    have po := passes_of (X := cxOf (L2.CX P w) P w K mg base ["script", "found", "n", "cell"] "_law_folded" (defScope (topS 27)) f cdv A outer s H E) rfl
    (den_bcons (by first | exact (den_setLc (i := 1) (own := [("n", 2)]) (.one 2) rfl sc__law_folded.nd rfl rfl (sw_true rfl rfl rfl (by decide +kernel)) (den_range1 rfl B.range (den_cons den_int den_nil)) rfl (blkOk_by (by kernel_rfl)) (fun _ _ _ _ _ => pg_name (i := 2) sc__law_folded.nd rfl (by first | exact Or.inl rfl | exact Or.inr rfl)) (fun _ _ _ _ _ => den_noif) (fun _ _ _ _ _ => (den_op opd_add den_int (dv 2)))) | exact den_set (i := 1) sc__law_folded.nd rfl (by first | exact Or.inl rfl | exact Or.inr rfl) (den_lc (own := [("n", 2)]) (.one 2) rfl sc__law_folded.nd (den_range1 rfl B.range (den_cons den_int den_nil)) rfl (blkOk_by (by kernel_rfl)) (fun _ _ _ _ _ => pg_name (i := 2) sc__law_folded.nd rfl (by first | exact Or.inl rfl | exact Or.inr rfl)) (fun _ _ _ _ _ => den_noif) (fun _ _ _ _ _ => (den_op opd_add den_int (dv 2)))))
      (den_bcons (den_for po rfl (den_enum rfl B.enumerate (den_cons (dv 0) den_nil)) (den_gtup rfl (den_gcons (den_gname (i := 2) sc__law_folded.nd rfl (by first | exact Or.inl rfl | exact Or.inr rfl)) (den_gcons (den_gname (i := 3) sc__law_folded.nd rfl (by first | exact Or.inl rfl | exact Or.inr rfl)) den_gnil))) (den_bone (den_asg (den_op opd_mod (den_callTy cd_int rfl B.int (by decide +kernel) (den_cons (den_op opd_add (den_op opd_mul (den_ix (dv 1) (den_op opd_mod (den_callTy cd_int rfl B.int (by decide +kernel) (den_cons (dv 2) den_nil)) den_int)) den_int) (dv 3)) den_nil)) den_int) (den_gsubL (W := W0) (dv 1) (den_op opd_mod (den_callTy cd_int rfl B.int (by decide +kernel) (den_cons (dv 2) den_nil)) den_int)))))
      (den_bcons (den_for po rfl (den_range2 rfl B.range (den_cons den_int (den_cons den_int den_nil))) (den_gname (i := 2) sc__law_folded.nd rfl (by first | exact Or.inl rfl | exact Or.inr rfl)) (den_bone (den_asg (den_op opd_mod (den_callTy cd_int rfl B.int (by decide +kernel) (den_cons (den_op opd_add (den_ix (dv 1) (dv 2)) (den_op opd_mul (den_ix (dv 1) (den_op opd_sub (dv 2) den_int)) den_int)) den_nil)) den_int) (den_gsubL (W := W0) (dv 1) (dv 2)))))
      (den_bone (den_ret (dv 1))))))
theorem sc__law_draw : FnScope ["m", "limit", "n", "lot", "here", "cell"] ["m", "limit"] (defScope (topS 28)) := ⟨rfl, rfl, rfl, by decide +kernel, rfl, by decide +kernel, by decide +kernel⟩
theorem ok__law_draw {P : Program} {w : World} {K : PySem.W.Frag} {mg : Str → Option Value} {base : Heap} {f : Addr} {fd : FuncData} (F : Fun K "_law_draw" "_law_draw" (topS 28) f fd) (m : mg "_law_draw" = some (.ref f)) (B : Bi mg) (c__law_mixed : Fn P w K mg base "_law_mixed" 1 2 d__law_mixed) : Fn P w K mg base "_law_draw" 2 2 d__law_draw :=
  fn_mk 1 F m sc__law_draw (F.binds fun _ _ _ _ _ _ us hl => match us, hl with | [_, _], _ => rfl) fun cdv A outer s H E hr =>
    have tk := takes_of (X := cxOf (L2.CX P w) P w K mg base ["m", "limit", "n", "lot", "here", "cell"] "_law_draw" (defScope (topS 28)) f cdv A outer s H E) rfl rfl rfl rfl
    have po := passes_of (X := cxOf (L2.CX P w) P w K mg base ["m", "limit", "n", "lot", "here", "cell"] "_law_draw" (defScope (topS 28)) f cdv A outer s H E) rfl
    (den_bcons (den_set (i := 2) sc__law_draw.nd rfl (by first | exact Or.inl rfl | exact Or.inr rfl) (den_dg (hu_of hr) (dv 0) den_str))
      (den_bcons (den_dput (hu_of hr) (dv 0) den_str (den_op opd_add (dv 2) den_int))
      (den_bcons (den_ifS (den_tcmp (opd_ne hr.units) (den_dg (hu_of hr) (dv 0) den_str) (den_lst den_nilV)) (den_bcons (den_set (i := 3) sc__law_draw.nd rfl (by first | exact Or.inl rfl | exact Or.inr rfl) (den_dg (hu_of hr) (dv 0) den_str))
      (den_bcons (den_set (i := 4) sc__law_draw.nd rfl (by first | exact Or.inl rfl | exact Or.inr rfl) (den_op opd_mod (den_callTy cd_int rfl B.int (by decide +kernel) (den_cons (dv 2) den_nil)) (den_callB cd_len rfl B.len (by decide +kernel) (den_cons (dv 3) den_nil))))
      (den_bcons (den_set (i := 5) sc__law_draw.nd rfl (by first | exact Or.inl rfl | exact Or.inr rfl) (den_ix (dv 3) (dv 4)))
      (den_bone (den_ifS (den_tcmp opd_gt (dv 5) den_int) (den_bcons (den_asg (den_op opd_fdiv (dv 5) (dv 1)) (den_gsubL (W := W0) (dv 3) (dv 4)))
      (den_bone (den_ret (den_op opd_mod (den_callTy cd_int rfl B.int (by decide +kernel) (den_cons (dv 5) den_nil)) (dv 1))))) den_bnil))))) den_bnil)
      (den_bcons (den_set (i := 3) sc__law_draw.nd rfl (by first | exact Or.inl rfl | exact Or.inr rfl) (den_dg (hu_of hr) (dv 0) den_str))
      (den_bone (den_ret (den_op opd_mod (den_callTy cd_int rfl B.int (by decide +kernel) (den_cons (den_callF c__law_mixed hr tk (den_consV (den_callF c__law_mixed hr tk (den_consV (den_op opd_add (den_ix (dv 3) (den_op opd_mod (den_callTy cd_int rfl B.int (by decide +kernel) (den_cons (dv 2) den_nil)) den_int)) (den_op opd_mul den_int (den_op opd_fdiv (dv 2) den_int))) (den_consV (dv 2) den_nilV))) (den_consV (den_op opd_add (dv 2) den_int) den_nilV))) den_nil)) (dv 1))))))))
theorem sc__law_begun : FnScope ["script", "m", "cell"] ["script"] (defScope (topS 29)) := ⟨rfl, rfl, rfl, by decide +kernel, rfl, by decide +kernel, by decide +kernel⟩
theorem ok__law_begun {P : Program} {w : World} {K : PySem.W.Frag} {mg : Str → Option Value} {base : Heap} {f : Addr} {fd : FuncData} (F : Fun K "_law_begun" "_law_begun" (topS 29) f fd) (m : mg "_law_begun" = some (.ref f)) (B : Bi mg) (c__law_folded : Fn P w K mg base "_law_folded" 1 1 d__law_folded) : Fn P w K mg base "_law_begun" 2 1 d__law_begun :=
  fn_mk 1 F m sc__law_begun (F.binds fun _ _ _ _ _ _ us hl => match us, hl with | [_], _ => rfl) fun cdv A outer s H E hr =>
    have tk := takes_of (X := cxOf (L2.CX P w) P w K mg base ["script", "m", "cell"] "_law_begun" (defScope (topS 29)) f cdv A outer s H E) rfl rfl rfl rfl
    have po := passes_of (X := cxOf (L2.CX P w) P w K mg base ["script", "m", "cell"] "_law_begun" (defScope (topS 29)) f cdv A outer s H E) rfl
    (den_bcons (den_set (i := 1) sc__law_begun.nd rfl (by first | exact Or.inl rfl | exact Or.inr rfl) (den_disp (den_ppcons den_str (den_callF c__law_folded hr tk (den_consV (dv 0) den_nilV)) (den_ppcons den_str (den_lst den_nilV) (den_ppcons den_str den_int den_ppnil)))))
      (den_bcons (den_dput (hu_of hr) (dv 1) den_str (den_lc (own := [("cell", 2)]) (.one 2) rfl sc__law_begun.nd (den_iseq (dv 0)) rfl (blkOk_by (by kernel_rfl)) (fun _ _ _ _ _ => pg_name (i := 2) sc__law_begun.nd rfl (by first | exact Or.inl rfl | exact Or.inr rfl)) (fun _ _ _ _ _ => den_noif) (fun _ _ _ _ _ => (den_if (den_tcmp opd_ge (dv 2) (den_op opd_pow den_int den_int)) (dv 2) den_int))))
      (den_bone (den_ret (dv 1)))))
theorem sc__law_each_right : FnScope ["q", "pack", "told", "number", "one", "kinds", "k"] ["q"] (defScope (topS 30)) := ⟨rfl, rfl, rfl, by decide +kernel, rfl, by decide +kernel, by decide +kernel⟩
theorem ok__law_each_right {P : Program} {w : World} {K : PySem.W.Frag} {mg : Str → Option Value} {base : Heap} {f : Addr} {fd : FuncData} (F : Fun K "_law_each_right" "_law_each_right" (topS 30) f fd) (m : mg "_law_each_right" = some (.ref f)) (B : Bi mg) (XA : XAll K mg) (x_BadChoice : XC1 P K mg "BadChoice") (x_BadText : XC1 P K mg "BadText") (x_NothingLeft : XC0 P K mg "NothingLeft") (x_Endless : XC0 P K mg "Endless") (x_BadWord : XC1 P K mg "BadWord") (x_BadNumber : XC1 P K mg "BadNumber") (x_Unlike : XC0 P K mg "Unlike") (xk_BadChoice : XCK P K mg "BadChoice" "value") (xk_BadText : XCK P K mg "BadText" "place") (k_BadChoice : ∃ C, mg "BadChoice" = some (.ref C)) (k_BadText : ∃ C, mg "BadText" = some (.ref C)) (k_NothingLeft : ∃ C, mg "NothingLeft" = some (.ref C)) (k_Endless : ∃ C, mg "Endless" = some (.ref C)) (k_BadWord : ∃ C, mg "BadWord" = some (.ref C)) (k_BadNumber : ∃ C, mg "BadNumber" = some (.ref C)) (k_Unlike : ∃ C, mg "Unlike" = some (.ref C)) : FnN P w K mg base "_law_each_right" 2 1 d2_law_each_right :=
  fng_mk 1 F m sc__law_each_right (F.binds fun _ _ _ _ _ _ us hl => match us, hl with | [_], _ => rfl) fun cdv A outer s H E hr hG =>
    have tk := takes_of (X := cxOf (L2.CX P w) P w K mg base ["q", "pack", "told", "number", "one", "kinds", "k"] "_law_each_right" (defScope (topS 30)) f cdv A outer s H E) rfl rfl rfl rfl
    have po := passes_of (X := cxOf (L2.CX P w) P w K mg base ["q", "pack", "told", "number", "one", "kinds", "k"] "_law_each_right" (defScope (topS 30)) f cdv A outer s H E) rfl
    (den_bcons (den_set (i := 1) sc__law_each_right.nd rfl (by first | exact Or.inl rfl | exact Or.inr rfl) (den_lst (den_consV (den_mk1 x_BadChoice B.super hr (dv 0)) (den_consV (den_mk1 x_BadText B.super hr (dv 0)) (den_consV (den_mk0 x_NothingLeft B.super hr) (den_consV (den_mk0 x_Endless B.super hr) (den_consV (den_mk1 x_BadWord B.super hr (dv 0)) (den_consV (den_mk1 x_BadNumber B.super hr (dv 0)) (den_consV (den_mk0 x_Unlike B.super hr) den_nilV)))))))))
      (den_bcons (den_set (i := 2) sc__law_each_right.nd rfl (by first | exact Or.inl rfl | exact Or.inr rfl) (den_lst (den_consV (den_fld XA (den_ix (dv 1) den_int)) (den_consV (den_fld XA (den_ix (dv 1) den_int)) (den_consV (den_fld XA (den_mkK xk_BadChoice B.super hr (dv 0))) (den_consV (den_fld XA (den_mkK xk_BadText B.super hr (dv 0))) den_nilV))))))
      (den_bcons (den_ifS (den_tcmp (opd_ne hr.units) (den_lc (own := [("one", 4)]) (.one 4) rfl sc__law_each_right.nd (den_iseq (dv 2)) rfl (blkOk_by (by kernel_rfl)) (fun _ _ _ _ _ => pg_name (i := 4) sc__law_each_right.nd rfl (by first | exact Or.inl rfl | exact Or.inr rfl)) (fun _ _ _ _ _ => den_oneif (den_tcmp (opd_ne hr.units) (den_callB (cd_reprE hr.units hG) rfl B.repr (by decide +kernel) (den_cons (dv 4) den_nil)) (den_callB (cd_reprE hr.units hG) rfl B.repr (by decide +kernel) (den_cons (dv 0) den_nil)))) (fun _ _ _ _ _ => (dv 4))) (den_lst den_nilV)) (den_bone (den_ret den_bl)) den_bnil)
      (den_bcons (den_for po rfl (den_enum rfl B.enumerate (den_cons (dv 1) den_nil)) (den_gtup rfl (den_gcons (den_gname (i := 3) sc__law_each_right.nd rfl (by first | exact Or.inl rfl | exact Or.inr rfl)) (den_gcons (den_gname (i := 4) sc__law_each_right.nd rfl (by first | exact Or.inl rfl | exact Or.inr rfl)) den_gnil))) (den_bcons (den_set (i := 5) sc__law_each_right.nd rfl (by first | exact Or.inl rfl | exact Or.inr rfl) (den_lst (den_consV (den_isX XA k_BadChoice rfl B.isinstance rfl (dv 4)) (den_consV (den_isX XA k_BadText rfl B.isinstance rfl (dv 4)) (den_consV (den_isX XA k_NothingLeft rfl B.isinstance rfl (dv 4)) den_nilV)))))
      (den_bcons (den_set (i := 5) sc__law_each_right.nd rfl (by first | exact Or.inl rfl | exact Or.inr rfl) (den_op opd_add (dv 5) (den_lst (den_consV (den_isX XA k_Endless rfl B.isinstance rfl (dv 4)) (den_consV (den_isX XA k_BadWord rfl B.isinstance rfl (dv 4)) (den_consV (den_isX XA k_BadNumber rfl B.isinstance rfl (dv 4)) den_nilV))))))
      (den_bcons (den_expr (den_append (dv 5) (den_isX XA k_Unlike rfl B.isinstance rfl (dv 4))))
      (den_bcons (den_ifS (PW.pt (den_or (den_tcmp (opd_ne hr.units) (dv 5) (den_lc (own := [("k", 6)]) (.one 6) rfl sc__law_each_right.nd (den_range1 rfl B.range (den_cons den_int den_nil)) rfl (blkOk_by (by kernel_rfl)) (fun _ _ _ _ _ => pg_name (i := 6) sc__law_each_right.nd rfl (by first | exact Or.inl rfl | exact Or.inr rfl)) (fun _ _ _ _ _ => den_noif) (fun _ _ _ _ _ => (den_cmp (opd_eq hr.units) (dv 6) (dv 3))))) (den_or1 (den_tnot (den_tval (den_isXB XA rfl B.isinstance rfl (dv 4))))))) (den_bone (den_ret den_bl)) den_bnil)
      (den_bone (den_ifS (den_tcmp (opd_ne hr.units) (den_lst (den_consV (den_isXV XA rfl B.isinstance rfl B.valueError (dv 4)) (den_consV (den_isXO XA rfl B.isinstance rfl B.overflowError (dv 4)) den_nilV))) (den_lst (den_consV den_bl (den_consV den_bl den_nilV)))) (den_bone (den_ret den_bl)) den_bnil)))))))
      (den_bone (den_ret den_bl))))))
theorem sc_law : FnScope ["script", "m", "web", "own", "here", "odd"] ["script"] (defScope (topS 31)) := ⟨rfl, rfl, rfl, by decide +kernel, rfl, by decide +kernel, by decide +kernel⟩
theorem ok_law {P : Program} {w : World} {K : PySem.W.Frag} {mg : Str → Option Value} {base : Heap} {f : Addr} {fd : FuncData} (F : Fun K "law" "law" (topS 31) f fd) (B : Bi mg) (T2 : TwoC K mg "Bonds" "Bench") (c__law_begun : Fn P w K mg base "_law_begun" 2 1 d__law_begun) (c__law_draw : Fn P w K mg base "_law_draw" 2 2 d__law_draw) (c__law_each_right : FnN P w K mg base "_law_each_right" 2 1 d2_law_each_right) (c_Bonds___init__ : Mkr P w K mg base "Bonds" 5 2 d_Bonds___init__) (c_Bench___init__ : Mkr P w K mg base "Bench" 4 3 d_Bench___init__) (c_Bench___eq__ : Mt P w K mg base "Bench" "__eq__" 3 2 d_Bench___eq__X) (c_Bonds___eq__ : Mt P w K mg base "Bonds" "__eq__" 1 2 d_Bonds___eq__X) : FnG P w K mg base 7 f fd ["script"] (spF K mg 1 d_law) :=
  fng_ok F sc_law fun cdv A outer s H E hr hG =>
    have tk := takes_of (X := cxOf (L2.CX P w) P w K mg base ["script", "m", "web", "own", "here", "odd"] "law" (defScope (topS 31)) f cdv A outer s H E) rfl rfl rfl rfl
    have po := passes_of (X := cxOf (L2.CX P w) P w K mg base ["script", "m", "web", "own", "here", "odd"] "law" (defScope (topS 31)) f cdv A outer s H E) rfl
    (den_bcons (den_set (i := 1) sc_law.nd rfl (by first | exact Or.inl rfl | exact Or.inr rfl) (den_callF c__law_begun hr tk (den_consV (dv 0) den_nilV)))
      (den_bcons (den_ifS (den_tnot (den_tval (den_callN c__law_each_right hr hG tk (den_consV (den_ix (den_lst (den_consV den_non (den_consV den_int (den_consV den_int (den_consV (den_tup (den_consV den_int (den_consV den_int den_nilV))) (den_consV den_str (den_consV (den_lst (den_consV den_int den_nilV)) (den_consV den_d0 (den_consV (den_op opd_pow den_int den_int) den_nilV))))))))) (den_callF c__law_draw hr tk (den_consV (dv 1) (den_consV den_int den_nilV)))) den_nilV)))) (den_bone (den_ret den_bl)) den_bnil)
      (den_bcons (by first | exact den_par2 ((den_consV (den_make c_Bonds___init__ hr tk wc_E (den_consV (den_lst (den_consV (den_lst (den_consV den_int (den_consV den_int den_nilV))) (den_consV (den_lst (den_consV den_int (den_consV den_int den_nilV))) den_nilV))) den_nilV)) (den_consV (den_ix (den_lst (den_consV (den_tup den_nilV) (den_consV (den_tup (den_consV den_int den_nilV)) (den_consV (den_tup (den_consV den_int (den_consV den_int den_nilV))) (den_consV (den_tup (den_consV den_int (den_consV den_int den_nilV))) den_nilV))))) (den_callF c__law_draw hr tk (den_consV (dv 1) (den_consV den_int den_nilV)))) den_nilV))) sc_law.nd rfl rfl | exact den_parG2 (den_tup (den_consV (den_make c_Bonds___init__ hr tk wc_E (den_consV (den_lst (den_consV (den_lst (den_consV den_int (den_consV den_int den_nilV))) (den_consV (den_lst (den_consV den_int (den_consV den_int den_nilV))) den_nilV))) den_nilV)) (den_consV (den_ix (den_lst (den_consV (den_tup den_nilV) (den_consV (den_tup (den_consV den_int den_nilV)) (den_consV (den_tup (den_consV den_int (den_consV den_int den_nilV))) (den_consV (den_tup (den_consV den_int (den_consV den_int den_nilV))) den_nilV))))) (den_callF c__law_draw hr tk (den_consV (dv 1) (den_consV den_int den_nilV)))) den_nilV))) (den_gtup rfl (den_gcons (den_gname (i := 2) sc_law.nd rfl (by first | exact Or.inl rfl | exact Or.inr rfl)) (den_gcons (den_gname (i := 3) sc_law.nd rfl (by first | exact Or.inl rfl | exact Or.inr rfl)) den_gnil))))
      (den_bcons (den_set (i := 4) sc_law.nd rfl (by first | exact Or.inl rfl | exact Or.inr rfl) (den_make c_Bench___init__ hr tk wc_E (den_consV (dv 2) (den_consV (dv 3) den_nilV))))
      (den_bcons (den_set (i := 5) sc_law.nd rfl (by first | exact Or.inl rfl | exact Or.inr rfl) (den_ix (den_lst (den_consV den_non (den_consV (dv 3) (den_consV (den_callTy cd_list rfl B.list (by decide +kernel) (den_cons (dv 3) den_nil)) (den_consV (dv 2) (den_consV den_int (den_consV den_d0 (den_consV den_str den_nilV)))))))) (den_callF c__law_draw hr tk (den_consV (dv 1) (den_consV den_int den_nilV)))))
      (den_bone (den_ret (den_cmp (opd_eq hr.units) (den_lst (den_consV (den_eqX T2 c_Bonds___eq__ c_Bench___eq__ hr tk wc_E (dv 4) (dv 5)) (den_consV (den_eqX T2 c_Bonds___eq__ c_Bench___eq__ hr tk wc_E (dv 5) (dv 4)) (den_consV (den_neX T2 c_Bench___eq__ hr tk wc_E (dv 4) (den_make c_Bench___init__ hr tk wc_E (den_consV (dv 2) (den_consV (den_callTy cd_list rfl B.list (by decide +kernel) (den_cons (dv 3) den_nil)) den_nilV)))) den_nilV)))) (den_op opd_mul (den_lst (den_consV den_bl den_nilV)) den_int)))))))))
theorem all_mk {P q : Program} {w : World} {K : PySem.W.Frag} {h : Heap} {mg : Str → Option Value} {fa : Addr} (X : K.In h) (G : h.Ns mainGlobals mg) (hfa : mg "law" = some (.ref fa))
    {p_KINDS : Addr} {n_KINDS : Nat} {d_KINDS : Option Addr} {s_KINDS : Array (Option Value)} {t_KINDS0 : Tok} {t_KINDS1 : Tok} {t_KINDS2 : Tok} {t_KINDS3 : Tok} {t_KINDS4 : Tok}
    {t_MOST_LETTERS : Tok}
    {t_MOST_WORD : Tok}
    {C_BondError : Addr}
    {C_BadBonds : Addr}
    {C_BadWord : Addr}
    {C_BadNumber : Addr}
    {C_Unlike : Addr}
    {C_BadChoice : Addr}
    {C_BadText : Addr}
    {C_NothingLeft : Addr}
    {C_Endless : Addr}
    {C_TooGreat : Addr}
    {fI_BadBonds cda_BadBonds cc_BadBonds : Addr} {oc_BadBonds kV_BadBonds doc_BadBonds pm_BadBonds ct_BadBonds : Value} {od_BadBonds an_BadBonds : Option Addr} {osl_BadBonds : Array (Option Value)} {vs_BadBonds : Array Value} {ccl_BadBonds cl_BadBonds : Value} {cdd_BadBonds cld_BadBonds : Option Addr} {ccs_BadBonds csl_BadBonds : Array (Option Value)} {tf_BadBonds : Tok}
    {fI_TooGreat cda_TooGreat cc_TooGreat : Addr} {oc_TooGreat kV_TooGreat doc_TooGreat pm_TooGreat ct_TooGreat : Value} {od_TooGreat an_TooGreat : Option Addr} {osl_TooGreat : Array (Option Value)} {vs_TooGreat : Array Value} {ccl_TooGreat cl_TooGreat : Value} {cdd_TooGreat cld_TooGreat : Option Addr} {ccs_TooGreat csl_TooGreat : Array (Option Value)} {tf_TooGreat : Tok}
    {fI_BadWord cda_BadWord cc_BadWord : Addr} {oc_BadWord kV_BadWord doc_BadWord pm_BadWord ct_BadWord : Value} {od_BadWord an_BadWord : Option Addr} {osl_BadWord : Array (Option Value)} {vs_BadWord : Array Value} {ccl_BadWord cl_BadWord : Value} {cdd_BadWord cld_BadWord : Option Addr} {ccs_BadWord csl_BadWord : Array (Option Value)} {tf_BadWord : Tok}
    {fI_BadChoice cda_BadChoice cc_BadChoice : Addr} {oc_BadChoice kV_BadChoice doc_BadChoice pm_BadChoice ct_BadChoice : Value} {od_BadChoice an_BadChoice : Option Addr} {osl_BadChoice : Array (Option Value)} {vs_BadChoice : Array Value} {ccl_BadChoice cl_BadChoice : Value} {cdd_BadChoice cld_BadChoice : Option Addr} {ccs_BadChoice csl_BadChoice : Array (Option Value)} {tf_BadChoice : Tok}
    {fI_BadText cda_BadText cc_BadText : Addr} {oc_BadText kV_BadText doc_BadText pm_BadText ct_BadText : Value} {od_BadText an_BadText : Option Addr} {osl_BadText : Array (Option Value)} {vs_BadText : Array Value} {ccl_BadText cl_BadText : Value} {cdd_BadText cld_BadText : Option Addr} {ccs_BadText csl_BadText : Array (Option Value)} {tf_BadText : Tok}
    {fI_NothingLeft cda_NothingLeft cc_NothingLeft : Addr} {oc_NothingLeft kV_NothingLeft doc_NothingLeft pm_NothingLeft ct_NothingLeft : Value} {od_NothingLeft an_NothingLeft : Option Addr} {osl_NothingLeft : Array (Option Value)} {vs_NothingLeft : Array Value} {ccl_NothingLeft cl_NothingLeft : Value} {cdd_NothingLeft cld_NothingLeft : Option Addr} {ccs_NothingLeft csl_NothingLeft : Array (Option Value)} {tf_NothingLeft : Tok}
    {fI_Endless cda_Endless cc_Endless : Addr} {oc_Endless kV_Endless doc_Endless pm_Endless ct_Endless : Value} {od_Endless an_Endless : Option Addr} {osl_Endless : Array (Option Value)} {vs_Endless : Array Value} {ccl_Endless cl_Endless : Value} {cdd_Endless cld_Endless : Option Addr} {ccs_Endless csl_Endless : Array (Option Value)} {tf_Endless : Tok}
    {fI_BadNumber cda_BadNumber cc_BadNumber : Addr} {oc_BadNumber kV_BadNumber doc_BadNumber pm_BadNumber ct_BadNumber : Value} {od_BadNumber an_BadNumber : Option Addr} {osl_BadNumber : Array (Option Value)} {vs_BadNumber : Array Value} {ccl_BadNumber cl_BadNumber : Value} {cdd_BadNumber cld_BadNumber : Option Addr} {ccs_BadNumber csl_BadNumber : Array (Option Value)} {tf_BadNumber : Tok}
    {fI_Unlike cda_Unlike cc_Unlike : Addr} {oc_Unlike kV_Unlike doc_Unlike pm_Unlike ct_Unlike : Value} {od_Unlike an_Unlike : Option Addr} {osl_Unlike : Array (Option Value)} {vs_Unlike : Array Value} {ccl_Unlike cl_Unlike : Value} {cdd_Unlike cld_Unlike : Option Addr} {ccs_Unlike csl_Unlike : Array (Option Value)} {tf_Unlike : Tok}
    {C p : Addr}
    {C_Bench : Addr}
    {f_is_whole : Addr} {od_is_whole an_is_whole : Option Addr} {sl_is_whole : Array (Option Value)} {oc_is_whole kV_is_whole dc_is_whole pm_is_whole ct_is_whole : Value}
    {cd_is_whole : Value}
    {f_is_among : Addr} {od_is_among an_is_among : Option Addr} {sl_is_among : Array (Option Value)} {oc_is_among kV_is_among dc_is_among pm_is_among ct_is_among : Value}
    {cd_is_among : Value}
    {f_is_list : Addr} {od_is_list an_is_list : Option Addr} {sl_is_list : Array (Option Value)} {oc_is_list kV_is_list dc_is_list pm_is_list ct_is_list : Value}
    {cd_is_list : Value}
    {f_is_bond : Addr} {od_is_bond an_is_bond : Option Addr} {sl_is_bond : Array (Option Value)} {oc_is_bond kV_is_bond dc_is_bond pm_is_bond ct_is_bond : Value}
    {cd_is_bond : Value}
    {f_need_rows : Addr} {od_need_rows an_need_rows : Option Addr} {sl_need_rows : Array (Option Value)} {oc_need_rows kV_need_rows dc_need_rows pm_need_rows ct_need_rows : Value}
    {cd_need_rows : Value}
    {f_Bonds___init__ : Addr} {od_Bonds___init__ an_Bonds___init__ : Option Addr} {sl_Bonds___init__ : Array (Option Value)} {oc_Bonds___init__ kV_Bonds___init__ dc_Bonds___init__ pm_Bonds___init__ ct_Bonds___init__ : Value}
    {cd_Bonds___init__ : Value}
    {f_Bonds___len__ : Addr} {od_Bonds___len__ an_Bonds___len__ : Option Addr} {sl_Bonds___len__ : Array (Option Value)} {oc_Bonds___len__ kV_Bonds___len__ dc_Bonds___len__ pm_Bonds___len__ ct_Bonds___len__ : Value}
    {cd_Bonds___len__ : Value}
    {f_Bonds___eq__ : Addr} {od_Bonds___eq__ an_Bonds___eq__ : Option Addr} {sl_Bonds___eq__ : Array (Option Value)} {oc_Bonds___eq__ kV_Bonds___eq__ dc_Bonds___eq__ pm_Bonds___eq__ ct_Bonds___eq__ : Value}
    {cd_Bonds___eq__ : Value}
    {f_need_word : Addr} {od_need_word an_need_word : Option Addr} {sl_need_word : Array (Option Value)} {oc_need_word kV_need_word dc_need_word pm_need_word ct_need_word : Value}
    {cd_need_word : Value}
    {f_Bench___init__ : Addr} {od_Bench___init__ an_Bench___init__ : Option Addr} {sl_Bench___init__ : Array (Option Value)} {oc_Bench___init__ kV_Bench___init__ dc_Bench___init__ pm_Bench___init__ ct_Bench___init__ : Value}
    {cd_Bench___init__ : Value}
    {f_Bench_deeds : Addr} {od_Bench_deeds an_Bench_deeds : Option Addr} {sl_Bench_deeds : Array (Option Value)} {oc_Bench_deeds kV_Bench_deeds dc_Bench_deeds pm_Bench_deeds ct_Bench_deeds : Value}
    {cd_Bench_deeds : Value}
    {f_Bench___eq__ : Addr} {od_Bench___eq__ an_Bench___eq__ : Option Addr} {sl_Bench___eq__ : Array (Option Value)} {oc_Bench___eq__ kV_Bench___eq__ dc_Bench___eq__ pm_Bench___eq__ ct_Bench___eq__ : Value}
    {cd_Bench___eq__ : Value}
    {f__law_mixed : Addr} {od__law_mixed an__law_mixed : Option Addr} {sl__law_mixed : Array (Option Value)} {oc__law_mixed kV__law_mixed dc__law_mixed pm__law_mixed ct__law_mixed : Value}
    {cd__law_mixed : Value}
    {f__law_folded : Addr} {od__law_folded an__law_folded : Option Addr} {sl__law_folded : Array (Option Value)} {oc__law_folded kV__law_folded dc__law_folded pm__law_folded ct__law_folded : Value}
    {cd__law_folded : Value}
    {f__law_draw : Addr} {od__law_draw an__law_draw : Option Addr} {sl__law_draw : Array (Option Value)} {oc__law_draw kV__law_draw dc__law_draw pm__law_draw ct__law_draw : Value}
    {cd__law_draw : Value}
    {f__law_begun : Addr} {od__law_begun an__law_begun : Option Addr} {sl__law_begun : Array (Option Value)} {oc__law_begun kV__law_begun dc__law_begun pm__law_begun ct__law_begun : Value}
    {cd__law_begun : Value}
    {f__law_each_right : Addr} {od__law_each_right an__law_each_right : Option Addr} {sl__law_each_right : Array (Option Value)} {oc__law_each_right kV__law_each_right dc__law_each_right pm__law_each_right ct__law_each_right : Value}
    {cd__law_each_right : Value}
    {f_law : Addr} {od_law an_law : Option Addr} {sl_law : Array (Option Value)} {oc_law kV_law dc_law pm_law ct_law : Value}
    {cd_law : Value}
    (z_len : PySem.W.nsIn K mainGlobals "len" = some none)
    (z_tuple : PySem.W.nsIn K mainGlobals "tuple" = some none)
    (z_list : PySem.W.nsIn K mainGlobals "list" = some none)
    (z_int : PySem.W.nsIn K mainGlobals "int" = some none)
    (z_range : PySem.W.nsIn K mainGlobals "range" = some none)
    (z_enumerate : PySem.W.nsIn K mainGlobals "enumerate" = some none)
    (z_zip : PySem.W.nsIn K mainGlobals "zip" = some none)
    (z_isinstance : PySem.W.nsIn K mainGlobals "isinstance" = some none)
    (z_all : PySem.W.nsIn K mainGlobals "all" = some none)
    (z_any : PySem.W.nsIn K mainGlobals "any" = some none)
    (z_sum : PySem.W.nsIn K mainGlobals "sum" = some none)
    (z_min : PySem.W.nsIn K mainGlobals "min" = some none)
    (z_max : PySem.W.nsIn K mainGlobals "max" = some none)
    (z_sorted : PySem.W.nsIn K mainGlobals "sorted" = some none)
    (z_repr : PySem.W.nsIn K mainGlobals "repr" = some none)
    (z_str : PySem.W.nsIn K mainGlobals "str" = some none)
    (z_set : PySem.W.nsIn K mainGlobals "set" = some none)
    (z_bool : PySem.W.nsIn K mainGlobals "bool" = some none)
    (z_super : PySem.W.nsIn K mainGlobals "super" = some none)
    (z_ValueError : PySem.W.nsIn K mainGlobals "ValueError" = some none)
    (z_OverflowError : PySem.W.nsIn K mainGlobals "OverflowError" = some none)
    (a_KINDS : PySem.W.nsIn K mainGlobals "KINDS" = some (some (.ref p_KINDS)))
    (l_KINDS : K.lookup p_KINDS = some ⟨.type "tuple", d_KINDS, .seq #[.int 2 t_KINDS0, .int 3 t_KINDS1, .int 4 t_KINDS2, .int 6 t_KINDS3, .int 0 t_KINDS4] n_KINDS, s_KINDS⟩)
    (a_MOST_LETTERS : PySem.W.nsIn K mainGlobals "MOST_LETTERS" = some (some (.int 6 t_MOST_LETTERS)))
    (a_MOST_WORD : PySem.W.nsIn K mainGlobals "MOST_WORD" = some (some (.int 60 t_MOST_WORD)))
    (a_BondError : PySem.W.nsIn K mainGlobals "BondError" = some (some (.ref C_BondError)))
    (a_BadBonds : PySem.W.nsIn K mainGlobals "BadBonds" = some (some (.ref C_BadBonds)))
    (a_BadWord : PySem.W.nsIn K mainGlobals "BadWord" = some (some (.ref C_BadWord)))
    (a_BadNumber : PySem.W.nsIn K mainGlobals "BadNumber" = some (some (.ref C_BadNumber)))
    (a_Unlike : PySem.W.nsIn K mainGlobals "Unlike" = some (some (.ref C_Unlike)))
    (a_BadChoice : PySem.W.nsIn K mainGlobals "BadChoice" = some (some (.ref C_BadChoice)))
    (a_BadText : PySem.W.nsIn K mainGlobals "BadText" = some (some (.ref C_BadText)))
    (a_NothingLeft : PySem.W.nsIn K mainGlobals "NothingLeft" = some (some (.ref C_NothingLeft)))
    (a_Endless : PySem.W.nsIn K mainGlobals "Endless" = some (some (.ref C_Endless)))
    (a_TooGreat : PySem.W.nsIn K mainGlobals "TooGreat" = some (some (.ref C_TooGreat)))
    (z_BadRow : PySem.W.nsIn K mainGlobals "BadRow" = some none)
    (z_BadDeed : PySem.W.nsIn K mainGlobals "BadDeed" = some none)
    (xall : ((([("BadBonds", some C_BadBonds), ("BadWord", some C_BadWord), ("BadRow", none), ("BadDeed", none), ("BadNumber", some C_BadNumber), ("Unlike", some C_Unlike), ("BadChoice", some C_BadChoice), ("BadText", some C_BadText), ("NothingLeft", some C_NothingLeft), ("Endless", some C_Endless), ("TooGreat", some C_TooGreat)] : List (Str × Option Addr)).filterMap fun p => p.2.map fun a => (p.1, a)).all (xoneB K (([("BadBonds", some C_BadBonds), ("BadWord", some C_BadWord), ("BadRow", none), ("BadDeed", none), ("BadNumber", some C_BadNumber), ("Unlike", some C_Unlike), ("BadChoice", some C_BadChoice), ("BadText", some C_BadText), ("NothingLeft", some C_NothingLeft), ("Endless", some C_Endless), ("TooGreat", some C_TooGreat)] : List (Str × Option Addr)).filterMap fun p => p.2.map fun a => (p.1, a)) C_BondError C_TooGreat)) = true)
    (xb_BadBonds : xB K C_BadBonds false = true)
    (xi_BadBonds : PySem.W.findIn K (.ref C_BadBonds) "__init__" = some (some (.ref fI_BadBonds)))
    (xl_BadBonds : K.lookup fI_BadBonds = some ⟨oc_BadBonds, od_BadBonds, .func (PySem.W.ksFn "__init__" "BadBonds.__init__" (defArgs (inClass (topS 3) 0)) (defBody (inClass (topS 3) 0)) (defScope (inClass (topS 3) 0)) .none kV_BadBonds doc_BadBonds pm_BadBonds an_BadBonds (.ref cda_BadBonds) ct_BadBonds cc_BadBonds), osl_BadBonds⟩)
    (xc_BadBonds : PySem.W.codeIn K (.ref cda_BadBonds) "BadBonds.__init__" = true)
    (xd_BadBonds : K.lookup cda_BadBonds = some ⟨ccl_BadBonds, cdd_BadBonds, .fields vs_BadBonds, ccs_BadBonds⟩)
    (xv_BadBonds : vs_BadBonds[2]? = some (.str P.main.file tf_BadBonds))
    (xe_BadBonds : K.lookup cc_BadBonds = some ⟨cl_BadBonds, cld_BadBonds, .cell (some (.ref C_BadBonds)), csl_BadBonds⟩)
    (xf_BadBonds : PySem.W.isFn K (.ref fI_BadBonds) = true)
    (xs_BadBonds : xscB P (defArgs (inClass (topS 3) 0)) (defScope (inClass (topS 3) 0)) = true)
    (xg_BadBonds : PySem.W.findIn K (.ref C_BadBonds) "place" = some none)
    (xb_TooGreat : xB K C_TooGreat true = true)
    (xi_TooGreat : PySem.W.findIn K (.ref C_TooGreat) "__init__" = some (some (.ref fI_TooGreat)))
    (xl_TooGreat : K.lookup fI_TooGreat = some ⟨oc_TooGreat, od_TooGreat, .func (PySem.W.ksFn "__init__" "TooGreat.__init__" (defArgs (inClass (topS 11) 0)) (defBody (inClass (topS 11) 0)) (defScope (inClass (topS 11) 0)) .none kV_TooGreat doc_TooGreat pm_TooGreat an_TooGreat (.ref cda_TooGreat) ct_TooGreat cc_TooGreat), osl_TooGreat⟩)
    (xc_TooGreat : PySem.W.codeIn K (.ref cda_TooGreat) "TooGreat.__init__" = true)
    (xd_TooGreat : K.lookup cda_TooGreat = some ⟨ccl_TooGreat, cdd_TooGreat, .fields vs_TooGreat, ccs_TooGreat⟩)
    (xv_TooGreat : vs_TooGreat[2]? = some (.str P.main.file tf_TooGreat))
    (xe_TooGreat : K.lookup cc_TooGreat = some ⟨cl_TooGreat, cld_TooGreat, .cell (some (.ref C_TooGreat)), csl_TooGreat⟩)
    (xf_TooGreat : PySem.W.isFn K (.ref fI_TooGreat) = true)
    (xs_TooGreat : xscB P (defArgs (inClass (topS 11) 0)) (defScope (inClass (topS 11) 0)) = true)
    (xg_TooGreat : PySem.W.findIn K (.ref C_TooGreat) "most" = some none)
    (xb_BadWord : xB K C_BadWord false = true)
    (xi_BadWord : PySem.W.findIn K (.ref C_BadWord) "__init__" = some (some (.ref fI_BadWord)))
    (xl_BadWord : K.lookup fI_BadWord = some ⟨oc_BadWord, od_BadWord, .func (PySem.W.ksFn "__init__" "BadWord.__init__" (defArgs (inClass (topS 4) 0)) (defBody (inClass (topS 4) 0)) (defScope (inClass (topS 4) 0)) .none kV_BadWord doc_BadWord pm_BadWord an_BadWord (.ref cda_BadWord) ct_BadWord cc_BadWord), osl_BadWord⟩)
    (xc_BadWord : PySem.W.codeIn K (.ref cda_BadWord) "BadWord.__init__" = true)
    (xd_BadWord : K.lookup cda_BadWord = some ⟨ccl_BadWord, cdd_BadWord, .fields vs_BadWord, ccs_BadWord⟩)
    (xv_BadWord : vs_BadWord[2]? = some (.str P.main.file tf_BadWord))
    (xe_BadWord : K.lookup cc_BadWord = some ⟨cl_BadWord, cld_BadWord, .cell (some (.ref C_BadWord)), csl_BadWord⟩)
    (xf_BadWord : PySem.W.isFn K (.ref fI_BadWord) = true)
    (xs_BadWord : xscB P (defArgs (inClass (topS 4) 0)) (defScope (inClass (topS 4) 0)) = true)
    (xg_BadWord : PySem.W.findIn K (.ref C_BadWord) "place" = some none)
    (xb_BadChoice : xB K C_BadChoice false = true)
    (xi_BadChoice : PySem.W.findIn K (.ref C_BadChoice) "__init__" = some (some (.ref fI_BadChoice)))
    (xl_BadChoice : K.lookup fI_BadChoice = some ⟨oc_BadChoice, od_BadChoice, .func (PySem.W.ksFn "__init__" "BadChoice.__init__" (defArgs (inClass (topS 7) 0)) (defBody (inClass (topS 7) 0)) (defScope (inClass (topS 7) 0)) .none kV_BadChoice doc_BadChoice pm_BadChoice an_BadChoice (.ref cda_BadChoice) ct_BadChoice cc_BadChoice), osl_BadChoice⟩)
    (xc_BadChoice : PySem.W.codeIn K (.ref cda_BadChoice) "BadChoice.__init__" = true)
    (xd_BadChoice : K.lookup cda_BadChoice = some ⟨ccl_BadChoice, cdd_BadChoice, .fields vs_BadChoice, ccs_BadChoice⟩)
    (xv_BadChoice : vs_BadChoice[2]? = some (.str P.main.file tf_BadChoice))
    (xe_BadChoice : K.lookup cc_BadChoice = some ⟨cl_BadChoice, cld_BadChoice, .cell (some (.ref C_BadChoice)), csl_BadChoice⟩)
    (xf_BadChoice : PySem.W.isFn K (.ref fI_BadChoice) = true)
    (xs_BadChoice : xscB P (defArgs (inClass (topS 7) 0)) (defScope (inClass (topS 7) 0)) = true)
    (xg_BadChoice : PySem.W.findIn K (.ref C_BadChoice) "value" = some none)
    (xb_BadText : xB K C_BadText false = true)
    (xi_BadText : PySem.W.findIn K (.ref C_BadText) "__init__" = some (some (.ref fI_BadText)))
    (xl_BadText : K.lookup fI_BadText = some ⟨oc_BadText, od_BadText, .func (PySem.W.ksFn "__init__" "BadText.__init__" (defArgs (inClass (topS 8) 0)) (defBody (inClass (topS 8) 0)) (defScope (inClass (topS 8) 0)) .none kV_BadText doc_BadText pm_BadText an_BadText (.ref cda_BadText) ct_BadText cc_BadText), osl_BadText⟩)
    (xc_BadText : PySem.W.codeIn K (.ref cda_BadText) "BadText.__init__" = true)
    (xd_BadText : K.lookup cda_BadText = some ⟨ccl_BadText, cdd_BadText, .fields vs_BadText, ccs_BadText⟩)
    (xv_BadText : vs_BadText[2]? = some (.str P.main.file tf_BadText))
    (xe_BadText : K.lookup cc_BadText = some ⟨cl_BadText, cld_BadText, .cell (some (.ref C_BadText)), csl_BadText⟩)
    (xf_BadText : PySem.W.isFn K (.ref fI_BadText) = true)
    (xs_BadText : xscB P (defArgs (inClass (topS 8) 0)) (defScope (inClass (topS 8) 0)) = true)
    (xg_BadText : PySem.W.findIn K (.ref C_BadText) "place" = some none)
    (xb_NothingLeft : xB K C_NothingLeft false = true)
    (xi_NothingLeft : PySem.W.findIn K (.ref C_NothingLeft) "__init__" = some (some (.ref fI_NothingLeft)))
    (xl_NothingLeft : K.lookup fI_NothingLeft = some ⟨oc_NothingLeft, od_NothingLeft, .func (PySem.W.ksFn "__init__" "NothingLeft.__init__" (defArgs (inClass (topS 9) 0)) (defBody (inClass (topS 9) 0)) (defScope (inClass (topS 9) 0)) .none kV_NothingLeft doc_NothingLeft pm_NothingLeft an_NothingLeft (.ref cda_NothingLeft) ct_NothingLeft cc_NothingLeft), osl_NothingLeft⟩)
    (xc_NothingLeft : PySem.W.codeIn K (.ref cda_NothingLeft) "NothingLeft.__init__" = true)
    (xd_NothingLeft : K.lookup cda_NothingLeft = some ⟨ccl_NothingLeft, cdd_NothingLeft, .fields vs_NothingLeft, ccs_NothingLeft⟩)
    (xv_NothingLeft : vs_NothingLeft[2]? = some (.str P.main.file tf_NothingLeft))
    (xe_NothingLeft : K.lookup cc_NothingLeft = some ⟨cl_NothingLeft, cld_NothingLeft, .cell (some (.ref C_NothingLeft)), csl_NothingLeft⟩)
    (xf_NothingLeft : PySem.W.isFn K (.ref fI_NothingLeft) = true)
    (xs_NothingLeft : xscB P (defArgs (inClass (topS 9) 0)) (defScope (inClass (topS 9) 0)) = true)
    (xb_Endless : xB K C_Endless false = true)
    (xi_Endless : PySem.W.findIn K (.ref C_Endless) "__init__" = some (some (.ref fI_Endless)))
    (xl_Endless : K.lookup fI_Endless = some ⟨oc_Endless, od_Endless, .func (PySem.W.ksFn "__init__" "Endless.__init__" (defArgs (inClass (topS 10) 0)) (defBody (inClass (topS 10) 0)) (defScope (inClass (topS 10) 0)) .none kV_Endless doc_Endless pm_Endless an_Endless (.ref cda_Endless) ct_Endless cc_Endless), osl_Endless⟩)
    (xc_Endless : PySem.W.codeIn K (.ref cda_Endless) "Endless.__init__" = true)
    (xd_Endless : K.lookup cda_Endless = some ⟨ccl_Endless, cdd_Endless, .fields vs_Endless, ccs_Endless⟩)
    (xv_Endless : vs_Endless[2]? = some (.str P.main.file tf_Endless))
    (xe_Endless : K.lookup cc_Endless = some ⟨cl_Endless, cld_Endless, .cell (some (.ref C_Endless)), csl_Endless⟩)
    (xf_Endless : PySem.W.isFn K (.ref fI_Endless) = true)
    (xs_Endless : xscB P (defArgs (inClass (topS 10) 0)) (defScope (inClass (topS 10) 0)) = true)
    (xb_BadNumber : xB K C_BadNumber false = true)
    (xi_BadNumber : PySem.W.findIn K (.ref C_BadNumber) "__init__" = some (some (.ref fI_BadNumber)))
    (xl_BadNumber : K.lookup fI_BadNumber = some ⟨oc_BadNumber, od_BadNumber, .func (PySem.W.ksFn "__init__" "BadNumber.__init__" (defArgs (inClass (topS 5) 0)) (defBody (inClass (topS 5) 0)) (defScope (inClass (topS 5) 0)) .none kV_BadNumber doc_BadNumber pm_BadNumber an_BadNumber (.ref cda_BadNumber) ct_BadNumber cc_BadNumber), osl_BadNumber⟩)
    (xc_BadNumber : PySem.W.codeIn K (.ref cda_BadNumber) "BadNumber.__init__" = true)
    (xd_BadNumber : K.lookup cda_BadNumber = some ⟨ccl_BadNumber, cdd_BadNumber, .fields vs_BadNumber, ccs_BadNumber⟩)
    (xv_BadNumber : vs_BadNumber[2]? = some (.str P.main.file tf_BadNumber))
    (xe_BadNumber : K.lookup cc_BadNumber = some ⟨cl_BadNumber, cld_BadNumber, .cell (some (.ref C_BadNumber)), csl_BadNumber⟩)
    (xf_BadNumber : PySem.W.isFn K (.ref fI_BadNumber) = true)
    (xs_BadNumber : xscB P (defArgs (inClass (topS 5) 0)) (defScope (inClass (topS 5) 0)) = true)
    (xg_BadNumber : PySem.W.findIn K (.ref C_BadNumber) "value" = some none)
    (xb_Unlike : xB K C_Unlike false = true)
    (xi_Unlike : PySem.W.findIn K (.ref C_Unlike) "__init__" = some (some (.ref fI_Unlike)))
    (xl_Unlike : K.lookup fI_Unlike = some ⟨oc_Unlike, od_Unlike, .func (PySem.W.ksFn "__init__" "Unlike.__init__" (defArgs (inClass (topS 6) 0)) (defBody (inClass (topS 6) 0)) (defScope (inClass (topS 6) 0)) .none kV_Unlike doc_Unlike pm_Unlike an_Unlike (.ref cda_Unlike) ct_Unlike cc_Unlike), osl_Unlike⟩)
    (xc_Unlike : PySem.W.codeIn K (.ref cda_Unlike) "Unlike.__init__" = true)
    (xd_Unlike : K.lookup cda_Unlike = some ⟨ccl_Unlike, cdd_Unlike, .fields vs_Unlike, ccs_Unlike⟩)
    (xv_Unlike : vs_Unlike[2]? = some (.str P.main.file tf_Unlike))
    (xe_Unlike : K.lookup cc_Unlike = some ⟨cl_Unlike, cld_Unlike, .cell (some (.ref C_Unlike)), csl_Unlike⟩)
    (xf_Unlike : PySem.W.isFn K (.ref fI_Unlike) = true)
    (xs_Unlike : xscB P (defArgs (inClass (topS 6) 0)) (defScope (inClass (topS 6) 0)) = true)
    (aC : PySem.W.nsIn K mainGlobals "Bonds" = some (some (.ref C)))
    (pg : PySem.W.plainGet K C Str.empty = true)
    (ic : PySem.W.isClsIn K C = true)
    (po : PySem.W.plainOver K C = true)
    (sa : PySem.W.findIn K (.ref C) "__setattr__" = some (some (.builtin "object.__setattr__")))
    (ats : PySem.W.findIn K (.ref C) "table" = some (some (.ref p)))
    (gts : PySem.W.specialIn K (.ref p) "__get__" = some (some (.builtin "member_descriptor.__get__")))
    (tks : PySem.W.takesIn K (.ref p) = some true)
    (tys : PySem.W.typeIn K (.ref p) = some (.type "member_descriptor"))
    (ixs : PySem.W.slotIn K p C = some 0)
    (mkC : PySem.W.makesIn K C = true)
    (kpC : PySem.W.keepIn K (.ref C) = true)
    (eq_ca : PySem.W.findIn K (.ref C) "__class__" = some (some (.builtin "object.__class__")))
    (eq_cn : PySem.W.specialIn K (.builtin "object.__class__") "__get__" = some (some (.builtin "getset_descriptor.__get__")))
    (eq_ct : PySem.W.takesIn K (.builtin "object.__class__") = some true)
    (eq_cm : PySem.W.mroIn K C (.type "object") = some true)
    (eq_ml : PySem.W.mroIn K C (.type "list") = some false)
    (eq_ne : PySem.W.findIn K (.ref C) "__ne__" = some (some (.builtin "object.__ne__")))
    (eq_k0 : PySem.W.kitOne K (.type "NoneType") (.ref C) = some false)
    (eq_k1 : PySem.W.kitOne K (.type "bool") (.ref C) = some false)
    (eq_k2 : PySem.W.kitOne K (.type "int") (.ref C) = some false)
    (eq_k3 : PySem.W.kitOne K (.type "str") (.ref C) = some false)
    (eq_k4 : PySem.W.kitOne K (.type "tuple") (.ref C) = some false)
    (eq_k5 : PySem.W.kitOne K (.type "list") (.ref C) = some false)
    (eq_k6 : PySem.W.kitOne K (.type "dict") (.ref C) = some false)
    (eqa : (seven.all fun t => decide (PySem.W.mroIn K C (.type t) = some false)) = true)
    (a_Bench : PySem.W.nsIn K mainGlobals "Bench" = some (some (.ref C_Bench)))
    (pg_Bench : PySem.W.plainGet K C_Bench Str.empty = true)
    (hd_Bench : PySem.W.hasDictIn K C_Bench = true)
    (po_Bench : PySem.W.plainOver K C_Bench = true)
    (sa_Bench : PySem.W.findIn K (.ref C_Bench) "__setattr__" = some (some (.builtin "object.__setattr__")))
    (na_Bench_bonds : PySem.W.findIn K (.ref C_Bench) "bonds" = some none)
    (na_Bench_first : PySem.W.findIn K (.ref C_Bench) "first" = some none)
    (na_Bench_held : PySem.W.findIn K (.ref C_Bench) "held" = some none)
    (na_Bench_later : PySem.W.findIn K (.ref C_Bench) "later" = some none)
    (mk_Bench : PySem.W.makesIn K C_Bench = true)
    (kp_Bench : PySem.W.keepIn K (.ref C_Bench) = true)
    (tw_ca : PySem.W.findIn K (.ref C_Bench) "__class__" = some (some (.builtin "object.__class__")))
    (tw_cm : PySem.W.mroIn K C_Bench (.type "object") = some true)
    (tw_ne : PySem.W.findIn K (.ref C_Bench) "__ne__" = some (some (.builtin "object.__ne__")))
    (tw_z : ((seven.all fun t => decide (PySem.W.mroIn K C_Bench (.type t) = some false)) && ((seven.all fun t => decide (PySem.W.kitOne K (.type t) (.ref C_Bench) = some false)) && (decide (PySem.W.kitOne K (.ref C) (.ref C_Bench) = some false) && (decide (PySem.W.kitOne K (.ref C_Bench) (.ref C) = some false) && (PySem.W.notFirst K C (.ref C_Bench) && PySem.W.notFirst K C_Bench (.ref C)))))) = true)
    (a_is_whole : PySem.W.nsIn K mainGlobals "is_whole" = some (some (.ref f_is_whole)))
    (l_is_whole : K.lookup f_is_whole = some ⟨oc_is_whole, od_is_whole, .func (PySem.W.fnOf "is_whole" "is_whole" (defArgs (topS 16)) (defBody (topS 16)) (defScope (topS 16)) .none kV_is_whole dc_is_whole pm_is_whole an_is_whole cd_is_whole ct_is_whole), sl_is_whole⟩)
    (c_is_whole : PySem.W.codeIn K cd_is_whole "is_whole" = true)
    (k_is_whole : PySem.W.keepIn K (.ref f_is_whole) = true)
    (a_is_among : PySem.W.nsIn K mainGlobals "is_among" = some (some (.ref f_is_among)))
    (l_is_among : K.lookup f_is_among = some ⟨oc_is_among, od_is_among, .func (PySem.W.fnOf "is_among" "is_among" (defArgs (topS 17)) (defBody (topS 17)) (defScope (topS 17)) .none kV_is_among dc_is_among pm_is_among an_is_among cd_is_among ct_is_among), sl_is_among⟩)
    (c_is_among : PySem.W.codeIn K cd_is_among "is_among" = true)
    (k_is_among : PySem.W.keepIn K (.ref f_is_among) = true)
    (a_is_list : PySem.W.nsIn K mainGlobals "is_list" = some (some (.ref f_is_list)))
    (l_is_list : K.lookup f_is_list = some ⟨oc_is_list, od_is_list, .func (PySem.W.fnOf "is_list" "is_list" (defArgs (topS 18)) (defBody (topS 18)) (defScope (topS 18)) .none kV_is_list dc_is_list pm_is_list an_is_list cd_is_list ct_is_list), sl_is_list⟩)
    (c_is_list : PySem.W.codeIn K cd_is_list "is_list" = true)
    (k_is_list : PySem.W.keepIn K (.ref f_is_list) = true)
    (a_is_bond : PySem.W.nsIn K mainGlobals "is_bond" = some (some (.ref f_is_bond)))
    (l_is_bond : K.lookup f_is_bond = some ⟨oc_is_bond, od_is_bond, .func (PySem.W.fnOf "is_bond" "is_bond" (defArgs (topS 19)) (defBody (topS 19)) (defScope (topS 19)) .none kV_is_bond dc_is_bond pm_is_bond an_is_bond cd_is_bond ct_is_bond), sl_is_bond⟩)
    (c_is_bond : PySem.W.codeIn K cd_is_bond "is_bond" = true)
    (k_is_bond : PySem.W.keepIn K (.ref f_is_bond) = true)
    (a_need_rows : PySem.W.nsIn K mainGlobals "need_rows" = some (some (.ref f_need_rows)))
    (l_need_rows : K.lookup f_need_rows = some ⟨oc_need_rows, od_need_rows, .func (PySem.W.fnOf "need_rows" "need_rows" (defArgs (topS 20)) (defBody (topS 20)) (defScope (topS 20)) .none kV_need_rows dc_need_rows pm_need_rows an_need_rows cd_need_rows ct_need_rows), sl_need_rows⟩)
    (c_need_rows : PySem.W.codeIn K cd_need_rows "need_rows" = true)
    (k_need_rows : PySem.W.keepIn K (.ref f_need_rows) = true)
    (a_Bonds___init__ : PySem.W.findIn K (.ref C) "__init__" = some (some (.ref f_Bonds___init__)))
    (i_Bonds___init__ : PySem.W.isFn K (.ref f_Bonds___init__) = true)
    (l_Bonds___init__ : K.lookup f_Bonds___init__ = some ⟨oc_Bonds___init__, od_Bonds___init__, .func (PySem.W.fnOf "__init__" "Bonds.__init__" (defArgs (inClass (topS 21) 1)) (defBody (inClass (topS 21) 1)) (defScope (inClass (topS 21) 1)) .none kV_Bonds___init__ dc_Bonds___init__ pm_Bonds___init__ an_Bonds___init__ cd_Bonds___init__ ct_Bonds___init__), sl_Bonds___init__⟩)
    (c_Bonds___init__ : PySem.W.codeIn K cd_Bonds___init__ "Bonds.__init__" = true)
    (k_Bonds___init__ : PySem.W.keepIn K (.ref f_Bonds___init__) = true)
    (a_Bonds___len__ : PySem.W.findIn K (.ref C) "__len__" = some (some (.ref f_Bonds___len__)))
    (i_Bonds___len__ : PySem.W.isFn K (.ref f_Bonds___len__) = true)
    (l_Bonds___len__ : K.lookup f_Bonds___len__ = some ⟨oc_Bonds___len__, od_Bonds___len__, .func (PySem.W.fnOf "__len__" "Bonds.__len__" (defArgs (inClass (topS 21) 2)) (defBody (inClass (topS 21) 2)) (defScope (inClass (topS 21) 2)) .none kV_Bonds___len__ dc_Bonds___len__ pm_Bonds___len__ an_Bonds___len__ cd_Bonds___len__ ct_Bonds___len__), sl_Bonds___len__⟩)
    (c_Bonds___len__ : PySem.W.codeIn K cd_Bonds___len__ "Bonds.__len__" = true)
    (k_Bonds___len__ : PySem.W.keepIn K (.ref f_Bonds___len__) = true)
    (a_Bonds___eq__ : PySem.W.findIn K (.ref C) "__eq__" = some (some (.ref f_Bonds___eq__)))
    (i_Bonds___eq__ : PySem.W.isFn K (.ref f_Bonds___eq__) = true)
    (l_Bonds___eq__ : K.lookup f_Bonds___eq__ = some ⟨oc_Bonds___eq__, od_Bonds___eq__, .func (PySem.W.fnOf "__eq__" "Bonds.__eq__" (defArgs (inClass (topS 21) 3)) (defBody (inClass (topS 21) 3)) (defScope (inClass (topS 21) 3)) .none kV_Bonds___eq__ dc_Bonds___eq__ pm_Bonds___eq__ an_Bonds___eq__ cd_Bonds___eq__ ct_Bonds___eq__), sl_Bonds___eq__⟩)
    (c_Bonds___eq__ : PySem.W.codeIn K cd_Bonds___eq__ "Bonds.__eq__" = true)
    (k_Bonds___eq__ : PySem.W.keepIn K (.ref f_Bonds___eq__) = true)
    (a_need_word : PySem.W.nsIn K mainGlobals "need_word" = some (some (.ref f_need_word)))
    (l_need_word : K.lookup f_need_word = some ⟨oc_need_word, od_need_word, .func (PySem.W.fnOf "need_word" "need_word" (defArgs (topS 22)) (defBody (topS 22)) (defScope (topS 22)) .none kV_need_word dc_need_word pm_need_word an_need_word cd_need_word ct_need_word), sl_need_word⟩)
    (c_need_word : PySem.W.codeIn K cd_need_word "need_word" = true)
    (k_need_word : PySem.W.keepIn K (.ref f_need_word) = true)
    (a_Bench___init__ : PySem.W.findIn K (.ref C_Bench) "__init__" = some (some (.ref f_Bench___init__)))
    (i_Bench___init__ : PySem.W.isFn K (.ref f_Bench___init__) = true)
    (l_Bench___init__ : K.lookup f_Bench___init__ = some ⟨oc_Bench___init__, od_Bench___init__, .func (PySem.W.fnOf "__init__" "Bench.__init__" (defArgs (inClass (topS 24) 0)) (defBody (inClass (topS 24) 0)) (defScope (inClass (topS 24) 0)) .none kV_Bench___init__ dc_Bench___init__ pm_Bench___init__ an_Bench___init__ cd_Bench___init__ ct_Bench___init__), sl_Bench___init__⟩)
    (c_Bench___init__ : PySem.W.codeIn K cd_Bench___init__ "Bench.__init__" = true)
    (k_Bench___init__ : PySem.W.keepIn K (.ref f_Bench___init__) = true)
    (a_Bench_deeds : PySem.W.findIn K (.ref C_Bench) "deeds" = some (some (.ref f_Bench_deeds)))
    (i_Bench_deeds : PySem.W.isFn K (.ref f_Bench_deeds) = true)
    (l_Bench_deeds : K.lookup f_Bench_deeds = some ⟨oc_Bench_deeds, od_Bench_deeds, .func (PySem.W.fnOf "deeds" "Bench.deeds" (defArgs (inClass (topS 24) 4)) (defBody (inClass (topS 24) 4)) (defScope (inClass (topS 24) 4)) .none kV_Bench_deeds dc_Bench_deeds pm_Bench_deeds an_Bench_deeds cd_Bench_deeds ct_Bench_deeds), sl_Bench_deeds⟩)
    (c_Bench_deeds : PySem.W.codeIn K cd_Bench_deeds "Bench.deeds" = true)
    (k_Bench_deeds : PySem.W.keepIn K (.ref f_Bench_deeds) = true)
    (a_Bench___eq__ : PySem.W.findIn K (.ref C_Bench) "__eq__" = some (some (.ref f_Bench___eq__)))
    (i_Bench___eq__ : PySem.W.isFn K (.ref f_Bench___eq__) = true)
    (l_Bench___eq__ : K.lookup f_Bench___eq__ = some ⟨oc_Bench___eq__, od_Bench___eq__, .func (PySem.W.fnOf "__eq__" "Bench.__eq__" (defArgs (inClass (topS 24) 3)) (defBody (inClass (topS 24) 3)) (defScope (inClass (topS 24) 3)) .none kV_Bench___eq__ dc_Bench___eq__ pm_Bench___eq__ an_Bench___eq__ cd_Bench___eq__ ct_Bench___eq__), sl_Bench___eq__⟩)
    (c_Bench___eq__ : PySem.W.codeIn K cd_Bench___eq__ "Bench.__eq__" = true)
    (k_Bench___eq__ : PySem.W.keepIn K (.ref f_Bench___eq__) = true)
    (a__law_mixed : PySem.W.nsIn K mainGlobals "_law_mixed" = some (some (.ref f__law_mixed)))
    (l__law_mixed : K.lookup f__law_mixed = some ⟨oc__law_mixed, od__law_mixed, .func (PySem.W.fnOf "_law_mixed" "_law_mixed" (defArgs (topS 26)) (defBody (topS 26)) (defScope (topS 26)) .none kV__law_mixed dc__law_mixed pm__law_mixed an__law_mixed cd__law_mixed ct__law_mixed), sl__law_mixed⟩)
    (c__law_mixed : PySem.W.codeIn K cd__law_mixed "_law_mixed" = true)
    (k__law_mixed : PySem.W.keepIn K (.ref f__law_mixed) = true)
    (a__law_folded : PySem.W.nsIn K mainGlobals "_law_folded" = some (some (.ref f__law_folded)))
    (l__law_folded : K.lookup f__law_folded = some ⟨oc__law_folded, od__law_folded, .func (PySem.W.fnOf "_law_folded" "_law_folded" (defArgs (topS 27)) (defBody (topS 27)) (defScope (topS 27)) .none kV__law_folded dc__law_folded pm__law_folded an__law_folded cd__law_folded ct__law_folded), sl__law_folded⟩)
    (c__law_folded : PySem.W.codeIn K cd__law_folded "_law_folded" = true)
    (k__law_folded : PySem.W.keepIn K (.ref f__law_folded) = true)
    (a__law_draw : PySem.W.nsIn K mainGlobals "_law_draw" = some (some (.ref f__law_draw)))
    (l__law_draw : K.lookup f__law_draw = some ⟨oc__law_draw, od__law_draw, .func (PySem.W.fnOf "_law_draw" "_law_draw" (defArgs (topS 28)) (defBody (topS 28)) (defScope (topS 28)) .none kV__law_draw dc__law_draw pm__law_draw an__law_draw cd__law_draw ct__law_draw), sl__law_draw⟩)
    (c__law_draw : PySem.W.codeIn K cd__law_draw "_law_draw" = true)
    (k__law_draw : PySem.W.keepIn K (.ref f__law_draw) = true)
    (a__law_begun : PySem.W.nsIn K mainGlobals "_law_begun" = some (some (.ref f__law_begun)))
    (l__law_begun : K.lookup f__law_begun = some ⟨oc__law_begun, od__law_begun, .func (PySem.W.fnOf "_law_begun" "_law_begun" (defArgs (topS 29)) (defBody (topS 29)) (defScope (topS 29)) .none kV__law_begun dc__law_begun pm__law_begun an__law_begun cd__law_begun ct__law_begun), sl__law_begun⟩)
    (c__law_begun : PySem.W.codeIn K cd__law_begun "_law_begun" = true)
    (k__law_begun : PySem.W.keepIn K (.ref f__law_begun) = true)
    (a__law_each_right : PySem.W.nsIn K mainGlobals "_law_each_right" = some (some (.ref f__law_each_right)))
    (l__law_each_right : K.lookup f__law_each_right = some ⟨oc__law_each_right, od__law_each_right, .func (PySem.W.fnOf "_law_each_right" "_law_each_right" (defArgs (topS 30)) (defBody (topS 30)) (defScope (topS 30)) .none kV__law_each_right dc__law_each_right pm__law_each_right an__law_each_right cd__law_each_right ct__law_each_right), sl__law_each_right⟩)
    (c__law_each_right : PySem.W.codeIn K cd__law_each_right "_law_each_right" = true)
    (k__law_each_right : PySem.W.keepIn K (.ref f__law_each_right) = true)
    (a_law : PySem.W.nsIn K mainGlobals "law" = some (some (.ref f_law)))
    (l_law : K.lookup f_law = some ⟨oc_law, od_law, .func (PySem.W.fnOf "law" "law" (defArgs (topS 31)) (defBody (topS 31)) (defScope (topS 31)) .none kV_law dc_law pm_law an_law cd_law ct_law), sl_law⟩)
    (c_law : PySem.W.codeIn K cd_law "law" = true)
    (k_law : PySem.W.keepIn K (.ref f_law) = true)
    : ∃ (fd : FuncData) (cs : List (Addr × Addr × Str)), (∀ p ∈ cs, K.lookup p.2.1 = none ∧ ∃ y, ((recsOf q).find? (fun e => e.name == y)).isSome = true ∧ PySem.W.tabIn K y = some (p.1, p.2.1)) ∧ (∀ (s : Shared) (v : Value), BindsTo s fd ⟨[v], []⟩ [("script", v)]) ∧
      ∀ base : Heap, K.In base → base.Ns mainGlobals mg → (∀ p ∈ cs, LamX.TabB base mg p.1 p.2.1) → FnG P w K mg base 7 fa fd ["script"] (@spF ⟨cs.map (·.2)⟩ K mg 1 d_law) := by
  have e := hfa.symm.trans (PySem.W.mg_of X G a_law)
  cases e
  have B : Bi mg := ⟨PySem.W.mg_none_of X G z_len, PySem.W.mg_none_of X G z_tuple, PySem.W.mg_none_of X G z_list, PySem.W.mg_none_of X G z_int, PySem.W.mg_none_of X G z_range, PySem.W.mg_none_of X G z_enumerate, PySem.W.mg_none_of X G z_zip, PySem.W.mg_none_of X G z_isinstance, PySem.W.mg_none_of X G z_all, PySem.W.mg_none_of X G z_any, PySem.W.mg_none_of X G z_sum, PySem.W.mg_none_of X G z_min, PySem.W.mg_none_of X G z_max, PySem.W.mg_none_of X G z_sorted, PySem.W.mg_none_of X G z_repr, PySem.W.mg_none_of X G z_str, PySem.W.mg_none_of X G z_set, PySem.W.mg_none_of X G z_bool, PySem.W.mg_none_of X G z_super, PySem.W.mg_none_of X G z_ValueError, PySem.W.mg_none_of X G z_OverflowError⟩
  have g_KINDS : TupG K mg "KINDS" [.int 2, .int 3, .int 4, .int 6, .int 0] := ⟨_, PySem.W.mg_of X G a_KINDS, fun H => .inr ⟨_, _, _, l_KINDS, rfl, rfl, (show (5 : Nat) ≤ sizeLine from by decide), (.cons ⟨_, rfl⟩ (.cons ⟨_, rfl⟩ (.cons ⟨_, rfl⟩ (.cons ⟨_, rfl⟩ (.cons ⟨_, rfl⟩ .nil)))))⟩⟩
  have g_MOST_LETTERS : GI mg "MOST_LETTERS" 6 := ⟨_, PySem.W.mg_of X G a_MOST_LETTERS⟩
  have g_MOST_WORD : GI mg "MOST_WORD" 60 := ⟨_, PySem.W.mg_of X G a_MOST_WORD⟩
  have m_BondError : mg "BondError" = some (.ref C_BondError) := PySem.W.mg_of X G a_BondError
  have m_BadBonds : mg "BadBonds" = some (.ref C_BadBonds) := PySem.W.mg_of X G a_BadBonds
  have m_BadWord : mg "BadWord" = some (.ref C_BadWord) := PySem.W.mg_of X G a_BadWord
  have m_BadNumber : mg "BadNumber" = some (.ref C_BadNumber) := PySem.W.mg_of X G a_BadNumber
  have m_Unlike : mg "Unlike" = some (.ref C_Unlike) := PySem.W.mg_of X G a_Unlike
  have m_BadChoice : mg "BadChoice" = some (.ref C_BadChoice) := PySem.W.mg_of X G a_BadChoice
  have m_BadText : mg "BadText" = some (.ref C_BadText) := PySem.W.mg_of X G a_BadText
  have m_NothingLeft : mg "NothingLeft" = some (.ref C_NothingLeft) := PySem.W.mg_of X G a_NothingLeft
  have m_Endless : mg "Endless" = some (.ref C_Endless) := PySem.W.mg_of X G a_Endless
  have m_TooGreat : mg "TooGreat" = some (.ref C_TooGreat) := PySem.W.mg_of X G a_TooGreat
  have XA : XAll K mg := xall_of (tab := ([("BadBonds", some C_BadBonds), ("BadWord", some C_BadWord), ("BadRow", none), ("BadDeed", none), ("BadNumber", some C_BadNumber), ("Unlike", some C_Unlike), ("BadChoice", some C_BadChoice), ("BadText", some C_BadText), ("NothingLeft", some C_NothingLeft), ("Endless", some C_Endless), ("TooGreat", some C_TooGreat)] : List (Str × Option Addr))) m_BondError m_TooGreat rfl ⟨m_BadBonds, m_BadWord, PySem.W.mg_none_of X G z_BadRow, PySem.W.mg_none_of X G z_BadDeed, m_BadNumber, m_Unlike, m_BadChoice, m_BadText, m_NothingLeft, m_Endless, m_TooGreat, trivial⟩ xall
  have k_BondError : ∃ C, mg "BondError" = some (.ref C) := ⟨_, m_BondError⟩
  have k_BadBonds : ∃ C, mg "BadBonds" = some (.ref C) := ⟨_, m_BadBonds⟩
  have k_BadWord : ∃ C, mg "BadWord" = some (.ref C) := ⟨_, m_BadWord⟩
  have k_BadNumber : ∃ C, mg "BadNumber" = some (.ref C) := ⟨_, m_BadNumber⟩
  have k_Unlike : ∃ C, mg "Unlike" = some (.ref C) := ⟨_, m_Unlike⟩
  have k_BadChoice : ∃ C, mg "BadChoice" = some (.ref C) := ⟨_, m_BadChoice⟩
  have k_BadText : ∃ C, mg "BadText" = some (.ref C) := ⟨_, m_BadText⟩
  have k_NothingLeft : ∃ C, mg "NothingLeft" = some (.ref C) := ⟨_, m_NothingLeft⟩
  have k_Endless : ∃ C, mg "Endless" = some (.ref C) := ⟨_, m_Endless⟩
  have k_TooGreat : ∃ C, mg "TooGreat" = some (.ref C) := ⟨_, m_TooGreat⟩
  have x_BadBonds : XC1 P K mg "BadBonds" := xc1_mk (st := (inClass (topS 3) 0)) m_BadBonds xb_BadBonds xl_BadBonds xc_BadBonds xd_BadBonds xv_BadBonds xe_BadBonds xf_BadBonds xi_BadBonds xs_BadBonds xg_BadBonds rfl rfl rfl (by decide) ⟨fun env _ => ⟨_, rfl⟩, fun env _ => rfl, fun env _ => rfl, by decide⟩ (fun s us hl => match us, hl with | [_, _], _ => .of_eq rfl)
  have x_TooGreat : XC1 P K mg "TooGreat" := xc1_mk (st := (inClass (topS 11) 0)) m_TooGreat xb_TooGreat xl_TooGreat xc_TooGreat xd_TooGreat xv_TooGreat xe_TooGreat xf_TooGreat xi_TooGreat xs_TooGreat xg_TooGreat rfl rfl rfl (by decide) ⟨fun env _ => ⟨_, rfl⟩, fun env _ => rfl, fun env _ => rfl, by decide⟩ (fun s us hl => match us, hl with | [_, _], _ => .of_eq rfl)
  have x_BadWord : XC1 P K mg "BadWord" := xc1_mk (st := (inClass (topS 4) 0)) m_BadWord xb_BadWord xl_BadWord xc_BadWord xd_BadWord xv_BadWord xe_BadWord xf_BadWord xi_BadWord xs_BadWord xg_BadWord rfl rfl rfl (by decide) ⟨fun env _ => ⟨_, rfl⟩, fun env _ => rfl, fun env _ => rfl, by decide⟩ (fun s us hl => match us, hl with | [_, _], _ => .of_eq rfl)
  have x_BadChoice : XC1 P K mg "BadChoice" := xc1_mk (st := (inClass (topS 7) 0)) m_BadChoice xb_BadChoice xl_BadChoice xc_BadChoice xd_BadChoice xv_BadChoice xe_BadChoice xf_BadChoice xi_BadChoice xs_BadChoice xg_BadChoice rfl rfl rfl (by decide) ⟨fun env _ => ⟨_, rfl⟩, fun env _ => rfl, fun env _ => rfl, by decide⟩ (fun s us hl => match us, hl with | [_, _], _ => .of_eq rfl)
  have x_BadText : XC1 P K mg "BadText" := xc1_mk (st := (inClass (topS 8) 0)) m_BadText xb_BadText xl_BadText xc_BadText xd_BadText xv_BadText xe_BadText xf_BadText xi_BadText xs_BadText xg_BadText rfl rfl rfl (by decide) ⟨fun env _ => ⟨_, rfl⟩, fun env _ => rfl, fun env _ => rfl, by decide⟩ (fun s us hl => match us, hl with | [_, _], _ => .of_eq rfl)
  have x_NothingLeft : XC0 P K mg "NothingLeft" := xc0_mk (st := (inClass (topS 9) 0)) m_NothingLeft xb_NothingLeft xl_NothingLeft xc_NothingLeft xd_NothingLeft xv_NothingLeft xe_NothingLeft xf_NothingLeft xi_NothingLeft xs_NothingLeft rfl rfl ⟨fun env _ => ⟨_, rfl⟩, fun env _ => rfl⟩ (fun s us hl => match us, hl with | [_], _ => .of_eq rfl)
  have x_Endless : XC0 P K mg "Endless" := xc0_mk (st := (inClass (topS 10) 0)) m_Endless xb_Endless xl_Endless xc_Endless xd_Endless xv_Endless xe_Endless xf_Endless xi_Endless xs_Endless rfl rfl ⟨fun env _ => ⟨_, rfl⟩, fun env _ => rfl⟩ (fun s us hl => match us, hl with | [_], _ => .of_eq rfl)
  have x_BadNumber : XC1 P K mg "BadNumber" := xc1_mk (st := (inClass (topS 5) 0)) m_BadNumber xb_BadNumber xl_BadNumber xc_BadNumber xd_BadNumber xv_BadNumber xe_BadNumber xf_BadNumber xi_BadNumber xs_BadNumber xg_BadNumber rfl rfl rfl (by decide) ⟨fun env _ => ⟨_, rfl⟩, fun env _ => rfl, fun env _ => rfl, by decide⟩ (fun s us hl => match us, hl with | [_, _], _ => .of_eq rfl)
  have x_Unlike : XC0 P K mg "Unlike" := xc0_mk (st := (inClass (topS 6) 0)) m_Unlike xb_Unlike xl_Unlike xc_Unlike xd_Unlike xv_Unlike xe_Unlike xf_Unlike xi_Unlike xs_Unlike rfl rfl ⟨fun env _ => ⟨_, rfl⟩, fun env _ => rfl⟩ (fun s us hl => match us, hl with | [_], _ => .of_eq rfl)
  have xk_BadChoice : XCK P K mg "BadChoice" "value" := ⟨x_BadChoice, C_BadChoice, fI_BadChoice, _, _, _, _, m_BadChoice, xi_BadChoice, xl_BadChoice, rfl, fun s a v => .of_eq rfl⟩
  have xk_BadText : XCK P K mg "BadText" "place" := ⟨x_BadText, C_BadText, fI_BadText, _, _, _, _, m_BadText, xi_BadText, xl_BadText, rfl, fun s a v => .of_eq rfl⟩
  have hC : mg "Bonds" = some (.ref C) := PySem.W.mg_of X G aC
  have sB : SC K mg "Bonds" "table" := ⟨C, p, hC, ⟨pg, ic, po, sa⟩, ⟨ats, gts, tks, tys, ixs, by decide⟩⟩
  have eB : EqC K mg "Bonds" := ⟨C, hC, ⟨pg, ic, po, sa⟩, ⟨eq_ca, eq_cn, eq_ct, eq_cm⟩, eq_ne, eq_ml, kit7 eq_k0 eq_k1 eq_k2 eq_k3 eq_k4 eq_k5 eq_k6⟩
  have eA : EqA K mg "Bonds" := eqa_of eB hC eqa
  have hC_Bench : mg "Bench" = some (.ref C_Bench) := PySem.W.mg_of X G a_Bench
  have oc_Bench : OC K mg "Bench" ["bonds", "first", "held", "later"] := ⟨C_Bench, hC_Bench, ⟨pg_Bench, hd_Bench, po_Bench, sa_Bench⟩, (List.forall_mem_cons.mpr ⟨na_Bench_bonds, (List.forall_mem_cons.mpr ⟨na_Bench_first, (List.forall_mem_cons.mpr ⟨na_Bench_held, (List.forall_mem_cons.mpr ⟨na_Bench_later, (fun _ h => nomatch h)⟩)⟩)⟩)⟩)⟩
  have T2 : TwoC K mg "Bonds" "Bench" := twoc_of eA hC hC_Bench ⟨pg_Bench, hd_Bench, po_Bench, sa_Bench⟩ tw_ca eq_cn eq_ct tw_cm tw_ne tw_z
  have F_is_whole := fun_mk (st := (topS 16)) l_is_whole c_is_whole k_is_whole
  have F_is_among := fun_mk (st := (topS 17)) l_is_among c_is_among k_is_among
  have F_is_list := fun_mk (st := (topS 18)) l_is_list c_is_list k_is_list
  have F_is_bond := fun_mk (st := (topS 19)) l_is_bond c_is_bond k_is_bond
  have F_need_rows := fun_mk (st := (topS 20)) l_need_rows c_need_rows k_need_rows
  have F_Bonds___init__ := fun_mk (st := (inClass (topS 21) 1)) l_Bonds___init__ c_Bonds___init__ k_Bonds___init__
  have F_Bonds___len__ := fun_mk (st := (inClass (topS 21) 2)) l_Bonds___len__ c_Bonds___len__ k_Bonds___len__
  have F_Bonds___eq__ := fun_mk (st := (inClass (topS 21) 3)) l_Bonds___eq__ c_Bonds___eq__ k_Bonds___eq__
  have F_need_word := fun_mk (st := (topS 22)) l_need_word c_need_word k_need_word
  have F_Bench___init__ := fun_mk (st := (inClass (topS 24) 0)) l_Bench___init__ c_Bench___init__ k_Bench___init__
  have F_Bench_deeds := fun_mk (st := (inClass (topS 24) 4)) l_Bench_deeds c_Bench_deeds k_Bench_deeds
  have F_Bench___eq__ := fun_mk (st := (inClass (topS 24) 3)) l_Bench___eq__ c_Bench___eq__ k_Bench___eq__
  have F__law_mixed := fun_mk (st := (topS 26)) l__law_mixed c__law_mixed k__law_mixed
  have F__law_folded := fun_mk (st := (topS 27)) l__law_folded c__law_folded k__law_folded
  have F__law_draw := fun_mk (st := (topS 28)) l__law_draw c__law_draw k__law_draw
  have F__law_begun := fun_mk (st := (topS 29)) l__law_begun c__law_begun k__law_begun
  have F__law_each_right := fun_mk (st := (topS 30)) l__law_each_right c__law_each_right k__law_each_right
  have F_law := fun_mk (st := (topS 31)) l_law c_law k_law
  refine ⟨PySem.W.fnOf "law" "law" (defArgs (topS 31)) (defBody (topS 31)) (defScope (topS 31)) .none kV_law dc_law pm_law an_law cd_law ct_law, ([] : List (Addr × Addr × Str)), (fun p hp => by cases hp), fun s v => .of_eq rfl, fun base _ _ HT => ?_⟩
  letI : Tb := ⟨([] : List (Addr × Addr × Str)).map (·.2)⟩
  have o_is_whole : Fn P w K mg base "is_whole" 1 1 d_is_whole := ok_is_whole F_is_whole (PySem.W.mg_of X G a_is_whole) B
  have o_is_among : Fn P w K mg base "is_among" 2 3 d_is_among := ok_is_among F_is_among (PySem.W.mg_of X G a_is_among) B o_is_whole
  have o_is_list : Fn P w K mg base "is_list" 1 1 d_is_list := ok_is_list F_is_list (PySem.W.mg_of X G a_is_list) B
  have o_is_bond : Fn P w K mg base "is_bond" 3 3 d_is_bond := ok_is_bond F_is_bond (PySem.W.mg_of X G a_is_bond) B g_KINDS o_is_among o_is_whole
  have o_need_rows : Fn P w K mg base "need_rows" 4 1 d_need_rows := ok_need_rows F_need_rows (PySem.W.mg_of X G a_need_rows) B x_BadBonds x_TooGreat g_MOST_LETTERS o_is_list o_is_bond
  have o_Bonds___init__ : Mkr P w K mg base "Bonds" 5 2 d_Bonds___init__ := ok_Bonds___init__ F_Bonds___init__ hC ⟨mkC, a_Bonds___init__, i_Bonds___init__, kpC⟩ B sB o_need_rows
  have o_Bonds___len__ : Mt P w K mg base "Bonds" "__len__" 1 1 d_Bonds___len__ := ok_Bonds___len__ F_Bonds___len__ hC ⟨a_Bonds___len__, i_Bonds___len__, k_Bonds___len__⟩ B sB
  have o_Bonds___eq__ : Mt P w K mg base "Bonds" "__eq__" 1 2 d_Bonds___eq__X := ok_Bonds___eq__ F_Bonds___eq__ hC ⟨a_Bonds___eq__, i_Bonds___eq__, k_Bonds___eq__⟩ B sB T2
  have o_need_word : Fn P w K mg base "need_word" 3 2 d_need_word := ok_need_word F_need_word (PySem.W.mg_of X G a_need_word) B sB x_BadWord x_TooGreat g_MOST_WORD o_is_list o_Bonds___len__ o_is_among
  have o_Bench___init__ : Mkr P w K mg base "Bench" 4 3 d_Bench___init__ := ok_Bench___init__ F_Bench___init__ hC_Bench ⟨mk_Bench, a_Bench___init__, i_Bench___init__, kp_Bench⟩ B oc_Bench o_need_word
  have o_Bench_deeds : Mt P w K mg base "Bench" "deeds" 1 1 d_Bench_deeds := ok_Bench_deeds F_Bench_deeds hC_Bench ⟨a_Bench_deeds, i_Bench_deeds, k_Bench_deeds⟩ B oc_Bench
  have o_Bench___eq__ : Mt P w K mg base "Bench" "__eq__" 3 2 d_Bench___eq__X := ok_Bench___eq__ F_Bench___eq__ hC_Bench ⟨a_Bench___eq__, i_Bench___eq__, k_Bench___eq__⟩ B eB T2 oc_Bench o_Bonds___eq__ o_Bench_deeds
  have o__law_mixed : Fn P w K mg base "_law_mixed" 1 2 d__law_mixed := ok__law_mixed F__law_mixed (PySem.W.mg_of X G a__law_mixed) B
  have o__law_folded : Fn P w K mg base "_law_folded" 1 1 d__law_folded := ok__law_folded F__law_folded (PySem.W.mg_of X G a__law_folded) B
  have o__law_draw : Fn P w K mg base "_law_draw" 2 2 d__law_draw := ok__law_draw F__law_draw (PySem.W.mg_of X G a__law_draw) B o__law_mixed
  have o__law_begun : Fn P w K mg base "_law_begun" 2 1 d__law_begun := ok__law_begun F__law_begun (PySem.W.mg_of X G a__law_begun) B o__law_folded
  have o__law_each_right : FnN P w K mg base "_law_each_right" 2 1 d2_law_each_right := ok__law_each_right F__law_each_right (PySem.W.mg_of X G a__law_each_right) B XA x_BadChoice x_BadText x_NothingLeft x_Endless x_BadWord x_BadNumber x_Unlike xk_BadChoice xk_BadText k_BadChoice k_BadText k_NothingLeft k_Endless k_BadWord k_BadNumber k_Unlike
  exact ok_law F_law B T2 o__law_begun o__law_draw o__law_each_right o_Bonds___init__ o_Bench___init__ o_Bench___eq__ o_Bonds___eq__
end BW
open PySem PySem.W PyProof.Rows
set_option maxHeartbeats 0 in
theorem PySem.Challenge.cw_bondwords_k72_exceptions_of_the_second_h_holds : PySem.Challenge.rw_bondwords_k72_exceptions_of_the_second_h.Holds := by
  w_on; o_law; k_head; (case hw => w_witness2)
  k_fill
  refine BW.walk_end (l := PySem.Challenge.rw_bondwords_k72_exceptions_of_the_second_h) (n := 63) (k := 7) (x := "script") (dL := BW.d_law) rfl (by decide) rfl ⟨rfl, by decide, by decide⟩ (fun w h Y => by first | exact PySem.W.kIn_of Y | exact PySem.W.km_in_of Y) ?F BW.plain
  case F =>
    intro w mg fa h _ KX G hmg
    refine' BW.all_mk KX G hmg ?z_len ?z_tuple ?z_list ?z_int ?z_range ?z_enumerate ?z_zip ?z_isinstance ?z_all ?z_any ?z_sum ?z_min ?z_max ?z_sorted ?z_repr ?z_str ?z_set ?z_bool ?z_super ?z_ValueError ?z_OverflowError ?a_KINDS ?l_KINDS ?a_MOST_LETTERS ?a_MOST_WORD ?a_BondError ?a_BadBonds ?a_BadWord ?a_BadNumber ?a_Unlike ?a_BadChoice ?a_BadText ?a_NothingLeft ?a_Endless ?a_TooGreat ?z_BadRow ?z_BadDeed ?xall ?xb_BadBonds ?xi_BadBonds ?xl_BadBonds ?xc_BadBonds ?xd_BadBonds ?xv_BadBonds ?xe_BadBonds ?xf_BadBonds ?xs_BadBonds ?xg_BadBonds ?xb_TooGreat ?xi_TooGreat ?xl_TooGreat ?xc_TooGreat ?xd_TooGreat ?xv_TooGreat ?xe_TooGreat ?xf_TooGreat ?xs_TooGreat ?xg_TooGreat ?xb_BadWord ?xi_BadWord ?xl_BadWord ?xc_BadWord ?xd_BadWord ?xv_BadWord ?xe_BadWord ?xf_BadWord ?xs_BadWord ?xg_BadWord ?xb_BadChoice ?xi_BadChoice ?xl_BadChoice ?xc_BadChoice ?xd_BadChoice ?xv_BadChoice ?xe_BadChoice ?xf_BadChoice ?xs_BadChoice ?xg_BadChoice ?xb_BadText ?xi_BadText ?xl_BadText ?xc_BadText ?xd_BadText ?xv_BadText ?xe_BadText ?xf_BadText ?xs_BadText ?xg_BadText ?xb_NothingLeft ?xi_NothingLeft ?xl_NothingLeft ?xc_NothingLeft ?xd_NothingLeft ?xv_NothingLeft ?xe_NothingLeft ?xf_NothingLeft ?xs_NothingLeft ?xb_Endless ?xi_Endless ?xl_Endless ?xc_Endless ?xd_Endless ?xv_Endless ?xe_Endless ?xf_Endless ?xs_Endless ?xb_BadNumber ?xi_BadNumber ?xl_BadNumber ?xc_BadNumber ?xd_BadNumber ?xv_BadNumber ?xe_BadNumber ?xf_BadNumber ?xs_BadNumber ?xg_BadNumber ?xb_Unlike ?xi_Unlike ?xl_Unlike ?xc_Unlike ?xd_Unlike ?xv_Unlike ?xe_Unlike ?xf_Unlike ?xs_Unlike ?aC ?pg ?ic ?po ?sa ?ats ?gts ?tks ?tys ?ixs ?mkC ?kpC ?eq_ca ?eq_cn ?eq_ct ?eq_cm ?eq_ml ?eq_ne ?eq_k0 ?eq_k1 ?eq_k2 ?eq_k3 ?eq_k4 ?eq_k5 ?eq_k6 ?eqa ?a_Bench ?pg_Bench ?hd_Bench ?po_Bench ?sa_Bench ?na_Bench_bonds ?na_Bench_first ?na_Bench_held ?na_Bench_later ?mk_Bench ?kp_Bench ?tw_ca ?tw_cm ?tw_ne ?tw_z ?a_is_whole ?l_is_whole ?c_is_whole ?k_is_whole ?a_is_among ?l_is_among ?c_is_among ?k_is_among ?a_is_list ?l_is_list ?c_is_list ?k_is_list ?a_is_bond ?l_is_bond ?c_is_bond ?k_is_bond ?a_need_rows ?l_need_rows ?c_need_rows ?k_need_rows ?a_Bonds___init__ ?i_Bonds___init__ ?l_Bonds___init__ ?c_Bonds___init__ ?k_Bonds___init__ ?a_Bonds___len__ ?i_Bonds___len__ ?l_Bonds___len__ ?c_Bonds___len__ ?k_Bonds___len__ ?a_Bonds___eq__ ?i_Bonds___eq__ ?l_Bonds___eq__ ?c_Bonds___eq__ ?k_Bonds___eq__ ?a_need_word ?l_need_word ?c_need_word ?k_need_word ?a_Bench___init__ ?i_Bench___init__ ?l_Bench___init__ ?c_Bench___init__ ?k_Bench___init__ ?a_Bench_deeds ?i_Bench_deeds ?l_Bench_deeds ?c_Bench_deeds ?k_Bench_deeds ?a_Bench___eq__ ?i_Bench___eq__ ?l_Bench___eq__ ?c_Bench___eq__ ?k_Bench___eq__ ?a__law_mixed ?l__law_mixed ?c__law_mixed ?k__law_mixed ?a__law_folded ?l__law_folded ?c__law_folded ?k__law_folded ?a__law_draw ?l__law_draw ?c__law_draw ?k__law_draw ?a__law_begun ?l__law_begun ?c__law_begun ?k__law_begun ?a__law_each_right ?l__law_each_right ?c__law_each_right ?k__law_each_right ?a_law ?l_law ?c_law ?k_law
    (case z_len => k_is)
    (case z_tuple => k_is)
    (case z_list => k_is)
    (case z_int => k_is)
    (case z_range => k_is)
    (case z_enumerate => k_is)
    (case z_zip => k_is)
    (case z_isinstance => k_is)
    (case z_all => k_is)
    (case z_any => k_is)
    (case z_sum => k_is)
    (case z_min => k_is)
    (case z_max => k_is)
    (case z_sorted => k_is)
    (case z_repr => k_is)
    (case z_str => k_is)
    (case z_set => k_is)
    (case z_bool => k_is)
    (case z_super => k_is)
    (case z_ValueError => k_is)
    (case z_OverflowError => k_is)
    (case a_KINDS => k_is)
    (case l_KINDS => k_is)
    (case a_MOST_LETTERS => k_is)
    (case a_MOST_WORD => k_is)
    (case a_BondError => k_is)
    (case a_BadBonds => k_is)
    (case a_BadWord => k_is)
    (case a_BadNumber => k_is)
    (case a_Unlike => k_is)
    (case a_BadChoice => k_is)
    (case a_BadText => k_is)
    (case a_NothingLeft => k_is)
    (case a_Endless => k_is)
    (case a_TooGreat => k_is)
    (case z_BadRow => k_is)
    (case z_BadDeed => k_is)
    (case xall => kernel_rfl)
    (case xb_BadBonds => kernel_rfl)
    (case xi_BadBonds => k_is)
    (case xl_BadBonds => k_is)
    (case xc_BadBonds => k_is)
    (case xd_BadBonds => k_is)
    (case xv_BadBonds => rfl)
    (case xe_BadBonds => k_is)
    (case xf_BadBonds => k_is)
    (case xs_BadBonds => kernel_rfl)
    (case xg_BadBonds => k_is)
    (case xb_TooGreat => kernel_rfl)
    (case xi_TooGreat => k_is)
    (case xl_TooGreat => k_is)
    (case xc_TooGreat => k_is)
    (case xd_TooGreat => k_is)
    (case xv_TooGreat => rfl)
    (case xe_TooGreat => k_is)
    (case xf_TooGreat => k_is)
    (case xs_TooGreat => kernel_rfl)
    (case xg_TooGreat => k_is)
    (case xb_BadWord => kernel_rfl)
    (case xi_BadWord => k_is)
    (case xl_BadWord => k_is)
    (case xc_BadWord => k_is)
    (case xd_BadWord => k_is)
    (case xv_BadWord => rfl)
    (case xe_BadWord => k_is)
    (case xf_BadWord => k_is)
    (case xs_BadWord => kernel_rfl)
    (case xg_BadWord => k_is)
    (case xb_BadChoice => kernel_rfl)
    (case xi_BadChoice => k_is)
    (case xl_BadChoice => k_is)
    (case xc_BadChoice => k_is)
    (case xd_BadChoice => k_is)
    (case xv_BadChoice => rfl)
    (case xe_BadChoice => k_is)
    (case xf_BadChoice => k_is)
    (case xs_BadChoice => kernel_rfl)
    (case xg_BadChoice => k_is)
    (case xb_BadText => kernel_rfl)
    (case xi_BadText => k_is)
    (case xl_BadText => k_is)
    (case xc_BadText => k_is)
    (case xd_BadText => k_is)
    (case xv_BadText => rfl)
    (case xe_BadText => k_is)
    (case xf_BadText => k_is)
    (case xs_BadText => kernel_rfl)
    (case xg_BadText => k_is)
    (case xb_NothingLeft => kernel_rfl)
    (case xi_NothingLeft => k_is)
    (case xl_NothingLeft => k_is)
    (case xc_NothingLeft => k_is)
    (case xd_NothingLeft => k_is)
    (case xv_NothingLeft => rfl)
    (case xe_NothingLeft => k_is)
    (case xf_NothingLeft => k_is)
    (case xs_NothingLeft => kernel_rfl)
    (case xb_Endless => kernel_rfl)
    (case xi_Endless => k_is)
    (case xl_Endless => k_is)
    (case xc_Endless => k_is)
    (case xd_Endless => k_is)
    (case xv_Endless => rfl)
    (case xe_Endless => k_is)
    (case xf_Endless => k_is)
    (case xs_Endless => kernel_rfl)
    (case xb_BadNumber => kernel_rfl)
    (case xi_BadNumber => k_is)
    (case xl_BadNumber => k_is)
    (case xc_BadNumber => k_is)
    (case xd_BadNumber => k_is)
    (case xv_BadNumber => rfl)
    (case xe_BadNumber => k_is)
    (case xf_BadNumber => k_is)
    (case xs_BadNumber => kernel_rfl)
    (case xg_BadNumber => k_is)
    (case xb_Unlike => kernel_rfl)
    (case xi_Unlike => k_is)
    (case xl_Unlike => k_is)
    (case xc_Unlike => k_is)
    (case xd_Unlike => k_is)
    (case xv_Unlike => rfl)
    (case xe_Unlike => k_is)
    (case xf_Unlike => k_is)
    (case xs_Unlike => kernel_rfl)
    (case aC => k_is)
    (case pg => k_is)
    (case ic => k_is)
    (case po => k_is)
    (case sa => k_is)
    (case ats => k_is)
    (case gts => k_is)
    (case tks => k_is)
    (case tys => k_is)
    (case ixs => k_is)
    (case mkC => k_is)
    (case kpC => k_is)
    (case eq_ca => k_is)
    (case eq_cn => k_is)
    (case eq_ct => k_is)
    (case eq_cm => k_is)
    (case eq_ml => k_is)
    (case eq_ne => k_is)
    (case eq_k0 => kernel_rfl)
    (case eq_k1 => kernel_rfl)
    (case eq_k2 => kernel_rfl)
    (case eq_k3 => kernel_rfl)
    (case eq_k4 => kernel_rfl)
    (case eq_k5 => kernel_rfl)
    (case eq_k6 => kernel_rfl)
    (case eqa => kernel_rfl)
    (case a_Bench => k_is)
    (case pg_Bench => k_is)
    (case hd_Bench => k_is)
    (case po_Bench => k_is)
    (case sa_Bench => k_is)
    (case na_Bench_bonds => k_is)
    (case na_Bench_first => k_is)
    (case na_Bench_held => k_is)
    (case na_Bench_later => k_is)
    (case mk_Bench => k_is)
    (case kp_Bench => k_is)
    (case tw_ca => k_is)
    (case tw_cm => k_is)
    (case tw_ne => k_is)
    (case tw_z => kernel_rfl)
    (case a_is_whole => k_is)
    (case l_is_whole => k_is)
    (case c_is_whole => k_is)
    (case k_is_whole => k_is)
    (case a_is_among => k_is)
    (case l_is_among => k_is)
    (case c_is_among => k_is)
    (case k_is_among => k_is)
    (case a_is_list => k_is)
    (case l_is_list => k_is)
    (case c_is_list => k_is)
    (case k_is_list => k_is)
    (case a_is_bond => k_is)
    (case l_is_bond => k_is)
    (case c_is_bond => k_is)
    (case k_is_bond => k_is)
    (case a_need_rows => k_is)
    (case l_need_rows => k_is)
    (case c_need_rows => k_is)
    (case k_need_rows => k_is)
    (case a_Bonds___init__ => k_is)
    (case i_Bonds___init__ => k_is)
    (case l_Bonds___init__ => k_is)
    (case c_Bonds___init__ => k_is)
    (case k_Bonds___init__ => k_is)
    (case a_Bonds___len__ => k_is)
    (case i_Bonds___len__ => k_is)
    (case l_Bonds___len__ => k_is)
    (case c_Bonds___len__ => k_is)
    (case k_Bonds___len__ => k_is)
    (case a_Bonds___eq__ => k_is)
    (case i_Bonds___eq__ => k_is)
    (case l_Bonds___eq__ => k_is)
    (case c_Bonds___eq__ => k_is)
    (case k_Bonds___eq__ => k_is)
    (case a_need_word => k_is)
    (case l_need_word => k_is)
    (case c_need_word => k_is)
    (case k_need_word => k_is)
    (case a_Bench___init__ => k_is)
    (case i_Bench___init__ => k_is)
    (case l_Bench___init__ => k_is)
    (case c_Bench___init__ => k_is)
    (case k_Bench___init__ => k_is)
    (case a_Bench_deeds => k_is)
    (case i_Bench_deeds => k_is)
    (case l_Bench_deeds => k_is)
    (case c_Bench_deeds => k_is)
    (case k_Bench_deeds => k_is)
    (case a_Bench___eq__ => k_is)
    (case i_Bench___eq__ => k_is)
    (case l_Bench___eq__ => k_is)
    (case c_Bench___eq__ => k_is)
    (case k_Bench___eq__ => k_is)
    (case a__law_mixed => k_is)
    (case l__law_mixed => k_is)
    (case c__law_mixed => k_is)
    (case k__law_mixed => k_is)
    (case a__law_folded => k_is)
    (case l__law_folded => k_is)
    (case c__law_folded => k_is)
    (case k__law_folded => k_is)
    (case a__law_draw => k_is)
    (case l__law_draw => k_is)
    (case c__law_draw => k_is)
    (case k__law_draw => k_is)
    (case a__law_begun => k_is)
    (case l__law_begun => k_is)
    (case c__law_begun => k_is)
    (case k__law_begun => k_is)
    (case a__law_each_right => k_is)
    (case l__law_each_right => k_is)
    (case c__law_each_right => k_is)
    (case k__law_each_right => k_is)
    (case a_law => k_is)
    (case l_law => k_is)
    (case c_law => k_is)
    (case k_law => k_is)
