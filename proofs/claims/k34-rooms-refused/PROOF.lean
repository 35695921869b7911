import PyProof.Rows.All
import Wide.All
import OpenK.AllK
import Wide.FinOn
import HandS.ForMost
import KE.KDictKeyed
import HandS.Iter
import HandS.More
import HandS.HeadHook3
import KE.SortData
import HandS.Wide
import HandS.StrMore
import HandS.IsInst
import HandS.ForExc
import HandS.TupAny
import HandS.TupLe
import HandS.Rev
import HandS.Conv
import HandS.Deep
import HandS.Replace
import HandS.Set
import HandS.SetFor
import HandS.Zip
import HandS.Style
import HandS.Flt
import HandS.NoneIn
import HandS.Defaults
import HandS.Comp
import HandS.WordsExc
import HandS.Dict
import KE.KDictDisplayH
import HandS.ExcOwn
import HandS.Small
import HandS.Exc
import HandS.ExcIs
import HandS.TryOnly
import HandS.Codes
import HandS.Head2
import HandS.HeadHook2
import HandS.HeadEnd
import HandS.HeadWalk
import HandS.MakeKw
import PySem.Challenge.RW_nearfind_k34_rooms_refused
set_option Elab.async false
set_option linter.all false
set_option maxRecDepth 100000
set_option autoImplicit false
/-! data, and how a value of the hand layer stands for it -/
namespace Nf
open PySem PySem.Spec L2
abbrev Sg := L2.St
abbrev tl (x : Str) : List Nat := x.cps.toList

/-- data: fz is a list that is only read (the script) -/
inductive D where
  | non | bl (b : Bool) | int (i : Int) | str (s : List Nat)
  | tup (xs : List D) | lst (xs : List D) | fz (xs : List D) | dic (ks vs : List D)

def kD : Key → D
  | .inl i => .int i
  | .inr x => .str (tl x)

mutual
def Rep (K : PySem.W.Frag) (S : Hp) : D → V → Prop
  | .non, v => v = .non
  | .bl b, v => v = .bl b
  | .int i, v => v = .int i
  | .str s, v => v = .str ⟨s.toArray⟩
  | .tup ds, v => ∃ a xs, v = .ref a ∧ SqT K S a xs ∧ RepL K S ds xs
  | .lst ds, v => ∃ a xs, v = .ref a ∧ S a = some (.lst xs) ∧ RepL K S ds xs
  | .fz ds, v => ∃ a xs, v = .ref a ∧ SqL K S a xs ∧ RepL K S ds xs
  | .dic ks vs, v => ∃ a kvs, v = .ref a ∧ Rd S a (.dK kvs) ∧ ks = kvs.map (fun p => kD p.1) ∧ RepL K S vs (kvs.map (·.2))
def RepL (K : PySem.W.Frag) (S : Hp) : List D → List V → Prop
  | [], vs => vs = []
  | d :: ds, vs => ∃ v r, vs = v :: r ∧ Rep K S d v ∧ RepL K S ds r
end

section
variable {K : PySem.W.Frag} {S S' H : Hp}
theorem rd_mono {a : Addr} {u : HO} (e : Same S S') (h : Rd S a u) : Rd S' a u := by
  rcases h with h | ⟨o, h⟩
  · exact .inl (e _ _ h)
  · exact .inr ⟨o, e _ _ h⟩
theorem sqT_mono {a : Addr} {xs : List V} (e : Same S S') (h : SqT K S a xs) : SqT K S' a xs := by
  rcases h with (h | ⟨o, h⟩) | h
  · exact .inl (.inl (e _ _ h))
  · exact .inl (.inr ⟨o, e _ _ h⟩)
  · exact .inr h
theorem sqL_mono {a : Addr} {xs : List V} (e : Same S S') (h : SqL K S a xs) : SqL K S' a xs := by
  rcases h with (h | ⟨o, h⟩) | h
  · exact .inl (.inl (e _ _ h))
  · exact .inl (.inr ⟨o, e _ _ h⟩)
  · exact .inr h
mutual
theorem Rep.mono (e : Same S S') : ∀ {d : D} {v : V}, Rep K S d v → Rep K S' d v
  | .non, _, h => h
  | .bl _, _, h => h
  | .int _, _, h => h
  | .str _, _, h => h
  | .tup ds, _, h => by
    unfold Rep at h ⊢
    obtain ⟨a, xs, e1, h1, h2⟩ := h
    exact ⟨a, xs, e1, sqT_mono e h1, RepL.mono e h2⟩
  | .lst ds, _, h => by
    unfold Rep at h ⊢
    obtain ⟨a, xs, e1, h1, h2⟩ := h
    exact ⟨a, xs, e1, e _ _ h1, RepL.mono e h2⟩
  | .fz ds, _, h => by
    unfold Rep at h ⊢
    obtain ⟨a, xs, e1, h1, h2⟩ := h
    exact ⟨a, xs, e1, e.seq h1, RepL.mono e h2⟩
  | .dic ks vs, _, h => by
    unfold Rep at h ⊢
    obtain ⟨a, kvs, e1, h1, h2, h3⟩ := h
    exact ⟨a, kvs, e1, rd_mono e h1, h2, RepL.mono e h3⟩
theorem RepL.mono (e : Same S S') : ∀ {ds : List D} {vs : List V}, RepL K S ds vs → RepL K S' ds vs
  | [], _, h => h
  | d :: ds, _, h => by
    unfold RepL at h ⊢
    obtain ⟨v, r, e1, h1, h2⟩ := h
    exact ⟨v, r, e1, Rep.mono e h1, RepL.mono e h2⟩
end

/-! deeply unchangeable data -/
mutual
def imm : D → Bool
  | .non => true | .bl _ => true | .int _ => true | .str _ => true
  | .tup ds => immL ds
  | .lst _ => false | .fz _ => false | .dic _ _ => false
def immL : List D → Bool
  | [] => true
  | d :: ds => imm d && immL ds
end
mutual
theorem Rep.imm_of (e : ∀ a xs, SqT K S a xs → SqT K S' a xs) : ∀ {d : D} {v : V}, imm d = true → Rep K S d v → Rep K S' d v
  | .non, _, _, h => h
  | .bl _, _, _, h => h
  | .int _, _, _, h => h
  | .str _, _, _, h => h
  | .tup ds, _, i, h => by
    unfold Rep at h ⊢
    unfold imm at i
    obtain ⟨a, xs, e1, h1, h2⟩ := h
    exact ⟨a, xs, e1, e _ _ h1, RepL.imm_of e i h2⟩
  | .lst _, _, i, _ => by unfold imm at i; cases i
  | .fz _, _, i, _ => by unfold imm at i; cases i
  | .dic _ _, _, i, _ => by unfold imm at i; cases i
theorem RepL.imm_of (e : ∀ a xs, SqT K S a xs → SqT K S' a xs) : ∀ {ds : List D} {vs : List V}, immL ds = true → RepL K S ds vs → RepL K S' ds vs
  | [], _, _, h => h
  | d :: ds, _, i, h => by
    unfold RepL at h ⊢
    unfold immL at i
    rw [Bool.and_eq_true] at i
    obtain ⟨v, r, e1, h1, h2⟩ := h
    exact ⟨v, r, e1, Rep.imm_of e i.1 h1, RepL.imm_of e i.2 h2⟩
end

theorem RepL.len : ∀ {ds : List D} {vs : List V}, RepL K S ds vs → vs.length = ds.length
  | [], _, h => by unfold RepL at h; rw [h]; rfl
  | d :: ds, _, h => by
    unfold RepL at h
    obtain ⟨v, r, rfl, _, h2⟩ := h
    simp [RepL.len h2]
theorem RepL.nil : RepL K S [] [] := by unfold RepL; rfl
theorem RepL.cons {d : D} {ds : List D} {v : V} {vs : List V} (h : Rep K S d v) (h2 : RepL K S ds vs) : RepL K S (d :: ds) (v :: vs) := by
  unfold RepL; exact ⟨v, vs, rfl, h, h2⟩
theorem RepL.get : ∀ {ds : List D} {vs : List V} {i : Nat} {d : D}, RepL K S ds vs → ds[i]? = some d → ∃ v, vs[i]? = some v ∧ Rep K S d v
  | [], _, _, _, _, e => by simp at e
  | d :: ds, _, 0, d', h, e => by
    unfold RepL at h
    obtain ⟨v, r, rfl, h1, _⟩ := h
    simp at e; subst e
    exact ⟨v, rfl, h1⟩
  | d :: ds, _, i + 1, d', h, e => by
    unfold RepL at h
    obtain ⟨v, r, rfl, _, h2⟩ := h
    obtain ⟨v', e1, h3⟩ := RepL.get (i := i) h2 (by simpa using e)
    exact ⟨v', by simpa using e1, h3⟩
theorem RepL.append : ∀ {ds es : List D} {vs ws : List V}, RepL K S ds vs → RepL K S es ws → RepL K S (ds ++ es) (vs ++ ws)
  | [], _, _, _, h, h2 => by unfold RepL at h; subst h; exact h2
  | d :: ds, _, _, _, h, h2 => by
    unfold RepL at h
    obtain ⟨v, r, rfl, h1, h3⟩ := h
    exact .cons h1 (RepL.append h3 h2)
theorem RepL.one {d : D} {v : V} (h : Rep K S d v) : RepL K S [d] [v] := .cons h .nil
theorem RepL.take : ∀ (n : Nat) {ds : List D} {vs : List V}, RepL K S ds vs → RepL K S (ds.take n) (vs.take n)
  | 0, _, _, _ => by simpa using RepL.nil
  | n + 1, [], _, h => by unfold RepL at h; subst h; simpa using RepL.nil
  | n + 1, d :: ds, _, h => by
    unfold RepL at h
    obtain ⟨v, r, rfl, h1, h2⟩ := h
    simpa using RepL.cons h1 (RepL.take n h2)
theorem RepL.drop : ∀ (n : Nat) {ds : List D} {vs : List V}, RepL K S ds vs → RepL K S (ds.drop n) (vs.drop n)
  | 0, _, _, h => by simpa using h
  | n + 1, [], _, h => by unfold RepL at h; subst h; simpa using RepL.nil
  | n + 1, d :: ds, _, h => by
    unfold RepL at h
    obtain ⟨v, r, rfl, h1, h2⟩ := h
    simpa using RepL.drop n h2
theorem RepL.set {d : D} {v : V} (hv : Rep K S d v) : ∀ (n : Nat) {ds : List D} {vs : List V}, RepL K S ds vs → RepL K S (ds.set n d) (vs.set n v)
  | _, [], _, h => by unfold RepL at h; subst h; simpa using RepL.nil
  | 0, d :: ds, _, h => by
    unfold RepL at h
    obtain ⟨w, r, rfl, h1, h2⟩ := h
    exact RepL.cons hv h2
  | n + 1, d :: ds, _, h => by
    unfold RepL at h
    obtain ⟨w, r, rfl, h1, h2⟩ := h
    exact RepL.cons h1 (RepL.set hv n h2)
theorem RepL.reverse : ∀ {ds : List D} {vs : List V}, RepL K S ds vs → RepL K S ds.reverse vs.reverse
  | [], _, h => by unfold RepL at h; subst h; exact .nil
  | d :: ds, _, h => by
    unfold RepL at h
    obtain ⟨w, r, rfl, h1, h2⟩ := h
    rw [List.reverse_cons, List.reverse_cons]
    exact (RepL.reverse h2).append (.one h1)
theorem RepL.dropLast {ds : List D} {vs : List V} (h : RepL K S ds vs) : RepL K S ds.dropLast vs.dropLast := by
  rw [List.dropLast_eq_take, List.dropLast_eq_take, h.len]
  exact h.take _
theorem RepL.eraseIdx : ∀ (n : Nat) {ds : List D} {vs : List V}, RepL K S ds vs → RepL K S (ds.eraseIdx n) (vs.eraseIdx n)
  | _, [], _, h => by unfold RepL at h; subst h; simpa using RepL.nil
  | 0, d :: ds, _, h => by
    unfold RepL at h
    obtain ⟨w, r, rfl, h1, h2⟩ := h
    simpa using h2
  | n + 1, d :: ds, _, h => by
    unfold RepL at h
    obtain ⟨w, r, rfl, h1, h2⟩ := h
    simpa using RepL.cons h1 (RepL.eraseIdx n h2)
theorem RepL.ints : ∀ {ns : List Int} {vs : List V}, RepL K S (ns.map D.int) vs → vs = ns.map V.int
  | [], _, h => h
  | n :: ns, _, h => by
    simp only [List.map_cons, RepL, Rep] at h
    obtain ⟨v, r, rfl, rfl, h2⟩ := h
    rw [RepL.ints h2]; rfl
theorem RepL.of_ints : ∀ (ns : List Int), RepL K S (ns.map D.int) (ns.map V.int)
  | [] => .nil
  | n :: ns => .cons rfl (RepL.of_ints ns)
theorem RepL.strs : ∀ {ns : List (List Nat)} {vs : List V}, RepL K S (ns.map D.str) vs → vs = ns.map (fun s => V.str ⟨s.toArray⟩)
  | [], _, h => h
  | n :: ns, _, h => by
    simp only [List.map_cons, RepL, Rep] at h
    obtain ⟨v, r, rfl, rfl, h2⟩ := h
    rw [RepL.strs h2]; rfl
theorem RepL.of_strs : ∀ (ns : List (List Nat)), RepL K S (ns.map D.str) (ns.map (fun s => V.str ⟨s.toArray⟩))
  | [] => .nil
  | n :: ns => .cons rfl (RepL.of_strs ns)
theorem RepL.bls : ∀ {ns : List Bool} {vs : List V}, RepL K S (ns.map D.bl) vs → vs = ns.map V.bl
  | [], _, h => h
  | n :: ns, _, h => by
    simp only [List.map_cons, RepL, Rep] at h
    obtain ⟨v, r, rfl, rfl, h2⟩ := h
    rw [RepL.bls h2]; rfl
/-- a permutation of the values goes over to the data -/
theorem RepL.mem : ∀ {ds : List D} {vs : List V} {d : D}, RepL K S ds vs → d ∈ ds → ∃ v ∈ vs, Rep K S d v
  | [], _, _, _, m => by cases m
  | d :: ds, _, d', h, m => by
    unfold RepL at h
    obtain ⟨v, r, rfl, h1, h2⟩ := h
    rcases List.mem_cons.mp m with rfl | m
    · exact ⟨v, List.mem_cons_self, h1⟩
    · obtain ⟨v', m', h3⟩ := RepL.mem h2 m
      exact ⟨v', List.mem_cons_of_mem _ m', h3⟩
end

/-- data as it stands just now: a list's own object in H, its items in S -/
def View (K : PySem.W.Frag) (S H : Hp) : D → V → Prop
  | .lst ds, v => ∃ a xs, v = .ref a ∧ H a = some (.lst xs) ∧ RepL K S ds xs
  | .dic ks vs, v => ∃ a kvs, v = .ref a ∧ Rd H a (.dK kvs) ∧ ks = kvs.map (fun p => kD p.1) ∧ RepL K S vs (kvs.map (·.2))
  | d, v => Rep K S d v
section
variable {K : PySem.W.Frag} {S S' H : Hp}
theorem Rep.view (e : Same S H) : ∀ {d : D} {v : V}, Rep K S d v → View K S H d v
  | .non, _, h => h
  | .bl _, _, h => h
  | .int _, _, h => h
  | .str _, _, h => h
  | .tup ds, _, h => h
  | .lst ds, _, h => by
    unfold Rep at h
    obtain ⟨a, xs, e1, h1, h2⟩ := h
    exact ⟨a, xs, e1, e _ _ h1, h2⟩
  | .fz ds, _, h => h
  | .dic ks vs, _, h => by
    unfold Rep at h
    obtain ⟨a, kvs, e1, h1, h2, h3⟩ := h
    exact ⟨a, kvs, e1, rd_mono e h1, h2, h3⟩
theorem View.rep (e : Same S H) : ∀ {d : D} {v : V}, View K S H d v → Rep K H d v
  | .non, _, h => h
  | .bl _, _, h => h
  | .int _, _, h => h
  | .str _, _, h => h
  | .tup ds, _, h => Rep.mono e h
  | .lst ds, _, h => by
    obtain ⟨a, xs, e1, h1, h2⟩ := h
    unfold Rep
    exact ⟨a, xs, e1, h1, h2.mono e⟩
  | .fz ds, _, h => Rep.mono e h
  | .dic ks vs, _, h => by
    obtain ⟨a, kvs, e1, h1, h2, h3⟩ := h
    unfold Rep
    exact ⟨a, kvs, e1, h1, h2, h3.mono e⟩
end

/-! ### owned objects -/
inductive Own where
  | lst (ds : List D) | dic (ks vs : List D) | obj (c : List Nat) (st : D) | dtp (es : List (List Leaf × D))

/-- the names that attributes have in this program -/
def attrNames : List Str := ["pattern", "most", "prices", "columns", "signs", "many", "full", "levels", "count", "top", "below"].map Str.ofString
/-- a class whose instances have attributes by these names -/
structure ClsF (K : PySem.W.Frag) (C : Addr) : Prop where
  c : Cls K C
  n : ∀ f ∈ attrNames, NoAttr K C f
structure Base where
  K : PySem.W.Frag
  mg : Str → Option Value
  P : Program
  w : World
/-- attributes' values: .fz is a list that the object has for itself -/
def AtR (K : PySem.W.Frag) (S H : Hp) : List D → List V → List Addr → Prop
  | [], vs, os => vs = [] ∧ os = []
  | .fz es :: ds, vs, os => ∃ v r b os' xs, vs = v :: r ∧ v = .ref b ∧ os = b :: os' ∧ H b = some (.lst xs) ∧ RepL K S es xs ∧ AtR K S H ds r os'
  | d :: ds, vs, os => ∃ v r, vs = v :: r ∧ Rep K S d v ∧ AtR K S H ds r os
def isFz : D → Bool
  | .fz _ => true
  | _ => false
theorem atR_cons {K : PySem.W.Frag} {S H : Hp} {d : D} {ds : List D} {vs : List V} {os : List Addr} (h : isFz d = false) : AtR K S H (d :: ds) vs os = ∃ v r, vs = v :: r ∧ Rep K S d v ∧ AtR K S H ds r os := by
  cases d <;> first | rfl | cases h
/-- an object of an own class: its attributes' names and values -/
def Base.orel (B : Base) (c : List Nat) (st : D) (S H : Hp) (a : Addr) (fp : List Addr) : Prop := ∃ C dx fs ks vs os, st = .dic ks vs ∧ B.mg ⟨c.toArray⟩ = some (.ref C) ∧ ClsF B.K C ∧ fp = a :: dx :: os ∧ H a = some (.ins C dx fs) ∧ H dx = some (.own a) ∧
  ks = fs.map (fun q => D.str (tl q.1)) ∧ AtR B.K S H vs (fs.map (·.2)) os ∧ (∀ q ∈ fs, q.1 ∈ attrNames) ∧ (fs.map (·.1)).Nodup ∧ os.Nodup
theorem repL_map {K : PySem.W.Frag} {S S' : Hp} (h : ∀ d v, Rep K S d v → Rep K S' d v) : ∀ {ds : List D} {vs : List V}, RepL K S ds vs → RepL K S' ds vs
  | [], _, q => by unfold RepL at q ⊢; exact q
  | d :: ds, _, q => by
    unfold RepL at q ⊢
    obtain ⟨v, r, e, h1, h2⟩ := q
    exact ⟨v, r, e, h d v h1, repL_map h h2⟩
theorem AtR.map {K : PySem.W.Frag} {S S' H H' : Hp} (e : ∀ d v, Rep K S d v → Rep K S' d v) : ∀ {ds : List D} {vs : List V} {os : List Addr}, AtR K S H ds vs os → (∀ b ∈ os, H' b = H b) → AtR K S' H' ds vs os
  | [], _, _, h, _ => h
  | d :: ds, vs, os, h, k => by
    cases q : isFz d with
    | false =>
      rw [atR_cons q] at h ⊢
      obtain ⟨v, r, e1, h1, h2⟩ := h
      exact ⟨v, r, e1, e d v h1, h2.map e k⟩
    | true =>
      cases d with
      | fz es =>
        obtain ⟨v, r, b, os', xs, e1, e2, e3, h1, h2, h3⟩ := h
        subst e3
        exact ⟨v, r, b, os', xs, e1, e2, rfl, by rw [k b (by simp)]; exact h1, repL_map e h2, h3.map e fun c hc => k c (by simp [hc])⟩
      | _ => cases q
theorem AtR.live {K : PySem.W.Frag} {S H : Hp} : ∀ {ds : List D} {vs : List V} {os : List Addr}, AtR K S H ds vs os → ∀ b ∈ os, ∃ xs, H b = some (.lst xs)
  | [], _, _, h, b, hb => by rw [h.2] at hb; cases hb
  | d :: ds, vs, os, h, b, hb => by
    cases q : isFz d with
    | false =>
      rw [atR_cons q] at h
      obtain ⟨v, r, e1, h1, h2⟩ := h
      exact h2.live b hb
    | true =>
      cases d with
      | fz es =>
        obtain ⟨v, r, b', os', xs, e1, e2, e3, h1, h2, h3⟩ := h
        subst e3
        rcases List.mem_cons.mp hb with rfl | hb
        · exact ⟨xs, h1⟩
        · exact h3.live b hb
      | _ => cases q
section
variable {B : Base} {c : List Nat} {st : D} {S H S' H' : Hp} {a : Addr} {fp : List Addr}
theorem Base.olk (B : Base) (h : B.orel c st S H a fp) (e : ∀ d v, Rep B.K S d v → Rep B.K S' d v) (k : ∀ b ∈ fp, H' b = H b) : B.orel c st S' H' a fp := by
  obtain ⟨C, dx, fs, ks, vs, os, h1, h2, h3, h4, h5, h6, h7, h8, h9, h10, h11⟩ := h
  subst h4
  exact ⟨C, dx, fs, ks, vs, os, h1, h2, h3, rfl, by rw [k a (by simp)]; exact h5, by rw [k dx (by simp)]; exact h6, h7, h8.map e fun b hb => k b (by simp [hb]), h9, h10, h11⟩
theorem Base.ostab (B : Base) (h : B.orel c st S H a fp) (e : Same S S') (k : ∀ b ∈ fp, H' b = H b) : B.orel c st S' H' a fp := B.olk h (fun d v r => r.mono e) k
theorem Base.olive (B : Base) (h : B.orel c st S H a fp) : ∀ b ∈ fp, H b ≠ none := by
  obtain ⟨C, dx, fs, ks, vs, os, h1, h2, h3, h4, h5, h6, h7, h8, h9, h10, h11⟩ := h
  subst h4
  intro b hb
  simp only [List.mem_cons] at hb
  rcases hb with rfl | rfl | hb
  · rw [h5]; exact fun z => by cases z
  · rw [h6]; exact fun z => by cases z
  · obtain ⟨xs, e⟩ := h8.live b hb
    rw [e]; exact fun z => by cases z
theorem Base.oself (B : Base) (h : B.orel c st S H a fp) : a ∈ fp := by
  obtain ⟨C, dx, fs, ks, vs, os, h1, h2, h3, h4, _⟩ := h
  subst h4; simp
theorem Base.oimm (B : Base) (h : B.orel c st S H a fp) (i : imm st = true) : B.orel c st S' H a fp := by
  obtain ⟨C, dx, fs, ks, vs, os, h1, _⟩ := h
  subst h1
  unfold imm at i; cases i
end

/-! dicts whose keys are tuples of numbers, texts, truths and None -/
def lfV : V → Option Leaf
  | .non => some .none
  | .int i => some (.num i)
  | .bl b => some (.num (if b = true then 1 else 0))
  | .str x => some (.text x)
  | _ => none
def lfD : D → Option Leaf
  | .non => some .none
  | .int i => some (.num i)
  | .bl b => some (.num (if b = true then 1 else 0))
  | .str s => some (.text ⟨s.toArray⟩)
  | _ => none
def leafs : List D → Option (List Leaf)
  | [] => some []
  | d :: ds => match lfD d, leafs ds with
    | some x, some xs => some (x :: xs)
    | _, _ => none
abbrev KX : List (List Leaf × Addr × V) → List (List Leaf × Addr × Value) → Prop := Paired fun p q => p.1 = q.1 ∧ p.2.1 = q.2.1 ∧ RelV p.2.2 q.2.2
def XOk (P : Program) (w : World) (a : Addr) (r : List (List Leaf × Addr × V)) (h : Heap) : Prop := r.length ≤ sizeLine ∧ (a == sysModules) = false ∧ ∃ xs : List (List Leaf × Addr × Value), KX r xs ∧
  ∃ o es ep, h.get? a = some o ∧ o.ExactDict ∧ o.data = .dict es ep ∧ es.toList = xs.map (entryOfKey (tupleKind (leafKind P w))) ∧ (xs.map (·.1)).Nodup
/-- a dict with tuples as keys: the keys, where they stand, the values -/
def XO (P : Program) (w : World) (a : Addr) (r : List (List Leaf × Addr × V)) : HO := .ext (XOk P w a r)
abbrev XR := List (List Leaf × Addr × V)
def XRel (B : Base) (S : Hp) (es : List (List Leaf × D)) (r : XR) : Prop :=
  Paired (fun (e : List Leaf × D) (q : List Leaf × Addr × V) => q.1 = e.1 ∧ (∃ xs, SqT B.K S q.2.1 xs ∧ xs.map lfV = q.1.map some) ∧ Rep B.K S e.2 q.2.2) es r
theorem lf_rep {K : PySem.W.Frag} {S : Hp} {d : D} {v : V} {x : Leaf} (r : Rep K S d v) (h : lfD d = some x) : lfV v = some x := by
  cases d with
  | non => unfold Rep at r; subst r; exact h
  | bl b => unfold Rep at r; subst r; exact h
  | int i => unfold Rep at r; subst r; exact h
  | str s => unfold Rep at r; subst r; exact h
  | _ => cases h
theorem lfs_rep {K : PySem.W.Frag} {S : Hp} : ∀ {ds : List D} {vs : List V} {k : List Leaf}, RepL K S ds vs → leafs ds = some k → vs.map lfV = k.map some
  | [], vs, k, r, h => by
    unfold RepL at r; subst r
    unfold leafs at h; cases h; rfl
  | d :: ds, vs, k, r, h => by
    unfold RepL at r
    obtain ⟨v, w, rfl, h1, h2⟩ := r
    unfold leafs at h
    split at h
    · rename_i x xs e1 e2
      cases h
      rw [List.map_cons, List.map_cons, lf_rep h1 e1, lfs_rep h2 e2]
    · cases h
theorem XRel.olk {B : Base} {S S' : Hp} {es : List (List Leaf × D)} {r : XR} (h : XRel B S es r) (e : ∀ d v, Rep B.K S d v → Rep B.K S' d v) (t : ∀ b xs, SqT B.K S b xs → SqT B.K S' b xs) : XRel B S' es r :=
  Paired.mapP h fun _ _ z => ⟨z.1, let ⟨xs, h1, h2⟩ := z.2.1; ⟨xs, t _ _ h1, h2⟩, e _ _ z.2.2⟩
theorem XRel.mono {B : Base} {S S' : Hp} {es : List (List Leaf × D)} {r : XR} (h : XRel B S es r) (e : Same S S') : XRel B S' es r := h.olk (fun _ _ z => z.mono e) fun _ _ z => sqT_mono e z
theorem XRel.imm_of {B : Base} {S S' : Hp} (t : ∀ b xs, SqT B.K S b xs → SqT B.K S' b xs) : ∀ {es : List (List Leaf × D)} {r : XR}, XRel B S es r → immL (es.map (·.2)) = true → XRel B S' es r
  | _, _, .nil, _ => .nil
  | _, _, .cons z g, i => by
    rw [List.map_cons] at i
    unfold immL at i
    rw [Bool.and_eq_true] at i
    exact .cons ⟨z.1, let ⟨xs, h1, h2⟩ := z.2.1; ⟨xs, t _ _ h1, h2⟩, Rep.imm_of t i.1 z.2.2⟩ (XRel.imm_of t g i.2)

def OwnRel (B : Base) (S H : Hp) : Own → Addr → List Addr → Prop
  | .lst ds, a, fp => fp = [a] ∧ ∃ xs, H a = some (.lst xs) ∧ RepL B.K S ds xs
  | .dic ks vs, a, fp => fp = [a] ∧ ∃ kvs, H a = some (.dK kvs) ∧ ks = kvs.map (fun p => kD p.1) ∧ RepL B.K S vs (kvs.map (·.2))
  | .obj c st, a, fp => B.orel c st S H a fp
  | .dtp es, a, fp => fp = [a] ∧ ∃ r, H a = some (XO B.P B.w a r) ∧ XRel B S es r
section
variable {B : Base} {S S' H H' : Hp} {o : Own} {a : Addr} {fp : List Addr}
theorem OwnRel.stab (h : OwnRel B S H o a fp) (e : Same S S') (k : ∀ b ∈ fp, H' b = H b) : OwnRel B S' H' o a fp := by
  cases o with
  | lst ds =>
    obtain ⟨rfl, xs, h1, h2⟩ := h
    exact ⟨rfl, xs, by rw [k a (by simp)]; exact h1, h2.mono e⟩
  | dic ks vs =>
    obtain ⟨rfl, kvs, h1, h2, h3⟩ := h
    exact ⟨rfl, kvs, by rw [k a (by simp)]; exact h1, h2, h3.mono e⟩
  | obj c st => exact B.ostab h e k
  | dtp es =>
    obtain ⟨rfl, r, h1, h2⟩ := h
    exact ⟨rfl, r, by rw [k a (by simp)]; exact h1, h2.mono e⟩
def immO : Own → Bool
  | .lst ds => immL ds
  | .dic _ vs => immL vs
  | .obj _ st => imm st
  | .dtp es => immL (es.map (·.2))
theorem OwnRel.imm_of (h : OwnRel B S H o a fp) (i : immO o = true) (e : ∀ b xs, SqT B.K S b xs → SqT B.K S' b xs) : OwnRel B S' H o a fp := by
  cases o with
  | lst ds =>
    obtain ⟨rfl, xs, h1, h2⟩ := h
    exact ⟨rfl, xs, h1, RepL.imm_of e i h2⟩
  | dic ks vs =>
    obtain ⟨rfl, kvs, h1, h2, h3⟩ := h
    exact ⟨rfl, kvs, h1, h2, RepL.imm_of e i h3⟩
  | obj c st => exact B.oimm h i
  | dtp es =>
    obtain ⟨rfl, r, h1, h2⟩ := h
    exact ⟨rfl, r, h1, h2.imm_of e i⟩
theorem OwnRel.live (h : OwnRel B S H o a fp) : ∀ b ∈ fp, H b ≠ none := by
  cases o with
  | lst ds =>
    obtain ⟨rfl, xs, h1, h2⟩ := h
    intro b hb
    have e : b = a := by simpa using hb
    subst e
    rw [h1]; exact fun z => by cases z
  | dic ks vs =>
    obtain ⟨rfl, kvs, h1, h2, h3⟩ := h
    intro b hb
    have e : b = a := by simpa using hb
    subst e
    rw [h1]; exact fun z => by cases z
  | obj c st => exact B.olive h
  | dtp es =>
    obtain ⟨rfl, r, h1, h2⟩ := h
    intro b hb
    have e : b = a := by simpa using hb
    subst e
    rw [h1]; exact fun z => by cases z
theorem OwnRel.self (h : OwnRel B S H o a fp) : a ∈ fp := by
  cases o with
  | lst ds => obtain ⟨rfl, _⟩ := h; simp
  | dic ks vs => obtain ⟨rfl, _⟩ := h; simp
  | obj c st => exact B.oself h
  | dtp es => obtain ⟨rfl, _⟩ := h; simp
end

/-! ### slots and the state -/
inductive Slot where
  | no | sh (d : D) | ow (o : Own)
abbrev Ev := List Slot
/-- what stood at the def's entry: the shared part, the heap, the footprints of what is lent, the values, the lent slots -/
structure Ent where
  S0 : Hp
  H0 : Hp
  F0 : Nat → List Addr
  v0 : Sg
  refs : List Nat

structure StOk (B : Base) (N : Ent) (σ : Sg) (env : Ev) (S H : Hp) (F : Nat → List Addr) : Prop where
  s0 : Same N.S0 S
  sub : Same S H
  frame : ∀ b o, N.H0 b = some o → (∀ i, b ∉ N.F0 i) → H b = some o
  fresh : ∀ b, N.S0 b = none → N.H0 b ≠ none → S b = none
  val : ∀ (i : Nat) (d : D), env[i]? = some (.sh d) → ∃ v, σ[i]? = some (some v) ∧ Rep B.K S d v
  own : ∀ (i : Nat) (o : Own), env[i]? = some (.ow o) → ∃ a, σ[i]? = some (some (.ref a)) ∧ OwnRel B S H o a (F i)
  priv : ∀ (i : Nat) (b : Addr), b ∈ F i → S b = none ∧ H b ≠ none ∧ (b ∈ N.F0 i ∨ N.H0 b = none)
  dj : ∀ (i j : Nat) (b : Addr), b ∈ F i → b ∈ F j → i = j
  pin : ∀ i ∈ N.refs, σ[i]? = N.v0[i]?
  len : env.length = σ.length
  wf : ∀ i, i ∉ N.refs → N.F0 i = []
  f0 : ∀ i b, b ∈ N.F0 i → H b ≠ none

inductive R where
  | v (d : D) | t (o : Own) | l (i : Nat)

/-- what an expression has given: data; a new object that nobody else holds; the object in a slot -/
def RelR (B : Base) (N : Ent) (σ : Sg) (S H : Hp) (F : Nat → List Addr) : R → V → List Addr → Prop
  | .v d, v, fr => Rep B.K S d v ∧ fr = []
  | .t o, v, fr => ∃ a, v = .ref a ∧ OwnRel B S H o a fr ∧ ∀ b ∈ fr, S b = none ∧ N.H0 b = none ∧ ∀ i, b ∉ F i
  | .l i, v, fr => σ[i]? = some (some v) ∧ fr = []

/-- what is wanted of an expression's end -/
def PostE (B : Base) (N : Ent) (σ : Sg) (S : Hp) (K : R → Ev → Prop) (Q : VK) : Prop :=
  ∀ r env' v S' H' F' fr, K r env' → Same S S' → StOk B N σ env' S' H' F' → RelR B N σ S' H' F' r v fr → Q v H'

/-- an expression's meaning: over the slots -/
abbrev WE := Ev → (R → Ev → Prop) → Prop
def LE (B : Base) (N : Ent) (W : WE) : TE := fun σ H Q => ∃ S env F K, StOk B N σ env S H F ∧ W env K ∧ PostE B N σ S K Q

section
variable {B : Base} {N : Ent} {σ : Sg} {env : Ev} {S H S' : Hp} {F : Nat → List Addr} {K : R → Ev → Prop} {Q : VK}
theorem PostE.mono (p : PostE B N σ S K Q) (e : Same S S') : PostE B N σ S' K Q := fun r env' v S1 H1 F1 fr k e1 st rel => p r env' v S1 H1 F1 fr k (e.trans e1) st rel
theorem PostE.giveV (p : PostE B N σ S K Q) {d : D} {v : V} (st : StOk B N σ env S H F) (k : K (.v d) env) (r : Rep B.K S d v) : Q v H :=
  p _ _ _ _ _ _ [] k (Same.refl _) st ⟨r, rfl⟩

theorem same_upd {H : Hp} {p : Addr} {o : HO} (h : H p = none) : Same H (upd H p o) := fun b x e => by
  rw [upd_ne (ne_of_none e h)]
  exact e
theorem same_upd2 {S H : Hp} {p : Addr} {o : HO} (e : Same S H) : Same (upd S p o) (upd H p o) := fun b x q => by
  by_cases hb : b = p
  · subst hb; rw [upd_same] at q ⊢; exact q
  · rw [upd_ne hb] at q ⊢; exact e _ _ q
theorem sub_none (st : StOk B N σ env S H F) {p : Addr} (h : H p = none) : S p = none := st.sub.free h
theorem h0_none (st : StOk B N σ env S H F) {p : Addr} (h : H p = none) : N.H0 p = none := by
  cases q : N.H0 p with
  | none => rfl
  | some o => rw [st.frame p o q fun i hi => st.f0 i p hi h] at h; cases h

/-- a new object is laid in the heap: in the shared part too (share = true), or for oneself -/
theorem StOk.laidH {p : Addr} {o : HO} (st : StOk B N σ env S H F) (h : H p = none) : StOk B N σ env S (upd H p o) F where
  s0 := st.s0
  sub := st.sub.trans (same_upd h)
  frame := fun b x e nf => by
    have q := st.frame b x e nf
    rw [upd_ne (ne_of_none q h)]; exact q
  fresh := st.fresh
  val := st.val
  own := fun i o e => by
    obtain ⟨a, h1, h2⟩ := st.own i o e
    refine ⟨a, h1, h2.stab (Same.refl _) fun b hb => upd_ne ?_⟩
    rintro rfl
    exact (st.priv i _ hb).2.1 h
  priv := fun i b hb => by
    obtain ⟨h1, h2, h3⟩ := st.priv i b hb
    refine ⟨h1, ?_, h3⟩
    rw [upd_ne]
    · exact h2
    · rintro rfl; exact h2 h
  dj := st.dj
  pin := st.pin
  len := st.len
  wf := st.wf
  f0 := fun i b hb => by
    by_cases e : b = p
    · subst e; rw [upd_same]; exact fun z => by cases z
    · rw [upd_ne e]; exact st.f0 i b hb
/-- what is new in the heap goes into the shared part -/
theorem StOk.share {p : Addr} {o : HO} (st : StOk B N σ env S H F) (hp : H p = some o) (hs : S p = none) (hf : ∀ i, p ∉ F i) (h0 : N.H0 p = none) : StOk B N σ env (upd S p o) H F where
  s0 := st.s0.trans (same_upd hs)
  sub := fun b x q => by
    by_cases hb : b = p
    · subst hb; rw [upd_same] at q; cases q; exact hp
    · rw [upd_ne hb] at q; exact st.sub _ _ q
  frame := st.frame
  fresh := fun b e1 e2 => by
    have hb : b ≠ p := by rintro rfl; exact e2 h0
    rw [upd_ne hb]; exact st.fresh b e1 e2
  val := fun i d e => by
    obtain ⟨v, h1, h2⟩ := st.val i d e
    exact ⟨v, h1, h2.mono (same_upd hs)⟩
  own := fun i o e => by
    obtain ⟨a, h1, h2⟩ := st.own i o e
    exact ⟨a, h1, h2.stab (same_upd hs) fun b _ => rfl⟩
  priv := fun i b hb => by
    obtain ⟨h1, h2, h3⟩ := st.priv i b hb
    refine ⟨?_, h2, h3⟩
    rw [upd_ne]
    · exact h1
    · rintro rfl; exact hf i hb
  dj := st.dj
  pin := st.pin
  len := st.len
  wf := st.wf
  f0 := st.f0
theorem StOk.notF (st : StOk B N σ env S H F) {p : Addr} (h : H p = none) (i : Nat) : p ∉ F i := fun hb => (st.priv i p hb).2.1 h
end
end Nf
/-! a dict is locked while it is walked: what stands at d is told in two ways -/
namespace Nf
open PySem PySem.Spec L2
/-- two tellings of the same dict -/
def DL (kvs : List (Key × V)) (o : HO) : Prop := o = .dK kvs ∨ ∃ od, o = .frz od (.dK kvs)
def lk (d : Addr) (o : HO) (A : Hp) : Hp := fun b => if b = d then (match A d with | some _ => some o | none => none) else A b
theorem lk_ne {d b : Addr} {o : HO} {A : Hp} (h : b ≠ d) : lk d o A b = A b := if_neg h
theorem lk_at {d : Addr} {o u : HO} {A : Hp} (h : A d = some u) : lk d o A d = some o := by unfold lk; rw [if_pos rfl, h]
theorem lk_none {d : Addr} {o : HO} {A : Hp} {b : Addr} : lk d o A b = none ↔ A b = none := by
  by_cases e : b = d
  · subst e
    unfold lk
    rw [if_pos rfl]
    cases A b <;> simp
  · rw [lk_ne e]
theorem lk_upd {d : Addr} {o u : HO} {A : Hp} (h : A d = some u) : lk d o A = upd A d o := by
  funext b
  by_cases e : b = d
  · subst e; rw [lk_at h, upd_same]
  · rw [lk_ne e, upd_ne e]
theorem lk_lk {d : Addr} {o u : HO} {A : Hp} (h : A d = none ∨ A d = some u) : lk d u (lk d o A) = A := by
  funext b
  by_cases e : b = d
  · subst e
    rcases h with h | h
    · rw [lk_none.mpr (lk_none.mpr h), h]
    · rw [lk_at (lk_at h), h]
  · rw [lk_ne e, lk_ne e]
theorem DL.rd {kvs kvs' : List (Key × V)} {o : HO} {A : Hp} {d : Addr} (h : DL kvs o) (e : A d = some o) (r : Rd A d (.dK kvs')) : kvs' = kvs := by
  rcases r with r | ⟨od, r⟩
  · rw [e] at r; cases r
    rcases h with h | ⟨od, h⟩
    · cases h; rfl
    · cases h
  · rw [e] at r; cases r
    rcases h with h | ⟨od', h⟩
    · cases h
    · cases h; rfl
theorem DL.here {kvs : List (Key × V)} {o : HO} {A : Hp} {d : Addr} (h : DL kvs o) (e : A d = some o) : Rd A d (.dK kvs) := by
  rcases h with rfl | ⟨od, rfl⟩
  · exact .inl e
  · exact .inr ⟨od, e⟩
theorem DL.noseq {kvs : List (Key × V)} {o : HO} {A : Hp} {d : Addr} {u : HO} (h : DL kvs o) (e : A d = some o) (hu : (∃ xs, u = .lst xs) ∨ ∃ xs, u = .tup xs) (r : Rd A d u) : False := by
  rcases r with r | ⟨od, r⟩
  · rw [e] at r; cases r
    rcases h with rfl | ⟨od, rfl⟩ <;> rcases hu with ⟨xs, z⟩ | ⟨xs, z⟩ <;> cases z
  · rw [e] at r; cases r
    rcases h with z | ⟨od', z⟩
    · cases z
    · cases z; rcases hu with ⟨xs, z⟩ | ⟨xs, z⟩ <;> cases z
section
variable {K : PySem.W.Frag} {S : Hp} {d : Addr} {kvs : List (Key × V)} {u u' : HO}
theorem rd_lk {a : Addr} {x : HO} (n : a ≠ d) (r : Rd S a x) : Rd (lk d u' S) a x := by
  unfold Rd
  rw [lk_ne n]
  exact r
theorem sqT_lk {a : Addr} {xs : List V} (hd : S d = some u) (h : DL kvs u) (h' : DL kvs u') (z : SqT K S a xs) : SqT K (lk d u' S) a xs := by
  rcases z with h1 | h1
  · exact .inl (rd_lk (fun e => by subst e; exact h.noseq hd (.inr ⟨_, rfl⟩) h1) h1)
  · exact .inr h1
mutual
theorem rep_lk (hd : S d = some u) (h : DL kvs u) (h' : DL kvs u') : ∀ {x : D} {v : V}, Rep K S x v → Rep K (lk d u' S) x v
  | .non, _, q => q
  | .bl _, _, q => q
  | .int _, _, q => q
  | .str _, _, q => q
  | .tup ds, _, q => by
    unfold Rep at q ⊢
    obtain ⟨a, xs, e1, h1, h2⟩ := q
    refine ⟨a, xs, e1, ?_, repL_lk hd h h' h2⟩
    rcases h1 with h1 | h1
    · exact .inl (rd_lk (fun e => by subst e; exact h.noseq hd (.inr ⟨_, rfl⟩) h1) h1)
    · exact .inr h1
  | .lst ds, _, q => by
    unfold Rep at q ⊢
    obtain ⟨a, xs, e1, h1, h2⟩ := q
    exact ⟨a, xs, e1, by rw [lk_ne (fun e => by subst e; exact h.noseq hd (.inl ⟨_, rfl⟩) (.inl h1))]; exact h1, repL_lk hd h h' h2⟩
  | .fz ds, _, q => by
    unfold Rep at q ⊢
    obtain ⟨a, xs, e1, h1, h2⟩ := q
    refine ⟨a, xs, e1, ?_, repL_lk hd h h' h2⟩
    rcases h1 with h1 | h1
    · exact .inl (rd_lk (fun e => by subst e; exact h.noseq hd (.inl ⟨_, rfl⟩) h1) h1)
    · exact .inr h1
  | .dic ks vs, _, q => by
    unfold Rep at q ⊢
    obtain ⟨a, kv, e1, h1, h2, h3⟩ := q
    refine ⟨a, kv, e1, ?_, h2, repL_lk hd h h' h3⟩
    by_cases e : a = d
    · subst e
      rw [h.rd hd h1]
      exact h'.here (lk_at hd)
    · exact rd_lk e h1
theorem repL_lk (hd : S d = some u) (h : DL kvs u) (h' : DL kvs u') : ∀ {xs : List D} {vs : List V}, RepL K S xs vs → RepL K (lk d u' S) xs vs
  | [], _, q => q
  | x :: xs, _, q => by
    unfold RepL at q ⊢
    obtain ⟨v, r, e1, h1, h2⟩ := q
    exact ⟨v, r, e1, rep_lk hd h h' h1, repL_lk hd h h' h2⟩
end
end
def Ent.lk (d : Addr) (o : HO) (N : Ent) : Ent := ⟨Nf.lk d o N.S0, Nf.lk d o N.H0, N.F0, N.v0, N.refs⟩
section
variable {B : Base} {N : Ent} {σ : Sg} {env : Ev} {S H : Hp} {F : Nat → List Addr} {d : Addr} {kvs : List (Key × V)} {u u' : HO}
theorem own_lk {o : Own} {a : Addr} {fp : List Addr} (hd : S d = some u) (h : DL kvs u) (h' : DL kvs u') (hf : d ∉ fp) (q : OwnRel B S H o a fp) : OwnRel B (lk d u' S) (lk d u' H) o a fp := by
  have ne : ∀ b ∈ fp, b ≠ d := fun b hb e => hf (e ▸ hb)
  cases o with
  | lst ds =>
    obtain ⟨rfl, xs, h1, h2⟩ := q
    exact ⟨rfl, xs, by rw [lk_ne (ne a (by simp))]; exact h1, repL_lk hd h h' h2⟩
  | dic ks vs =>
    obtain ⟨rfl, kv, h1, h2, h3⟩ := q
    exact ⟨rfl, kv, by rw [lk_ne (ne a (by simp))]; exact h1, h2, repL_lk hd h h' h3⟩
  | obj c st => exact B.olk q (fun x v r => rep_lk hd h h' r) fun b hb => lk_ne (ne b hb)
  | dtp es =>
    obtain ⟨rfl, r, h1, h2⟩ := q
    exact ⟨rfl, r, by rw [lk_ne (ne a (by simp))]; exact h1, h2.olk (fun x v r => rep_lk hd h h' r) fun b xs z => sqT_lk hd h h' z⟩
theorem StOk.lock (st : StOk B N σ env S H F) (hd : S d = some u) (h : DL kvs u) (h' : DL kvs u') : StOk B (N.lk d u') σ env (lk d u' S) (lk d u' H) F := by
  have hH := st.sub _ _ hd
  have same : ∀ {A A' : Hp}, Same A A' → Same (lk d u' A) (lk d u' A') := fun {A A'} e b o q => by
    by_cases hb : b = d
    · subst hb
      cases z : A b with
      | none => rw [lk_none.mpr z] at q; cases q
      | some y => rw [lk_at z] at q; cases q; exact lk_at (e _ _ z)
    · rw [lk_ne hb] at q ⊢; exact e _ _ q
  have hF : ∀ i, d ∉ F i := fun i hi => by have := (st.priv i d hi).1; rw [hd] at this; cases this
  refine ⟨same st.s0, same st.sub, fun b o q hb => ?_, fun b q1 q2 => ?_, fun i x e => ?_, fun i o e => ?_, fun i b hb => ?_, st.dj, st.pin, st.len, st.wf, fun i b hb => ?_⟩
  · by_cases e : b = d
    · subst e
      have q' : lk b u' N.H0 b = some o := q
      cases z : N.H0 b with
      | none => rw [lk_none.mpr z] at q'; cases q'
      | some y => rw [lk_at z] at q'; cases q'; exact lk_at hH
    · have q' : lk d u' N.H0 b = some o := q
      rw [lk_ne e] at q' ⊢; exact st.frame b o q' hb
  · exact lk_none.mpr (st.fresh b (lk_none.mp q1) fun z => q2 (lk_none.mpr z))
  · obtain ⟨v, h1, h2⟩ := st.val i x e
    exact ⟨v, h1, rep_lk hd h h' h2⟩
  · obtain ⟨a, h1, h2⟩ := st.own i o e
    exact ⟨a, h1, own_lk hd h h' (hF i) h2⟩
  · obtain ⟨p1, p2, p3⟩ := st.priv i b hb
    refine ⟨lk_none.mpr p1, fun z => p2 (lk_none.mp z), ?_⟩
    rcases p3 with p3 | p3
    · exact .inl p3
    · exact .inr (lk_none.mpr p3)
  · exact fun z => st.f0 i b hb (lk_none.mp z)
/-- back again -/
theorem StOk.unlock {σ2 : Sg} {env2 : Ev} {S2 H2 : Hp} {F2 : Nat → List Addr} (st : StOk B N σ env S H F) (hd : S d = some u) (h : DL kvs u) (h' : DL kvs u') (st2 : StOk B (N.lk d u') σ2 env2 S2 H2 F2) (e : Same (lk d u' S) S2) :
    StOk B N σ2 env2 (lk d u S2) (lk d u H2) F2 ∧ Same S (lk d u S2) ∧ S2 d = some u' := by
  have hd2 : S2 d = some u' := e _ _ (lk_at hd)
  have st3 := st2.lock hd2 h' h
  have hS0 : N.S0 d = none ∨ N.S0 d = some u := by
    cases z : N.S0 d with
    | none => exact .inl rfl
    | some y => have := st.s0 _ _ z; rw [hd] at this; cases this; exact .inr rfl
  have e0 : ((N.lk d u').lk d u).S0 = N.S0 := lk_lk hS0
  have n0 : ∀ b, ((N.lk d u').lk d u).H0 b = none ↔ N.H0 b = none := fun b => (lk_none (d := d) (o := u)).trans lk_none
  refine ⟨⟨e0 ▸ st3.s0, st3.sub, fun b o q hb => ?_, fun b q1 q2 => st3.fresh b (by rw [e0]; exact q1) fun z => q2 ((n0 b).mp z), st3.val, st3.own, fun i b hb => ?_, st3.dj, st3.pin, st3.len, st3.wf, st3.f0⟩, fun b o q => ?_, hd2⟩
  · by_cases eb : b = d
    · subst eb
      have := st.frame b o q hb
      rw [st.sub _ _ hd] at this
      cases this
      exact lk_at (st2.sub _ _ hd2)
    · refine st3.frame b o ?_ hb
      show lk d u (lk d u' N.H0) b = some o
      rw [lk_ne eb, lk_ne eb]; exact q
  · obtain ⟨p1, p2, p3⟩ := st3.priv i b hb
    refine ⟨p1, p2, ?_⟩
    rcases p3 with p3 | p3
    · exact .inl p3
    · exact .inr ((n0 b).mp p3)
  · by_cases eb : b = d
    · subst eb
      rw [hd] at q; cases q
      exact lk_at hd2
    · rw [lk_ne eb]
      exact e _ _ (by rw [lk_ne eb]; exact q)
end
end Nf
/-! a written dict of the module: its keys are walked -/
namespace Nf
open PySem PySem.Spec L2
/-- the keys of a written dict, in their order -/
def ItW (ks : List Str) : L2.It := ⟨fun i _ => i < ks.length, fun i H x H' => H' = H ∧ ∃ k, ks[i]? = some k ∧ x = .str k, fun i _ => ks.length ≤ i⟩
def KeysAre (es : Array DictEntry) (ks : List Str) : Prop := es.size = ks.length ∧ ∀ (i : Nat) (k : Str), ks[i]? = some k → ∃ en t, es[i]? = some en ∧ en.key = .str k t
section
variable {P : Program} {w : World} {K : PySem.W.Frag} {tg : Expr} {d : Addr} {es : Array DictEntry} {ep : Nat}
theorem turn_kd {ks : List Str} (it : Addr) (D : KDict K w d es ep) (hk : KeysAre es ks) : Turn P w K tg (ItW ks) [it] it (fun i h => h.IsKeyIter it d i ks.length ep) where
  mem := by simp
  obj := fun i h st b hb => by
    have e : b = it := by simpa using hb
    subst e
    obtain ⟨oi, e, c, dd⟩ := st
    exact ⟨oi, e, fun v z => by rw [dd] at z; cases z⟩
  keep := fun i h h' st k => st.at fun oi e => k it (by simp) oi e
  item := by
    intro X hP hw hK hc i pins s σ H E I hf st hg
    subst hP hw hK
    obtain ⟨f0, f1, f2, f3, f4, f5⟩ := hf it (by simp)
    have hg' : i < ks.length := hg
    obtain ⟨en, t, hen, hkey⟩ := hk.2 i ks[i] (List.getElem?_eq_getElem hg')
    refine next_key_item st (I.kIn _ _ D.at_) rfl hk.1 hen fun h' st' sb => ?_
    have I1 : Inv X pins σ H { s with heap := h' } := I.turned (t' := s.toks) (fun b ob hb e => (sb.2 b hb).trans e) f0 f1 f3 f4 f5
    obtain ⟨oi, e, c, dd⟩ := id st'
    exact ⟨en.key, rfl, go_of (s := { s with heap := h' }) e c dd (by decide) ⟨.str ks[i], H, I1, ⟨t, hkey⟩, ⟨rfl, _, List.getElem?_eq_getElem hg', rfl⟩, st', fun b hb => (hf b hb).1⟩⟩
  done := by
    intro X hP hw hK hc i pins s σ H E I hf st hg
    subst hP hw hK
    obtain ⟨f0, f1, f2, f3, f4, f5⟩ := hf it (by simp)
    exact next_key_end (I.ok.hd hc) st (I.kIn _ _ D.at_) rfl hk.1 hg fun h' eb => ⟨rfl, I.turned (t' := s.toks) (fun b ob hb e => eb b ob hb e) f0 f1 f3 f4 f5⟩
  self := fun A i s Q E st h => wpAny_pyIter_keyiter st h
end
/-- for x in D -/
theorem pi_kd {X : Cx} {tg e : Expr} {te : TE} {d : Addr} {es : Array DictEntry} {n : Nat} {ks : List Str} (he : PE X e te) (D : KDict X.K X.w d es n) (hk : KeysAre es ks) :
    PI X tg e (fun σ H R => te σ H fun x H1 => x = .ref d ∧ R (ItW ks) H1) := by
  refine ⟨fun pins s σ H R I h => ?_⟩
  refine thn (he.run pins s σ H _ I h) fun u s1 ⟨x, H1, I1, rx, ex, q⟩ => ?_
  subst ex
  obtain rfl : u = Value.ref d := rx
  refine iter_keys D.low (I1.kIn _ _ D.at_) ⟨rfl, rfl, rfl⟩ rfl (pi_one (tk := s1.toks) I1 _ (turn_kd _ D hk) ⟨_, Heap.get?_push_size _ rfl, rfl, ?_⟩ q)
  rw [hk.1] <;> rfl
end Nf
/-! the state's steps: looking, keeping, storing -/
namespace Nf
open PySem PySem.Spec L2

section
variable {B : Base} {N : Ent} {σ : Sg} {env : Ev} {S H S' : Hp} {F : Nat → List Addr} {K : R → Ev → Prop} {Q : VK}

/-- the object in an owned slot -/
def Own.data : Own → Option D
  | .lst ds => some (.lst ds)
  | .dic ks vs => some (.dic ks vs)
  | .obj _ _ => none
  | .dtp _ => none
/-- what is known of a result just now -/
def peek (env : Ev) (r : R) (K : D → Prop) : Prop := match r with
  | .v d => K d
  | .t _ => False
  | .l i => match env[i]? with
    | some (.sh d) => K d
    | some (.ow (.lst ds)) => K (.lst ds)
    | some (.ow (.dic ks vs)) => K (.dic ks vs)
    | _ => False
theorem peek_ok {r : R} {v : V} {fr : List Addr} {K : D → Prop} (st : StOk B N σ env S H F) (rel : RelR B N σ S H F r v fr) (p : peek env r K) : ∃ d, K d ∧ View B.K S H d v := by
  cases r with
  | v d => exact ⟨d, p, rel.1.view st.sub⟩
  | t o => exact False.elim p
  | l i =>
    obtain ⟨hv, _⟩ := rel
    unfold peek at p
    cases e : env[i]? with
    | none => simp only [e] at p
    | some s =>
      simp only [e] at p
      cases s with
      | no => exact False.elim p
      | sh d =>
        obtain ⟨w, h1, h2⟩ := st.val i d e
        rw [hv] at h1; cases h1
        exact ⟨d, p, h2.view st.sub⟩
      | ow o =>
        obtain ⟨a, h1, h2⟩ := st.own i o e
        rw [hv] at h1; cases h1
        cases o with
        | lst ds =>
          obtain ⟨_, xs, h3, h4⟩ := h2
          exact ⟨.lst ds, p, a, xs, rfl, h3, h4⟩
        | dic ks vs =>
          obtain ⟨_, kvs, h3, h4, h5⟩ := h2
          exact ⟨.dic ks vs, p, a, kvs, rfl, .inl h3, h4, h5⟩
        | obj c st => exact False.elim p
        | dtp es => exact False.elim p

/-- a slot's object goes over into the shared part -/
theorem StOk.freeze {i : Nat} {o : Own} {d : D} (st : StOk B N σ env S H F) (e : env[i]? = some (.ow o)) (hd : o.data = some d) (hi : i ∉ N.refs) {v : V} (hv : σ[i]? = some (some v)) :
    ∃ S' F', Same S S' ∧ StOk B N σ (env.set i (.sh d)) S' H F' ∧ Rep B.K S' d v := by
  obtain ⟨a, h1, h2⟩ := st.own i o e
  rw [hv] at h1; cases h1
  have hself := h2.self
  have hiL : i < env.length := (List.getElem?_eq_some_iff.mp e).1
  obtain ⟨p1, p2, p3⟩ := st.priv i a hself
  have h0 : N.H0 a = none := by
    rcases p3 with z | z
    · rw [st.wf i hi] at z; cases z
    · exact z
  obtain ⟨ho, hH, hR⟩ : ∃ ho, H a = some ho ∧ ∀ S1, Same S S1 → S1 a = some ho → Rep B.K S1 d (.ref a) := by
    cases o with
    | lst ds =>
      cases hd
      obtain ⟨_, xs, h3, h4⟩ := h2
      refine ⟨_, h3, fun S1 es q => ?_⟩
      unfold Rep
      exact ⟨a, xs, rfl, q, h4.mono es⟩
    | dic ks vs =>
      cases hd
      obtain ⟨_, kvs, h3, h4, h5⟩ := h2
      refine ⟨_, h3, fun S1 es q => ?_⟩
      unfold Rep
      exact ⟨a, kvs, rfl, .inl q, h4, h5.mono es⟩
    | obj c s => cases hd
    | dtp es => cases hd
  have es : Same S (upd S a ho) := same_upd p1
  have rep := hR _ es upd_same
  refine ⟨upd S a ho, fun j => if j = i then [] else F j, es, ?_, rep⟩
  have mem : ∀ {j : Nat} {b : Addr}, b ∈ (if j = i then [] else F j) → j ≠ i ∧ b ∈ F j := fun {j b} hb => by
    by_cases hj : j = i
    · rw [if_pos hj] at hb; cases hb
    · rw [if_neg hj] at hb; exact ⟨hj, hb⟩
  have fp : ∀ {j : Nat}, j ≠ i → a ∉ F j := fun {j} hj hb => hj (st.dj _ _ _ hb hself)
  refine ⟨st.s0.trans es, fun b x q => ?_, st.frame, fun b e1 e2 => ?_, fun j d' q => ?_, fun j o' q => ?_, fun j b hb => ?_, fun j k b h1 h2 => ?_, st.pin, by simpa using st.len, st.wf, st.f0⟩
  · by_cases hb : b = a
    · subst hb; rw [upd_same] at q; cases q; exact hH
    · rw [upd_ne hb] at q; exact st.sub _ _ q
  · have hb : b ≠ a := by rintro rfl; exact e2 h0
    rw [upd_ne hb]; exact st.fresh b e1 e2
  · by_cases hj : j = i
    · subst hj
      rw [List.getElem?_set_self hiL] at q
      cases q
      exact ⟨_, hv, rep⟩
    · rw [List.getElem?_set_ne (Ne.symm hj)] at q
      obtain ⟨w, h3, h4⟩ := st.val j d' q
      exact ⟨w, h3, h4.mono es⟩
  · by_cases hj : j = i
    · subst hj
      rw [List.getElem?_set_self hiL] at q
      cases q
    · rw [List.getElem?_set_ne (Ne.symm hj)] at q
      obtain ⟨w, h3, h4⟩ := st.own j o' q
      refine ⟨w, h3, ?_⟩
      rw [if_neg hj]
      exact h4.stab es fun b _ => rfl
  · obtain ⟨hj, hb⟩ := mem hb
    obtain ⟨q1, q2, q3⟩ := st.priv j b hb
    refine ⟨?_, q2, q3⟩
    rw [upd_ne]
    · exact q1
    · rintro rfl; exact fp hj hb
  · exact st.dj _ _ _ (mem h1).2 (mem h2).2

def memN : Nat → List Nat → Bool
  | _, [] => false
  | i, j :: js => match Nat.beq i j with
    | true => true
    | false => memN i js
/-- a lent slot is not stored to -/
def free (refs : List Nat) (i : Nat) (K : Prop) : Prop := match memN i refs with
  | true => False
  | false => K
theorem memN_of : ∀ {i : Nat} {l : List Nat}, memN i l = false → i ∉ l
  | _, [], _ => List.not_mem_nil
  | i, j :: js, h => by
    unfold memN at h
    split at h
    · cases h
    · rename_i e
      have h2 := memN_of h
      intro hm
      rcases List.mem_cons.mp hm with rfl | hm
      · rw [show Nat.beq i i = true from Nat.beq_refl i] at e; cases e
      · exact h2 hm
theorem free_ok {refs : List Nat} {i : Nat} {K : Prop} (h : free refs i K) : i ∉ refs ∧ K := by
  unfold free at h
  split at h
  · exact h.elim
  · rename_i e
    exact ⟨memN_of e, h⟩
/-- a result is kept by something else: an owned object goes over into the shared part -/
def retain (refs : List Nat) (env : Ev) (r : R) (K : D → Ev → Prop) : Prop := match r with
  | .v d => K d env
  | .t (.lst ds) => K (.lst ds) env
  | .t (.dic ks vs) => K (.dic ks vs) env
  | .t (.obj _ _) => False
  | .t (.dtp _) => False
  | .l i => match env[i]? with
    | some (.sh d) => K d env
    | some (.ow (.lst ds)) => free refs i (K (.lst ds) (env.set i (.sh (.lst ds))))
    | some (.ow (.dic ks vs)) => free refs i (K (.dic ks vs) (env.set i (.sh (.dic ks vs))))
    | _ => False
theorem StOk.shareTemp {o : Own} {d : D} {v : V} {fr : List Addr} (st : StOk B N σ env S H F) (hd : o.data = some d) (rel : RelR B N σ S H F (.t o) v fr) :
    ∃ S', Same S S' ∧ StOk B N σ env S' H F ∧ Rep B.K S' d v := by
  obtain ⟨a, rfl, h2, h3⟩ := rel
  obtain ⟨p1, p2, p3⟩ := h3 a h2.self
  cases o with
  | lst ds =>
    cases hd
    obtain ⟨_, xs, h4, h5⟩ := h2
    refine ⟨_, same_upd p1, st.share h4 p1 p3 p2, ?_⟩
    unfold Rep
    exact ⟨a, xs, rfl, upd_same, h5.mono (same_upd p1)⟩
  | dic ks vs =>
    cases hd
    obtain ⟨_, kvs, h4, h5, h6⟩ := h2
    refine ⟨_, same_upd p1, st.share h4 p1 p3 p2, ?_⟩
    unfold Rep
    exact ⟨a, kvs, rfl, .inl upd_same, h5, h6.mono (same_upd p1)⟩
  | obj c s => cases hd
  | dtp es => cases hd
theorem retain_ok {r : R} {v : V} {fr : List Addr} {K : D → Ev → Prop} (st : StOk B N σ env S H F) (rel : RelR B N σ S H F r v fr) (p : retain N.refs env r K) :
    ∃ d env' S' F', K d env' ∧ Same S S' ∧ StOk B N σ env' S' H F' ∧ Rep B.K S' d v := by
  cases r with
  | v d => exact ⟨d, env, S, F, p, Same.refl _, st, rel.1⟩
  | t o =>
    cases o with
    | lst ds =>
      obtain ⟨S', e, st', rep⟩ := st.shareTemp (d := .lst ds) rfl rel
      exact ⟨_, env, S', F, p, e, st', rep⟩
    | dic ks vs =>
      obtain ⟨S', e, st', rep⟩ := st.shareTemp (d := .dic ks vs) rfl rel
      exact ⟨_, env, S', F, p, e, st', rep⟩
    | obj c s => exact False.elim p
    | dtp es => exact False.elim p
  | l i =>
    obtain ⟨hv, _⟩ := rel
    unfold retain at p
    cases e : env[i]? with
    | none => simp only [e] at p
    | some s =>
      simp only [e] at p
      cases s with
      | no => exact False.elim p
      | sh d =>
        obtain ⟨w, h1, h2⟩ := st.val i d e
        rw [hv] at h1; cases h1
        exact ⟨d, env, S, F, p, Same.refl _, st, h2⟩
      | ow o =>
        cases o with
        | lst ds =>
          obtain ⟨p1, p2⟩ := free_ok p
          obtain ⟨S', F', h1, h2, h3⟩ := st.freeze e (d := .lst ds) rfl p1 hv
          exact ⟨_, _, S', F', p2, h1, h2, h3⟩
        | dic ks vs =>
          obtain ⟨p1, p2⟩ := free_ok p
          obtain ⟨S', F', h1, h2, h3⟩ := st.freeze e (d := .dic ks vs) rfl p1 hv
          exact ⟨_, _, S', F', p2, h1, h2, h3⟩
        | obj c s => exact False.elim p
        | dtp es => exact False.elim p

/-- a new object is put into the shared part; what a name holds stays -/
def settle (env : Ev) (r : R) (K : R → Ev → Prop) : Prop := match r with
  | .t (.lst ds) => K (.v (.lst ds)) env
  | .t (.dic ks vs) => K (.v (.dic ks vs)) env
  | .t (.obj _ _) => False
  | .t (.dtp _) => False
  | .v d => K (.v d) env
  | .l i => K (.l i) env
/-- a settled result -/
def RelS (B : Base) (σ : Sg) (S : Hp) : R → V → Prop
  | .v d, v => Rep B.K S d v
  | .t _, _ => False
  | .l i, v => σ[i]? = some (some v)
theorem RelS.mono {r : R} {v : V} (h : RelS B σ S r v) (e : Same S S') : RelS B σ S' r v := by
  cases r with
  | v d => exact Rep.mono e h
  | t o => exact h
  | l i => exact h
theorem RelS.toR {r : R} {v : V} (h : RelS B σ S r v) : RelR B N σ S H F r v [] := by
  cases r with
  | v d => exact ⟨h, rfl⟩
  | t o => exact False.elim h
  | l i => exact ⟨h, rfl⟩
theorem settle_ok {r : R} {v : V} {fr : List Addr} {K : R → Ev → Prop} (st : StOk B N σ env S H F) (rel : RelR B N σ S H F r v fr) (p : settle env r K) :
    ∃ r' S', K r' env ∧ Same S S' ∧ StOk B N σ env S' H F ∧ RelS B σ S' r' v := by
  cases r with
  | v d => exact ⟨_, S, p, Same.refl _, st, rel.1⟩
  | t o =>
    cases o with
    | lst ds =>
      obtain ⟨S', e, st', rep⟩ := st.shareTemp (d := .lst ds) rfl rel
      exact ⟨_, S', p, e, st', rep⟩
    | dic ks vs =>
      obtain ⟨S', e, st', rep⟩ := st.shareTemp (d := .dic ks vs) rfl rel
      exact ⟨_, S', p, e, st', rep⟩
    | obj c s => exact False.elim p
    | dtp es => exact False.elim p
  | l i => exact ⟨_, S, p, Same.refl _, st, rel.1⟩

/-! lists of results -/
def RelSs (B : Base) (σ : Sg) (S : Hp) : List R → List V → Prop
  | [], vs => vs = []
  | r :: rs, vs => ∃ v w, vs = v :: w ∧ RelS B σ S r v ∧ RelSs B σ S rs w
theorem RelSs.mono (e : Same S S') : ∀ {rs : List R} {vs : List V}, RelSs B σ S rs vs → RelSs B σ S' rs vs
  | [], _, h => h
  | r :: rs, _, ⟨v, w, e1, h1, h2⟩ => ⟨v, w, e1, h1.mono e, RelSs.mono e h2⟩
def ViewL (K : PySem.W.Frag) (S H : Hp) : List D → List V → Prop
  | [], vs => vs = []
  | d :: ds, vs => ∃ v w, vs = v :: w ∧ View K S H d v ∧ ViewL K S H ds w
def peeks (env : Ev) : List R → (List D → Prop) → Prop
  | [], K => K []
  | r :: rs, K => peek env r fun d => peeks env rs fun ds => K (d :: ds)
theorem peeks_ok (st : StOk B N σ env S H F) : ∀ {rs : List R} {vs : List V} {K : List D → Prop}, RelSs B σ S rs vs → peeks env rs K → ∃ ds, K ds ∧ ViewL B.K S H ds vs
  | [], vs, K, h, p => ⟨[], p, h⟩
  | r :: rs, vs, K, ⟨v, w, e1, h1, h2⟩, p => by
    obtain ⟨d, p', hv⟩ := peek_ok st (h1.toR (N := N) (H := H) (F := F)) p
    obtain ⟨ds, p2, hv2⟩ := peeks_ok st h2 p'
    exact ⟨d :: ds, p2, v, w, e1, hv, hv2⟩
def retains (refs : List Nat) : Ev → List R → (List D → Ev → Prop) → Prop
  | env, [], K => K [] env
  | env, r :: rs, K => retain refs env r fun d env1 => retains refs env1 rs fun ds env2 => K (d :: ds) env2
theorem retains_ok : ∀ {rs : List R} {env : Ev} {S : Hp} {F : Nat → List Addr} {vs : List V} {K : List D → Ev → Prop}, StOk B N σ env S H F → RelSs B σ S rs vs → retains N.refs env rs K →
    ∃ ds env' S' F', K ds env' ∧ Same S S' ∧ StOk B N σ env' S' H F' ∧ RepL B.K S' ds vs
  | [], env, S, F, vs, K, st, h, p => ⟨[], env, S, F, p, Same.refl _, st, by unfold RepL; exact h⟩
  | r :: rs, env, S, F, vs, K, st, ⟨v, w, e1, h1, h2⟩, p => by
    obtain ⟨d, env1, S1, F1, p1, e, st1, r1⟩ := retain_ok st (h1.toR (N := N) (H := H) (F := F)) p
    obtain ⟨ds, env2, S2, F2, p2, e', st2, r2⟩ := retains_ok st1 (h2.mono e) p1
    exact ⟨d :: ds, env2, S2, F2, p2, e.trans e', st2, by subst e1; exact RepL.cons (r1.mono e') r2⟩

/-! storing -/
theorem StOk.setV {i : Nat} {d : D} {v : V} (st : StOk B N σ env S H F) (hi : i ∉ N.refs) (r : Rep B.K S d v) : StOk B N (σ.set i (some v)) (env.set i (.sh d)) S H (fun j => if j = i then [] else F j) := by
  have mem : ∀ {j : Nat} {b : Addr}, b ∈ (if j = i then [] else F j) → j ≠ i ∧ b ∈ F j := fun {j b} hb => by
    by_cases hj : j = i
    · rw [if_pos hj] at hb; cases hb
    · rw [if_neg hj] at hb; exact ⟨hj, hb⟩
  refine ⟨st.s0, st.sub, st.frame, st.fresh, fun j d' q => ?_, fun j o' q => ?_, fun j b hb => ?_, fun j k b h1 h2 => ?_, fun j hj => ?_, by simpa using st.len, st.wf, st.f0⟩
  · by_cases hj : j = i
    · subst hj
      have hl : j < env.length := by
        have := (List.getElem?_eq_some_iff.mp q).1
        simpa using this
      rw [List.getElem?_set_self hl] at q
      cases q
      exact ⟨v, List.getElem?_set_self (by rw [← st.len]; exact hl), r⟩
    · rw [List.getElem?_set_ne (Ne.symm hj)] at q
      rw [List.getElem?_set_ne (Ne.symm hj)]
      exact st.val j d' q
  · by_cases hj : j = i
    · subst hj
      have hl : j < env.length := by
        have := (List.getElem?_eq_some_iff.mp q).1
        simpa using this
      rw [List.getElem?_set_self hl] at q
      cases q
    · rw [List.getElem?_set_ne (Ne.symm hj)] at q
      rw [List.getElem?_set_ne (Ne.symm hj), if_neg hj]
      exact st.own j o' q
  · exact st.priv j b (mem hb).2
  · exact st.dj _ _ _ (mem h1).2 (mem h2).2
  · have hne : j ≠ i := by rintro rfl; exact hi hj
    rw [List.getElem?_set_ne (Ne.symm hne)]
    exact st.pin j hj
theorem StOk.setO {i : Nat} {o : Own} {v : V} {fr : List Addr} (st : StOk B N σ env S H F) (hi : i ∉ N.refs) (r : RelR B N σ S H F (.t o) v fr) :
    StOk B N (σ.set i (some v)) (env.set i (.ow o)) S H (fun j => if j = i then fr else F j) := by
  obtain ⟨a, rfl, h2, h3⟩ := r
  refine ⟨st.s0, st.sub, st.frame, st.fresh, fun j d' q => ?_, fun j o' q => ?_, fun j b hb => ?_, fun j k b h1 h2 => ?_, fun j hj => ?_, by simpa using st.len, st.wf, st.f0⟩
  · by_cases hj : j = i
    · subst hj
      have hl : j < env.length := by
        have := (List.getElem?_eq_some_iff.mp q).1
        simpa using this
      rw [List.getElem?_set_self hl] at q
      cases q
    · rw [List.getElem?_set_ne (Ne.symm hj)] at q
      rw [List.getElem?_set_ne (Ne.symm hj)]
      exact st.val j d' q
  · by_cases hj : j = i
    · subst hj
      have hl : j < env.length := by
        have := (List.getElem?_eq_some_iff.mp q).1
        simpa using this
      rw [List.getElem?_set_self hl] at q
      cases q
      rw [if_pos rfl]
      exact ⟨a, List.getElem?_set_self (by rw [← st.len]; exact hl), h2⟩
    · rw [List.getElem?_set_ne (Ne.symm hj)] at q
      rw [List.getElem?_set_ne (Ne.symm hj), if_neg hj]
      exact st.own j o' q
  · replace hb : b ∈ (if j = i then fr else F j) := hb
    by_cases hj : j = i
    · rw [if_pos hj] at hb
      obtain ⟨q1, q2, q3⟩ := h3 b hb
      exact ⟨q1, h2.live b hb, .inr q2⟩
    · rw [if_neg hj] at hb
      exact st.priv j b hb
  · replace h1 : b ∈ (if j = i then fr else F j) := h1
    replace h2 : b ∈ (if k = i then fr else F k) := h2
    by_cases hj : j = i
    · by_cases hk : k = i
      · rw [hj, hk]
      · rw [if_pos hj] at h1
        rw [if_neg hk] at h2
        exact ((h3 b h1).2.2 k h2).elim
    · by_cases hk : k = i
      · rw [if_neg hj] at h1
        rw [if_pos hk] at h2
        exact ((h3 b h2).2.2 j h1).elim
      · rw [if_neg hj] at h1
        rw [if_neg hk] at h2
        exact st.dj _ _ _ h1 h2
  · have hne : j ≠ i := by rintro rfl; exact hi hj
    rw [List.getElem?_set_ne (Ne.symm hne)]
    exact st.pin j hj
/-- a slot is forgotten -/
theorem StOk.forget {i : Nat} (st : StOk B N σ env S H F) : StOk B N σ (env.set i .no) S H F := by
  refine ⟨st.s0, st.sub, st.frame, st.fresh, fun j d' q => ?_, fun j o' q => ?_, st.priv, st.dj, st.pin, by simpa using st.len, st.wf, st.f0⟩
  · by_cases hj : j = i
    · subst hj
      have hl : j < env.length := by
        have := (List.getElem?_eq_some_iff.mp q).1
        simpa using this
      rw [List.getElem?_set_self hl] at q
      cases q
    · rw [List.getElem?_set_ne (Ne.symm hj)] at q
      exact st.val j d' q
  · by_cases hj : j = i
    · subst hj
      have hl : j < env.length := by
        have := (List.getElem?_eq_some_iff.mp q).1
        simpa using this
      rw [List.getElem?_set_self hl] at q
      cases q
    · rw [List.getElem?_set_ne (Ne.symm hj)] at q
      exact st.own j o' q

/-- the object in an owned slot is changed -/
theorem StOk.put {i : Nat} {o o' : Own} {a : Addr} {ho : HO} (st : StOk B N σ env S H F) (e : env[i]? = some (.ow o)) (ha : σ[i]? = some (some (.ref a)))
    (new : OwnRel B S (upd H a ho) o' a (F i)) : StOk B N σ (env.set i (.ow o')) S (upd H a ho) F := by
  obtain ⟨a', h1, h2⟩ := st.own i o e
  rw [ha] at h1; cases h1
  have hs := h2.self
  obtain ⟨p1, p2, p3⟩ := st.priv i a hs
  have hiL : i < env.length := (List.getElem?_eq_some_iff.mp e).1
  refine ⟨st.s0, fun b x q => ?_, fun b x q nf => ?_, st.fresh, fun j d' q => ?_, fun j o' q => ?_, fun j b hb => ?_, st.dj, st.pin, by simpa using st.len, st.wf, fun j b hb => ?_⟩
  · have hb : b ≠ a := by rintro rfl; rw [p1] at q; cases q
    rw [upd_ne hb]; exact st.sub _ _ q
  · have hb : b ≠ a := by
      rintro rfl
      rcases p3 with z | z
      · exact nf i z
      · rw [z] at q; cases q
    rw [upd_ne hb]; exact st.frame _ _ q nf
  · by_cases hj : j = i
    · subst hj
      rw [List.getElem?_set_self hiL] at q
      cases q
    · rw [List.getElem?_set_ne (Ne.symm hj)] at q
      exact st.val j d' q
  · by_cases hj : j = i
    · subst hj
      rw [List.getElem?_set_self hiL] at q
      cases q
      exact ⟨a, ha, new⟩
    · rw [List.getElem?_set_ne (Ne.symm hj)] at q
      obtain ⟨w, h3, h4⟩ := st.own j o' q
      refine ⟨w, h3, h4.stab (Same.refl _) fun b hb => upd_ne ?_⟩
      rintro rfl
      exact hj (st.dj _ _ _ hb hs)
  · obtain ⟨q1, q2, q3⟩ := st.priv j b hb
    refine ⟨q1, ?_, q3⟩
    by_cases hb : b = a
    · subst hb; rw [upd_same]; exact fun z => by cases z
    · rw [upd_ne hb]; exact q2
  · by_cases hb' : b = a
    · subst hb'; rw [upd_same]; exact fun z => by cases z
    · rw [upd_ne hb']; exact st.f0 j b hb

/-! results that expressions give -/
theorem PostE.newLst (p : PostE B N σ S K Q) {ds : List D} {xs : List V} (st : StOk B N σ env S H F) (k : K (.t (.lst ds)) env) (r : RepL B.K S ds xs) {a : Addr} (ha : H a = none) : Q (.ref a) (upd H a (.lst xs)) := by
  refine p _ env _ S _ F [a] k (Same.refl _) (st.laidH ha) ⟨a, rfl, ⟨rfl, xs, upd_same, r⟩, fun b hb => ?_⟩
  have e : b = a := by simpa using hb
  subst e
  exact ⟨sub_none st ha, h0_none st ha, fun i => st.notF ha i⟩
theorem PostE.newTup (p : PostE B N σ S K Q) {ds : List D} {xs : List V} (st : StOk B N σ env S H F) (k : K (.v (.tup ds)) env) (r : RepL B.K S ds xs) {a : Addr} (ha : H a = none) : Q (.ref a) (upd H a (.tup xs)) := by
  have h0 := sub_none st ha
  refine p _ env _ (upd S a (.tup xs)) _ F [] k (same_upd h0) ((st.laidH ha).share upd_same h0 (fun i => st.notF ha i) (h0_none st ha)) ⟨?_, rfl⟩
  unfold Rep
  exact ⟨a, xs, rfl, SqT.of upd_same, r.mono (same_upd h0)⟩
theorem PostE.newDic (p : PostE B N σ S K Q) {ks vs : List D} {kvs : List (Key × V)} (st : StOk B N σ env S H F) (k : K (.t (.dic ks vs)) env) (ek : ks = kvs.map (fun p => kD p.1)) (r : RepL B.K S vs (kvs.map (·.2))) {a : Addr} (ha : H a = none) : Q (.ref a) (upd H a (.dK kvs)) := by
  refine p _ env _ S _ F [a] k (Same.refl _) (st.laidH ha) ⟨a, rfl, ⟨rfl, kvs, upd_same, ek, r⟩, fun b hb => ?_⟩
  have e : b = a := by simpa using hb
  subst e
  exact ⟨sub_none st ha, h0_none st ha, fun i => st.notF ha i⟩
end
end Nf
/-! the small language and what it means over data -/
namespace Nf
open PySem PySem.Spec L2

inductive Ty where
  | int | bool | str | tuple | list | dict
inductive Op where
  | add | sub | mul | fdiv | mod | pow | shl | shr | band | bor | neg
  | eq | ne | lt | le | gt | ge | inn | notin | is | isnot
  | idx | sl00 | sl10 | sl01 | sl11 | rev2
  | len | min1 | min2 | min3 | max2 | sum1 | abs1 | int1 | list1 | tuple1 | sorted1 | sset | tuprev | lstrev | lrange
  | isi (t : Ty) | join | find2 | get2 | scount | sindex | lindex | dict1
inductive Tg where
  | name (i : Nat) | tup (is : List Nat)
mutual
inductive E where
  | var (i : Nat) | cst (d : D) | gl (x : String)
  | op (o : Op) (as : Es) | mop (o : Op) (a : E) (as : Es)
  | andv (as : Es) | orv (as : Es) | notv (a : E)
  | ite (c : T) (a b : E) | chain (o p : Op) (a b c : E)
  | call (f : String) (as : Es) (rf bs : List Nat)
  | lst (as : Es) | tup (as : Es) | dct (ks vs : Es)
  | comp (elt : E) (tg : Tg) (it : It) (cond : To) (own : List Nat)
  | pop (i : Nat) | popAt (i : Nat) (e : E)
  | meth (i : Nat) (c : List Nat) (m : String) (as : Es) | mk (c : List Nat) (m : String) (as : Es) | fld (i : Nat) (f : List Nat)
  | mkm (c : List Nat) (m0 : String) (as : Es) (m : String) (j : Nat)
  | kget (x : String) (a : E)
  | dtn | dt1 (k : E) (c : D) | dtg (i j : Nat) | dts (i j k : Nat)
inductive Es where
  | nil | cons (e : E) (es : Es)
inductive T where
  | ex (e : E) | cmp (o : Op) (as : Es) | chn (o p : Op) (a b c : E) | notv (t : T) | andv (ts : Ts) | orv (ts : Ts) | kin (neg : Bool) (x : String) (a : E) | dtin (neg : Bool) (j i : Nat)
inductive Ts where
  | nil | cons (t : T) (ts : Ts)
inductive To where
  | no | yes (t : T)
inductive It where
  | ex (e : E) | range (as : Es) | enum (a : E) | zip (as : Es) | rev (a : E) | items (a : E) | keys (a : E) | kk (x : String)
end
mutual
inductive S where
  | asg (tg : Tg) (e : E) | aug (i : Nat) (o : Op) (e : E) | seti (i : Nat) (k e : E)
  | append (i : Nat) (e : E) | extend (i : Nat) (e : E) | ex (e : E)
  | iff (c : T) (a b : Ss) | loop (tg : Tg) (it : It) (b : Ss) | whl (c : T) (b : Ss)
  | ret (e : E) | raise (c : String) | doc | pass
  | seta (i : Nat) (f : List Nat) (e : E) | auga (i : Nat) (f : List Nat) (e : E) | seto (i : Nat) (f : List Nat) (e : E) | appa (i : Nat) (f : List Nat) (j : Nat)
  | tryc (j i : Nat) (h : String) (is ap cs : List String) (b : Ss) | tryn (j : Nat) (h : String) (cs : List String) (b : Ss)
  | dtset (i j : Nat) (e : E)
  | tryp (j i : Nat) (h : String) (is ap cs : List String) (f : String) (a b c : Nat)
inductive Ss where
  | nil | cons (s : S) (ss : Ss)
end

/-! ### data -/
mutual
def toPy : D → PyData
  | .non => .none | .bl b => .bool b | .int i => .int i | .str s => .str ⟨s.toArray⟩
  | .tup ds => .tuple (toPyL ds) | .lst ds => .list (toPyL ds) | .fz ds => .list (toPyL ds) | .dic _ _ => .dict []
def toPyL : List D → List PyData
  | [] => []
  | d :: ds => toPy d :: toPyL ds
end
/-- what may be asked for by ==: texts not too long, not too deep -/
def eqOk (d : D) : Bool := SeqAt.shaped (toPy d)
def deq (d e : D) : Bool := PyData.eqv (toPy d) (toPy e)
def tyName : Ty → String
  | .int => "int" | .bool => "bool" | .str => "str" | .tuple => "tuple" | .list => "list" | .dict => "dict"
def tyD : D → String
  | .non => "NoneType" | .bl _ => "bool" | .int _ => "int" | .str _ => "str" | .tup _ => "tuple" | .lst _ => "list" | .fz _ => "list" | .dic _ _ => "dict"
def isTy (t : Ty) : D → Bool
  | .non => false
  | .bl _ => match t with | .bool => true | .int => true | _ => false
  | .int _ => match t with | .int => true | _ => false
  | .str _ => match t with | .str => true | _ => false
  | .tup _ => match t with | .tuple => true | _ => false
  | .lst _ => match t with | .list => true | _ => false
  | .fz _ => match t with | .list => true | _ => false
  | .dic _ _ => match t with | .dict => true | _ => false
def isNonD : D → Bool
  | .non => true
  | _ => false
/-- a slice -/
def cutL {α : Type} (xs : List α) (lo hi : Option Int) : List α := (xs.drop (HT.sIx xs.length 0 lo)).take (HT.sIx xs.length xs.length hi - HT.sIx xs.length 0 lo)
def keyD : D → Option Key
  | .int i => some (.inl i)
  | .str s => some (.inr ⟨s.toArray⟩)
  | _ => none
/-- where there is one -/
def isDic : D → Bool
  | .dic _ _ => true
  | _ => false
def optW {α : Type} (o : Option α) (K : α → Prop) : Prop := match o with
  | some a => K a
  | none => False
theorem optW_some {α : Type} {o : Option α} {a : α} {K : α → Prop} (h : o = some a) (k : K a) : optW o K := by
  subst h; exact k
theorem optW_get {α : Type} {o : Option α} {K : α → Prop} (h : optW o K) : ∃ a, o = some a ∧ K a := by
  cases o with
  | some a => exact ⟨a, rfl, h⟩
  | none => exact h.elim
/-- at a key of a dict -/
def dAt (k : D) : List D → List D → Option D
  | q :: ks, v :: vs => match k, q with
    | .int i, .int j => if j = i then some v else dAt k ks vs
    | .str s, .str t => if t = s then some v else dAt k ks vs
    | _, _ => dAt k ks vs
  | _, _ => none
def keq (k q : D) : Bool := match k, q with
  | .int i, .int j => decide (j = i)
  | .str s, .str t => decide (t = s)
  | _, _ => false
def dRep (k v : D) : List D → List D → List D
  | q :: ks, w :: vs => (match keq k q with | true => v | false => w) :: dRep k v ks vs
  | _, _ => []
def dPut (k v : D) (ks vs : List D) : List D × List D := match ks.any (keq k) with
  | true => (ks, dRep k v ks vs)
  | false => (ks ++ [k], vs ++ [v])
def slD (d : D) (lo hi : Option Int) (K : R → Prop) : Prop := match d with
  | .str s => s.length ≤ sizeLine ∧ K (.v (.str (cutL s lo hi)))
  | .lst ds => K (.t (.lst (cutL ds lo hi)))
  | .fz ds => K (.t (.lst (cutL ds lo hi)))
  | .tup ds => K (.v (.tup (cutL ds lo hi)))
  | _ => False
/-- what may be sorted -/
structure SrtOk (xs : List D) : Prop where
  lay : (xs.all fun d => (toPy d).canLay0) = true
  alk : ∀ d ∈ xs, ∀ e ∈ xs, PySem.W.alike (toPy d) (toPy e) = true
  srt : PySem.W.Sortable (xs.map toPy)
  dep : ∀ d ∈ xs, (toPy d).depth ≤ 30
def dLe (a b : D) : Bool := PySem.W.dataLe false toPy a b
/-- an operator or a builtin over data: what it gives -/
def osem (o : Op) (ds : List D) (K : R → Prop) : Prop := match o with
  | .add => match ds with
    | [.int i, .int j] => K (.v (.int (i + j)))
    | [.str a, .str b] => a.length + b.length ≤ sizeLine ∧ K (.v (.str (a ++ b)))
    | [.lst a, .lst b] => a.length + b.length ≤ sizeLine ∧ K (.t (.lst (a ++ b)))
    | [.tup a, .tup b] => a.length + b.length ≤ sizeLine ∧ K (.v (.tup (a ++ b)))
    | _ => False
  | .sub => match ds with
    | [.int i, .int j] => K (.v (.int (i - j)))
    | _ => False
  | .mul => match ds with
    | [.int i, .int j] => (CMul i j ∨ CMulW i j) ∧ K (.v (.int (i * j)))
    | [.lst a, .int k] => -(2 ^ 63) ≤ k ∧ k < 2 ^ 63 ∧ a.length * k.toNat ≤ sizeLine ∧ K (.t (.lst (List.replicate k.toNat a).flatten))
    | [.str a, .int k] => 0 ≤ k ∧ k ≤ 100000 ∧ a.length * k.toNat ≤ 100000 ∧ K (.v (.str (List.replicate k.toNat a).flatten))
    | _ => False
  | .fdiv => match ds with
    | [.int i, .int j] => (0 < j ∧ j.natAbs.log2 < 9000) ∧ K (.v (.int (i / j)))
    | _ => False
  | .mod => match ds with
    | [.int i, .int j] => 0 < j ∧ K (.v (.int (i % j)))
    | _ => False
  | .pow => match ds with
    | [.int i, .int j] => CPow i j ∧ K (.v (.int (i ^ j.toNat)))
    | _ => False
  | .shl => match ds with
    | [.int i, .int j] => CPow i j ∧ K (.v (.int (i * 2 ^ j.toNat)))
    | _ => False
  | .shr => match ds with
    | [.int i, .int j] => 0 ≤ j ∧ K (.v (.int (i / 2 ^ j.toNat)))
    | _ => False
  | .band => match ds with
    | [.int i, .int j] => K (.v (.int (Builtin.bitAnd i j)))
    | _ => False
  | .bor => match ds with
    | [.int i, .int j] => K (.v (.int (Builtin.bitOr i j)))
    | _ => False
  | .neg => match ds with
    | [.int i] => K (.v (.int (-i)))
    | _ => False
  | .eq => match ds with
    | [a, b] => eqOk a = true ∧ eqOk b = true ∧ K (.v (.bl (deq a b)))
    | _ => False
  | .ne => match ds with
    | [a, b] => eqOk a = true ∧ eqOk b = true ∧ K (.v (.bl (!deq a b)))
    | _ => False
  | .lt => match ds with
    | [.int i, .int j] => K (.v (.bl (decide (i < j))))
    | [.str a, .str b] => K (.v (.bl (decide (a < b))))
    | _ => False
  | .le => match ds with
    | [.int i, .int j] => K (.v (.bl (decide (i ≤ j))))
    | [.str a, .str b] => K (.v (.bl (!decide (b < a))))
    | _ => False
  | .gt => match ds with
    | [.int i, .int j] => K (.v (.bl (decide (j < i))))
    | [.str a, .str b] => K (.v (.bl (decide (b < a))))
    | _ => False
  | .ge => match ds with
    | [.int i, .int j] => K (.v (.bl (decide (j ≤ i))))
    | [.str a, .str b] => K (.v (.bl (!decide (a < b))))
    | _ => False
  | .inn => match ds with
    | [.str [c], .str z] => K (.v (.bl (decide (c ∈ z))))
    | [k, .dic ks vs] => (keyD k).isSome = true ∧ K (.v (.bl (dAt k ks vs).isSome))
    | [d, .lst xs] => eqOk d = true ∧ eqOk (.lst xs) = true ∧ K (.v (.bl (xs.any fun z => deq z d)))
    | [d, .tup xs] => eqOk d = true ∧ eqOk (.tup xs) = true ∧ K (.v (.bl (xs.any fun z => deq z d)))
    | _ => False
  | .notin => match ds with
    | [.str [c], .str z] => K (.v (.bl (!decide (c ∈ z))))
    | [k, .dic ks vs] => (keyD k).isSome = true ∧ K (.v (.bl (!(dAt k ks vs).isSome)))
    | [d, .lst xs] => eqOk d = true ∧ eqOk (.lst xs) = true ∧ K (.v (.bl (!xs.any fun z => deq z d)))
    | [d, .tup xs] => eqOk d = true ∧ eqOk (.tup xs) = true ∧ K (.v (.bl (!xs.any fun z => deq z d)))
    | _ => False
  | .is => match ds with
    | [d, .non] => K (.v (.bl (isNonD d)))
    | [.bl a, .bl b] => K (.v (.bl (decide (a = b))))
    | _ => False
  | .isnot => match ds with
    | [d, .non] => K (.v (.bl (!isNonD d)))
    | [.bl a, .bl b] => K (.v (.bl (!decide (a = b))))
    | _ => False
  | .idx => match ds with
    | [.lst xs, .int i] => optW (atI xs i) fun d => K (.v d)
    | [.fz xs, .int i] => optW (atI xs i) fun d => K (.v d)
    | [.tup xs, .int i] => optW (atI xs i) fun d => K (.v d)
    | [.str s, .int i] => s.length ≤ sizeLine ∧ optW (atI s i) fun c => K (.v (.str [c]))
    | [.dic ks vs, k] => (keyD k).isSome = true ∧ optW (dAt k ks vs) fun d => K (.v d)
    | _ => False
  | .sl00 => match ds with
    | [d] => slD d none none K
    | _ => False
  | .sl10 => match ds with
    | [d, .int i] => slD d (some i) none K
    | _ => False
  | .sl01 => match ds with
    | [d, .int j] => slD d none (some j) K
    | _ => False
  | .sl11 => match ds with
    | [d, .int i, .int j] => slD d (some i) (some j) K
    | _ => False
  | .rev2 => match ds with
    | [.lst xs] => K (.t (.lst (xs.reverse.take 2)))
    | _ => False
  | .len => match ds with
    | [.str s] => s.length ≤ sizeLine ∧ K (.v (.int s.length))
    | [.lst xs] => K (.v (.int xs.length))
    | [.fz xs] => K (.v (.int xs.length))
    | [.tup xs] => K (.v (.int xs.length))
    | [.dic ks _] => K (.v (.int ks.length))
    | _ => False
  | .min1 => match ds with
    | [.lst xs] => ∃ ns : List Int, xs = ns.map D.int ∧ ns ≠ [] ∧ ∀ m, m ∈ ns → (∀ y ∈ ns, m ≤ y) → K (.v (.int m))
    | _ => False
  | .min2 => match ds with
    | [.int i, .int j] => K (.v (.int (min i j)))
    | _ => False
  | .max2 => match ds with
    | [.int i, .int j] => K (.v (.int (max i j)))
    | _ => False
  | .sum1 => match ds with
    | [.lst xs] => ∃ ns : List Int, xs = ns.map D.int ∧ K (.v (.int ns.sum))
    | _ => False
  | .abs1 => match ds with
    | [.int i] => K (.v (.int (if i < 0 then -i else i)))
    | _ => False
  | .int1 => match ds with
    | [.int i] => K (.v (.int i))
    | [.bl b] => K (.v (.int (if b then 1 else 0)))
    | _ => False
  | .list1 => match ds with
    | [.lst xs] => K (.t (.lst xs))
    | [.fz xs] => K (.t (.lst xs))
    | [.tup xs] => K (.t (.lst xs))
    | [.str s] => s.length ≤ sizeLine ∧ K (.t (.lst (s.map fun c => .str [c])))
    | _ => False
  | .tuple1 => match ds with
    | [.lst xs] => K (.v (.tup xs))
    | [.tup xs] => K (.v (.tup xs))
    | _ => False
  | .tuprev => match ds with
    | [.lst xs] => K (.v (.tup xs.reverse))
    | _ => False
  | .lrange => match ds with
    | [.int j] => (0 ≤ j ∧ j ≤ 100000) ∧ K (.t (.lst ((List.range j.toNat).map fun i => .int (i : Nat))))
    | _ => False
  | .isi t => match ds with
    | [d] => K (.v (.bl (isTy t d)))
    | _ => False
  | .join => match ds with
    | [.str [], .lst xs] => ∃ ss : List (List Nat), xs = ss.map D.str ∧ (ss.map (·.length)).sum ≤ 1000000 ∧ K (.v (.str ss.flatten))
    | _ => False
  | .sorted1 => match ds with
    | [.lst xs] => SrtOk xs ∧ K (.t (.lst (xs.mergeSort dLe)))
    | _ => False
  | .sset => match ds with
    | [.lst xs] => (∃ ss : List (List Nat), xs = ss.map D.str ∧ ss.length ≤ 4000 ∧ ∀ ys : List (List Nat), ys.Pairwise (· < ·) → (∀ k, k ∈ ys ↔ k ∈ ss) → K (.t (.lst (ys.map D.str)))) ∨
      ∃ ns : List Int, xs = ns.map D.int ∧ ns.length ≤ 4000 ∧ ∀ ys : List Int, ys.Pairwise (· < ·) → (∀ k, k ∈ ys ↔ k ∈ ns) → K (.t (.lst (ys.map D.int)))
    | _ => False
  | .lstrev => match ds with
    | [.lst xs] => K (.t (.lst xs.reverse))
    | _ => False
  | .min3 => match ds with
    | [.int i, .int j, .int k] => K (.v (.int (min (min i j) k)))
    | _ => False
  | .scount => match ds with
    | [.str s, .str t] => K (.v (.int (PySem.Txt.count ⟨s.toArray⟩ ⟨t.toArray⟩)))
    | _ => False
  | .sindex => match ds with
    | [.str s, .str t] => ∃ i rest, Builtin.Str.occurrences ⟨s.toArray⟩ ⟨t.toArray⟩ 0 s.length 1 = i :: rest ∧ K (.v (.int (i : Nat)))
    | _ => False
  | .lindex => match ds with
    | [.lst xs, d] => eqOk (.lst xs) = true ∧ eqOk d = true ∧ ∃ (j : Nat) (e : D), xs[j]? = some e ∧ deq e d = true ∧ (∀ (m : Nat) z, m < j → xs[m]? = some z → deq z d = false) ∧ K (.v (.int (j : Nat)))
    | _ => False
  | .find2 => match ds with
    | [.str s, .str t, .int i] => K (.v (.int (PySem.Txt.find3 ⟨s.toArray⟩ ⟨t.toArray⟩ i)))
    | _ => False
  | .get2 => match ds with
    | [.dic ks vs, k, .int z] => (keyD k).isSome = true ∧ K (.v ((dAt k ks vs).getD (.int z)))
    | _ => False
  | _ => False

/-- a method's receiver -/
def kindM : Op → D → Bool
  | .join, .str _ => true
  | .find2, .str _ => true
  | .scount, .str _ => true
  | .get2, .dic _ _ => true
  | .lindex, .lst _ => true
  | .sindex, .str _ => true
  | _, _ => false

/-! ### calls -/
def frees (refs : List Nat) : List Nat → Prop → Prop
  | [], K => K
  | i :: is, K => free refs i (frees refs is K)
def nodupN : List Nat → Bool
  | [] => true
  | i :: is => match memN i is with
    | true => false
    | false => nodupN is
def apartN : List Nat → List Nat → Bool
  | [], _ => true
  | i :: is, js => match memN i js with
    | true => false
    | false => apartN is js
inductive Out where
  | ret (r : R) (outs : List Own) | exc (c : String)
/-- what a def promises: for these arguments, whatever comes out satisfies .. -/
abbrev Con := List Slot → (Out → Prop) → Prop
/-- what is called by the name keeps the promise -/
def Has (Γ : String → Con) (f : String) (con : Con) : Prop := ∀ as K, con as K → Γ f as K
structure Prm where
  cl : String → Con
  gc : String → Option D
  refs : List Nat
  ex : String → Prop

/-- what is given to be kept goes over into the shared part first -/
def keepArgs (refs rf bs : List Nat) : Nat → Ev → List R → (List R → Ev → Prop) → Prop
  | _, env, [], K => K [] env
  | p, env, r :: rs, K => match memN p rf, memN p bs with
    | false, false => retain refs env r fun d env1 => keepArgs refs rf bs (p + 1) env1 rs fun rs' env2 => K (.v d :: rs') env2
    | _, _ => keepArgs refs rf bs (p + 1) env rs fun rs' env2 => K (r :: rs') env2
/-- the arguments as the callee gets them: lent objects (at the places rf), data -/
def argsOf (rf : List Nat) (env : Ev) : Nat → List R → (List Slot → Prop) → Prop
  | _, [], K => K []
  | p, r :: rs, K => match memN p rf with
    | true => (match r with
      | .l i => match env[i]? with
        | some (.ow o) => argsOf rf env (p + 1) rs fun as => K (.ow o :: as)
        | _ => False
      | _ => False)
    | false => peek env r fun d => argsOf rf env (p + 1) rs fun as => K (.sh d :: as)
/-- the slots that are lent -/
def lentOf (rf : List Nat) : Nat → List R → List Nat
  | _, [] => []
  | p, r :: rs => match memN p rf, r with
    | true, .l i => i :: lentOf rf (p + 1) rs
    | _, _ => lentOf rf (p + 1) rs
/-- the slots that are given otherwise -/
def seenOf (rf : List Nat) : Nat → List R → List Nat
  | _, [] => []
  | p, r :: rs => match memN p rf, r with
    | false, .l i => i :: seenOf rf (p + 1) rs
    | _, _ => seenOf rf (p + 1) rs
def setOws : List Nat → List Own → Ev → (Ev → Prop) → Prop
  | [], [], env, K => K env
  | i :: is, o :: os, env, K => setOws is os (env.set i (.ow o)) K
  | _, _, _, _ => False
def immR : R → Bool
  | .v d => imm d
  | .t o => immO o
  | .l _ => false

/-! ### loops over data -/
def setSh (refs : List Nat) : List Nat → List D → Ev → (Ev → Prop) → Prop
  | [], [], env, K => K env
  | i :: is, d :: ds, env, K => free refs i (setSh refs is ds (env.set i (.sh d)) K)
  | _, _, _, _ => False
def wpTg (refs : List Nat) : Tg → D → Ev → (Ev → Prop) → Prop
  | .name i, d, env, K => free refs i (K (env.set i (.sh d)))
  | .tup is, d, env, K => match d with
    | .tup ds => setSh refs is ds env K
    | .lst ds => setSh refs is ds env K
    | _ => False
/-- forget the slots -/
def wipeE : List Nat → Ev → Ev
  | [], env => env
  | i :: is, env => (wipeE is env).set i .no
/-- the slots is of env as they are in old -/
def backE (old : Ev) : List Nat → Ev → Ev
  | [], env => env
  | i :: is, env => match old[i]? with
    | some (.sh d) => (backE old is env).set i (.sh d)
    | _ => (backE old is env).set i .no
/-- a comprehension's turns: the items left, what is made so far -/
def compW0 (own : List Nat) (tgW : D → Ev → (Ev → Prop) → Prop) (condW : Ev → (Bool → Ev → Prop) → Prop) (eltW : Ev → (D → Ev → Prop) → Prop) : List D → List D → Ev → (List D → Ev → Prop) → Prop
  | [], acc, env, K => K acc env
  | d :: ds, acc, env, K => tgW d env fun env1 => condW env1 fun b env2 =>
      if b = true then eltW env2 fun x env3 => acc.length < sizeLine ∧ compW0 own tgW condW eltW ds (acc ++ [x]) (wipeE own env3) K
      else compW0 own tgW condW eltW ds acc (wipeE own env2) K
@[irreducible] def compW (own : List Nat) (tgW : D → Ev → (Ev → Prop) → Prop) (condW : Ev → (Bool → Ev → Prop) → Prop) (eltW : Ev → (D → Ev → Prop) → Prop) (ds acc : List D) (env : Ev) (K : List D → Ev → Prop) : Prop := compW0 own tgW condW eltW ds acc env K
structure Fn where
  nx : Ev → Prop
  rt : R → Ev → Prop
def forW0 (tgW : D → Ev → (Ev → Prop) → Prop) (body : Ev → Fn → Prop) : List D → Ev → Fn → Prop
  | [], env, fn => fn.nx env
  | d :: ds, env, fn => tgW d env fun env1 => body env1 ⟨fun env2 => forW0 tgW body ds env2 fn, fn.rt⟩
@[irreducible] def forW (tgW : D → Ev → (Ev → Prop) → Prop) (body : Ev → Fn → Prop) (ds : List D) (env : Ev) (fn : Fn) : Prop := forW0 tgW body ds env fn
theorem forW_nil {tgW : D → Ev → (Ev → Prop) → Prop} {body : Ev → Fn → Prop} {env : Ev} {fn : Fn} : forW tgW body [] env fn = fn.nx env := by unfold forW; rfl
theorem forW_cons {tgW : D → Ev → (Ev → Prop) → Prop} {body : Ev → Fn → Prop} {d : D} {ds : List D} {env : Ev} {fn : Fn} : forW tgW body (d :: ds) env fn = tgW d env fun env1 => body env1 ⟨fun env2 => forW tgW body ds env2 fn, fn.rt⟩ := by unfold forW; rfl
theorem compW_nil {own : List Nat} {tgW : D → Ev → (Ev → Prop) → Prop} {condW : Ev → (Bool → Ev → Prop) → Prop} {eltW : Ev → (D → Ev → Prop) → Prop} {acc : List D} {env : Ev} {K : List D → Ev → Prop} : compW own tgW condW eltW [] acc env K = K acc env := by unfold compW; rfl
theorem compW_cons {own : List Nat} {tgW : D → Ev → (Ev → Prop) → Prop} {condW : Ev → (Bool → Ev → Prop) → Prop} {eltW : Ev → (D → Ev → Prop) → Prop} {d : D} {ds acc : List D} {env : Ev} {K : List D → Ev → Prop} :
    compW own tgW condW eltW (d :: ds) acc env K = tgW d env fun env1 => condW env1 fun b env2 => if b = true then eltW env2 fun x env3 => acc.length < sizeLine ∧ compW own tgW condW eltW ds (acc ++ [x]) (wipeE own env3) K else compW own tgW condW eltW ds acc (wipeE own env2) K := by unfold compW; rfl
def rangeD (lo : Int) (n : Nat) : List D := (List.range n).map fun i => .int (lo + (i : Nat))
def enumD : Nat → List D → List D
  | _, [] => []
  | n, d :: ds => .tup [.int n, d] :: enumD (n + 1) ds
def zipD : List D → List D → List D
  | a :: as, b :: bs => .tup [a, b] :: zipD as bs
  | _, _ => []
def truthD (d : D) (K : Bool → Prop) : Prop := match d with
  | .non => K false
  | .bl b => K b
  | .int i => K (i != 0)
  | .str s => s.length ≤ sizeLine ∧ K (!s.isEmpty)
  | .lst ds => K (!ds.isEmpty)
  | .fz ds => K (!ds.isEmpty)
  | .tup ds => K (!ds.isEmpty)
  | .dic _ _ => False

/-! ### the meaning -/
/-- a result given back by a call -/
def outK (bs : List Nat) (outs : List Own) (K : R → Ev → Prop) (env : Ev) : R → Prop
  | .l _ => False
  | .v d => match bs with
    | [] => K (.v d) env
    | _ => immR (.v d) = true ∧ outs.all immO = true ∧ K (.v d) env
  | .t o => match bs with
    | [] => K (.t o) env
    | _ => immR (.t o) = true ∧ outs.all immO = true ∧ K (.t o) env
/-- what comes out of a call -/
def outW (P : Prm) (env : Ev) (lent bs : List Nat) (K : R → Ev → Prop) : Out → Prop
  | .exc c => match lent with
    | [] => P.ex c
    | _ => False
  | .ret r outs => setOws lent outs env fun env1 => outK bs outs K env1 r
/-- an owned list is there -/
def isLst (env : Ev) (i : Nat) (K : Prop) : Prop := match env[i]? with
  | some (.ow (.lst _)) => K
  | _ => False
theorem isLst_get {env : Ev} {i : Nat} {K : Prop} (h : isLst env i K) : (∃ ds, env[i]? = some (.ow (.lst ds))) ∧ K := by
  unfold isLst at h
  split at h
  · exact ⟨⟨_, by assumption⟩, h⟩
  · exact h.elim
/-- may the attribute be stored -/
def okFz (o : Option D) (d : D) : Prop := (match o with
  | some x => isFz x = false
  | none => True) ∧ isFz d = false
/-- an object of the class is there -/
def isObj (env : Ev) (i : Nat) (c : List Nat) (K : Prop) : Prop := match env[i]? with
  | some (.ow (.obj c' _)) => c' = c ∧ K
  | _ => False
theorem isObj_get {env : Ev} {i : Nat} {c : List Nat} {K : Prop} (h : isObj env i c K) : (∃ st, env[i]? = some (.ow (.obj c st))) ∧ K := by
  unfold isObj at h
  split at h
  · obtain ⟨rfl, h⟩ := h
    exact ⟨⟨_, by assumption⟩, h⟩
  · exact h.elim
/-- a new object is made: what __init__ leaves -/
def unfz : D → D
  | .fz es => .lst es
  | d => d
def mkW (env : Ev) (K : R → Ev → Prop) : Out → Prop
  | .ret (.v .non) [.obj c (.dic ks vs)] => K (.t (.obj c (.dic ks (vs.map unfz)))) env
  | _ => False
/-- what is made is asked at once, and goes -/
def mkmO (env : Ev) (K : R → Ev → Prop) : Out → Prop
  | .ret (.v d) [_] => K (.v d) env
  | _ => False
def mkmW (cl : String → Con) (c : List Nat) (m : String) (j : Nat) (K : R → Ev → Prop) (r : R) (env : Ev) : Prop := match r, env[j]? with
  | .t (.obj c' st), some (.sh d) => c' = c ∧ cl m [.ow (.obj c' st), .sh d] (mkmO env K)
  | _, _ => False
/-- is an exception of the class c one of the class x -/
def isX (c x : String) : Bool := c == x || (x == "FindError" || x == "ValueError")
def noE (env : Ev) : Ev := env.map fun _ => Slot.no
def Prm.tr (P : Prm) (ex : String → Prop) : Prm := ⟨P.cl, P.gc, P.refs, ex⟩
def tryV (is ap : List String) (c : String) : Slot := .ow (.lst (is.map (fun x => D.bl (isX c x)) ++ [.bl (ap.any fun x => isX c x)]))
/-- what stands in three slots -/
def shs3 (env : Ev) (a b c : Nat) (K : D → D → D → Prop) : Prop := match env[a]?, env[b]?, env[c]? with
  | some (.sh x), some (.sh y), some (.sh z) => K x y z
  | _, _, _ => False
theorem shs3_get {env : Ev} {a b c : Nat} {K : D → D → D → Prop} (h : shs3 env a b c K) : ∃ x y z, env[a]? = some (.sh x) ∧ env[b]? = some (.sh y) ∧ env[c]? = some (.sh z) ∧ K x y z := by
  unfold shs3 at h
  split at h
  · exact ⟨_, _, _, by assumption, by assumption, by assumption, h⟩
  · exact h.elim
def trypO (env : Ev) (j : Nat) (h : String) (is ap cs : List String) (fn : Ev → Prop) : Out → Prop
  | .ret _ [] => fn env
  | .ret _ _ => False
  | .exc x => x ∈ cs ∧ isX x h = true ∧ fn (env.set j (tryV is ap x))
def isOw (env : Ev) (i : Nat) (K : Prop) : Prop := match env[i]? with
  | some (.ow _) => K
  | _ => False
theorem isOw_get {env : Ev} {i : Nat} {K : Prop} (h : isOw env i K) : (∃ o, env[i]? = some (.ow o)) ∧ K := by
  unfold isOw at h
  split at h
  · exact ⟨⟨_, by assumption⟩, h⟩
  · exact h.elim
/-- dicts with tuples as keys -/
def dtAt (es : List (List Leaf × D)) (k : List Leaf) : Option D := (es.find? fun q => decide (q.1 = k)).map (·.2)
def dtPut (es : List (List Leaf × D)) (k : List Leaf) (d : D) : List (List Leaf × D) := match dtAt es k with
  | some _ => es.map fun q => if q.1 = k then (q.1, d) else q
  | none => es ++ [(k, d)]
def dtK (env : Ev) (i j : Nat) (K : List (List Leaf × D) → List Leaf → Prop) : Prop := match env[i]?, env[j]? with
  | some (.ow (.dtp es)), some (.sh (.tup ds)) => optW (leafs ds) fun k => K es k
  | _, _ => False
theorem dtK_get {env : Ev} {i j : Nat} {K : List (List Leaf × D) → List Leaf → Prop} (h : dtK env i j K) : ∃ es ds k, env[i]? = some (.ow (.dtp es)) ∧ env[j]? = some (.sh (.tup ds)) ∧ leafs ds = some k ∧ K es k := by
  unfold dtK at h
  split at h
  · obtain ⟨k, e, h⟩ := optW_get h
    exact ⟨_, _, k, by assumption, by assumption, e, h⟩
  · exact h.elim
/-- by a bool -/
def boolK (r : R) (Kt Kf : Prop) : Prop := match r with
  | .v (.bl true) => Kt
  | .v (.bl false) => Kf
  | _ => False
/-- the keys of a display: written texts -/
def keyE : E → List Nat
  | .cst (.str s) => s
  | _ => []
def keysE : Es → List (List Nat)
  | .nil => []
  | .cons e r => keyE e :: keysE r
mutual
def wpE (P : Prm) : E → Ev → (R → Ev → Prop) → Prop
  | .var i, env, K => match env[i]? with
    | some (.sh d) => K (.v d) env
    | some (.ow _) => K (.l i) env
    | _ => False
  | .cst d, env, K => K (.v d) env
  | .gl x, env, K => optW (P.gc x) fun d => match isDic d with
    | false => K (.v d) env
    | true => False
  | .kget x a, env, K => optW (P.gc x) fun c => match c with
    | .dic ks vs => wpE P a env fun r env1 => settle env1 r fun r env1 => peek env1 r fun d => match d with
      | .str s => optW (dAt (.str s) ks vs) fun v => K (.v v) env1
      | _ => False
    | _ => False
  | .op o as, env, K => wpEs P as env fun rs env1 => peeks env1 rs fun ds => osem o ds fun r => K r env1
  | .mop o a as, env, K => wpE P a env fun r env1 => settle env1 r fun r env1 => peek env1 r fun d0 => match kindM o d0 with
    | true => wpEs P as env1 fun rs env2 => peeks env2 (r :: rs) fun ds => osem o ds fun r => K r env2
    | false => False
  | .andv as, env, K => wpAnd P as env K
  | .orv as, env, K => wpOr P as env K
  | .notv a, env, K => wpE P a env fun r env1 => peek env1 r fun d => match d with
    | .bl b => K (.v (.bl (!b))) env1
    | _ => False
  | .ite c a b, env, K => wpT P c env fun t env1 => if t = true then wpE P a env1 K else wpE P b env1 K
  | .chain o p a b c, env, K => wpE P a env fun ra env1 => settle env1 ra fun ra env1 => wpE P b env1 fun rb env2 => settle env2 rb fun rb env2 => peek env2 ra fun da => peek env2 rb fun db => osem o [da, db] fun r => boolK r
    (wpE P c env2 fun rc env3 => settle env3 rc fun rc env3 => peek env3 rb fun db => peek env3 rc fun dc => osem p [db, dc] fun r => K r env3) (K (.v (.bl false)) env2)
  | .call f as rf bs, env, K => wpEs P as env fun rs env1 => keepArgs P.refs rf bs 0 env1 rs fun rs env2 => match nodupN (lentOf rf 0 rs), apartN (lentOf rf 0 rs) (seenOf rf 0 rs) with
    | true, true => argsOf rf env2 0 rs fun sl => P.cl f sl (outW P env2 (lentOf rf 0 rs) bs K)
    | _, _ => False
  | .lst as, env, K => wpEs P as env fun rs env1 => retains P.refs env1 rs fun ds env2 => K (.t (.lst ds)) env2
  | .tup as, env, K => wpEs P as env fun rs env1 => retains P.refs env1 rs fun ds env2 => K (.v (.tup ds)) env2
  | .dct ks vs, env, K => match ks with
    | .nil => K (.t (.dic [] [])) env
    | .cons _ _ => wpEs { P with ex := fun _ => False } vs env fun rs env1 => retains P.refs env1 rs fun ds env2 => K (.t (.dic ((keysE ks).map D.str) ds)) env2
  | .comp elt tg it cond own, env, K => wpIt P it env fun ds env1 => frees P.refs own <|
      compW own (wpTg P.refs tg) (wpCond { P with ex := fun _ => False } cond) (fun e k => wpE { P with ex := fun _ => False } elt e fun r e1 => retain P.refs e1 r k) ds [] (wipeE own env1) fun xs env2 => K (.t (.lst xs)) (backE env1 own env2)
  | .pop i, env, K => match env[i]? with
    | some (.ow (.lst ds)) => optW ds.getLast? fun d => K (.v d) (env.set i (.ow (.lst ds.dropLast)))
    | _ => False
  | .popAt i e, env, K => isLst env i (wpE P e env fun r env1 => settle env1 r fun r env1 => peek env1 r fun d => match d, env1[i]? with
    | .int k, some (.ow (.lst ds)) => -(2 ^ 63) ≤ k ∧ k < 2 ^ 63 ∧ optW (ixN ds.length k) fun j => optW ds[j]? fun d => K (.v d) (env1.set i (.ow (.lst (ds.eraseIdx j))))
    | _, _ => False)
  | .fld i f, env, K => match env[i]? with
    | some (.ow (.obj c (.dic ks vs))) => optW (dAt (.str f) ks vs) fun d => match d with
      | .fz _ => False
      | d => K (.v d) env
    | _ => False
  | .meth i c m as, env, K => isObj env i c <| wpEs P as env fun rs env1 => keepArgs P.refs [0] [] 0 env1 (.l i :: rs) fun rs env2 => match nodupN (lentOf [0] 0 rs), apartN (lentOf [0] 0 rs) (seenOf [0] 0 rs) with
    | true, true => argsOf [0] env2 0 rs fun sl => P.cl m sl (outW P env2 (lentOf [0] 0 rs) [] K)
    | _, _ => False
  | .mk c m as, env, K => wpEs P as env fun rs env1 => keepArgs P.refs [0] [] 1 env1 rs fun rs env2 => argsOf [0] env2 1 rs fun sl => P.cl m (.ow (.obj c (.dic [] [])) :: sl) (mkW env2 K)
  | .mkm c m0 as m j, env, K => wpEs P as env fun rs env1 => keepArgs P.refs [0] [] 1 env1 rs fun rs env2 => argsOf [0] env2 1 rs fun sl => P.cl m0 (.ow (.obj c (.dic [] [])) :: sl) (mkW env2 (mkmW P.cl c m j K))
  | .dtn, env, K => K (.t (.dtp [])) env
  | .dt1 a c, env, K => wpE { P with ex := fun _ => False } a env fun r env1 => settle env1 r fun r env1 => peek env1 r fun d => match d with
    | .tup ds => optW (leafs ds) fun q => K (.t (.dtp [(q, c)])) env1
    | _ => False
  | .dtg i j, env, K => dtK env i j fun es k => optW (dtAt es k) fun d => K (.v d) env
  | .dts i j k, env, K => dtK env i j fun es q => match env[k]? with
    | some (.sh d) => es.length < sizeLine ∧ match dtAt es q with
      | some d' => K (.v d') env
      | none => K (.v d) (env.set i (.ow (.dtp (es ++ [(q, d)]))))
    | _ => False
def wpEs (P : Prm) : Es → Ev → (List R → Ev → Prop) → Prop
  | .nil, env, K => K [] env
  | .cons e es, env, K => wpE P e env fun r env1 => settle env1 r fun r env1 => wpEs P es env1 fun rs env2 => K (r :: rs) env2
def wpAnd (P : Prm) : Es → Ev → (R → Ev → Prop) → Prop
  | .nil, _, _ => False
  | .cons e .nil, env, K => wpE P e env fun r env1 => settle env1 r K
  | .cons e es, env, K => wpE P e env fun r env1 => settle env1 r fun r env1 => peek env1 r fun d => match d with
    | .bl true => wpAnd P es env1 K
    | .bl false => K (.v (.bl false)) env1
    | _ => False
def wpOr (P : Prm) : Es → Ev → (R → Ev → Prop) → Prop
  | .nil, _, _ => False
  | .cons e .nil, env, K => wpE P e env fun r env1 => settle env1 r K
  | .cons e es, env, K => wpE P e env fun r env1 => settle env1 r fun r env1 => peek env1 r fun d => match d with
    | .bl false => wpOr P es env1 K
    | .bl true => K (.v (.bl true)) env1
    | _ => False
def wpT (P : Prm) : T → Ev → (Bool → Ev → Prop) → Prop
  | .notv a, env, K => wpT P a env fun b env1 => K (!b) env1
  | .kin neg x a, env, K => optW (P.gc x) fun c => match c with
    | .dic ks vs => wpE P a env fun r env1 => settle env1 r fun r env1 => peek env1 r fun d => match d with
      | .str s => K (match neg with | false => (dAt (.str s) ks vs).isSome | true => !(dAt (.str s) ks vs).isSome) env1
      | _ => False
    | _ => False
  | .dtin neg j i, env, K => dtK env i j fun es k => K (match neg with | false => (dtAt es k).isSome | true => !(dtAt es k).isSome) env
  | .andv as, env, K => wpAndT P as env K
  | .orv as, env, K => wpOrT P as env K
  | .ex e, env, K => wpE P e env fun r env1 => settle env1 r fun r env1 => peek env1 r fun d => truthD d fun b => K b env1
  | .chn o p a b c, env, K => wpE P a env fun ra env1 => settle env1 ra fun ra env1 => wpE P b env1 fun rb env2 => settle env2 rb fun rb env2 => peek env2 ra fun da => peek env2 rb fun db => osem o [da, db] fun r => boolK r
    (wpE P c env2 fun rc env3 => settle env3 rc fun rc env3 => peek env3 rb fun db => peek env3 rc fun dc => osem p [db, dc] fun r => boolK r (K true env3) (K false env3)) (K false env2)
  | .cmp o as, env, K => wpEs P as env fun rs env1 => peeks env1 rs fun ds => osem o ds fun r => settle env1 r fun r env1 => peek env1 r fun d => truthD d fun b => K b env1
def wpAndT (P : Prm) : Ts → Ev → (Bool → Ev → Prop) → Prop
  | .nil, env, K => K true env
  | .cons e es, env, K => wpT P e env fun b env1 => if b = true then wpAndT P es env1 K else K false env1
def wpOrT (P : Prm) : Ts → Ev → (Bool → Ev → Prop) → Prop
  | .nil, env, K => K false env
  | .cons e es, env, K => wpT P e env fun b env1 => if b = true then K true env1 else wpOrT P es env1 K
def wpCond (P : Prm) : To → Ev → (Bool → Ev → Prop) → Prop
  | .no, env, K => K true env
  | .yes c, env, K => wpT P c env K
/-- what is walked -/
def wpIt (P : Prm) : It → Ev → (List D → Ev → Prop) → Prop
  | .ex e, env, K => wpE P e env fun r env1 => retain P.refs env1 r fun d env2 => match d with
    | .lst ds => K ds env2
    | .fz ds => K ds env2
    | .tup ds => K ds env2
    | .str s => K (s.map fun c => .str [c]) env2
    | _ => False
  | .range as, env, K => wpEs P as env fun rs env1 => peeks env1 rs fun ds => match ds with
    | [.int j] => (-(2 ^ 62) ≤ j ∧ j < 2 ^ 62) ∧ K (rangeD 0 j.toNat) env1
    | [.int i, .int j] => (-(2 ^ 62) ≤ i ∧ i < 2 ^ 62 ∧ -(2 ^ 62) ≤ j ∧ j < 2 ^ 62) ∧ K (rangeD i (j - i).toNat) env1
    | _ => False
  | .enum a, env, K => wpE P a env fun r env1 => retain P.refs env1 r fun d env2 => match d with
    | .lst ds => K (enumD 0 ds) env2
    | .tup ds => K (enumD 0 ds) env2
    | _ => False
  | .zip as, env, K => wpEs P as env fun rs env1 => retains P.refs env1 rs fun ds env2 => match ds with
    | [.lst xs, .lst ys] => K (zipD xs ys) env2
    | [.tup xs, .tup ys] => K (zipD xs ys) env2
    | [.tup xs, .lst ys] => K (zipD xs ys) env2
    | _ => False
  | .items a, env, K => wpE P a env fun r env1 => retain P.refs env1 r fun d env2 => match d with
    | .dic ks vs => K (zipD ks vs) env2
    | _ => False
  | .keys a, env, K => wpE P a env fun r env1 => retain P.refs env1 r fun d env2 => match d with
    | .dic ks _ => K ks env2
    | _ => False
  | .kk x, env, K => optW (P.gc x) fun c => match c with
    | .dic ks _ => K ks env
    | _ => False
  | _, _, _ => False
end

/-- a result goes to a name -/
def storeW (refs : List Nat) (i : Nat) (r : R) (env : Ev) (K : Ev → Prop) : Prop := free refs i <| match r with
  | .v d => K (env.set i (.sh d))
  | .t o => K (env.set i (.ow o))
  | .l j => retain refs env (.l j) fun d env1 => K (env1.set i (.sh d))
def asgW (refs : List Nat) (tg : Tg) (r : R) (env : Ev) (K : Ev → Prop) : Prop := match tg with
  | .name i => storeW refs i r env K
  | .tup is => retain refs env r fun d env1 => wpTg refs (.tup is) d env1 K
mutual
def wpS (P : Prm) : S → Ev → Fn → Prop
  | .asg tg e, env, fn => wpE P e env fun r env1 => asgW P.refs tg r env1 fn.nx
  | .aug i o e, env, fn => free P.refs i <| match env[i]? with
    | some (.sh x) => wpE P e env fun r env1 => peek env1 r fun d => match o with
      | .add => (match x, d with
        | .int a, .int b => fn.nx (env1.set i (.sh (.int (a + b))))
        | .str a, .str b => a.length + b.length ≤ sizeLine ∧ fn.nx (env1.set i (.sh (.str (a ++ b))))
        | _, _ => False)
      | .sub => (match x, d with
        | .int a, .int b => fn.nx (env1.set i (.sh (.int (a - b))))
        | _, _ => False)
      | _ => False
    | _ => False
  | .seti i k e, env, fn => wpE P e env fun r env1 => retain P.refs env1 r fun d env2 => isOw env2 i <| wpE P k env2 fun rk env3 => settle env3 rk fun rk env3 => peek env3 rk fun dk => match env3[i]?, dk with
    | some (.ow (.lst ds)), .int z => optW (ixN ds.length z) fun j => fn.nx (env3.set i (.ow (.lst (ds.set j d))))
    | some (.ow (.dic ks vs)), dk => (keyD dk).isSome = true ∧ ks.length < sizeLine ∧ fn.nx (env3.set i (.ow (.dic (dPut dk d ks vs).1 (dPut dk d ks vs).2)))
    | _, _ => False
  | .append i e, env, fn => isLst env i (wpE P e env fun r env1 => retain P.refs env1 r fun d env2 => match env2[i]? with
    | some (.ow (.lst ds)) => ds.length < sizeLine ∧ fn.nx (env2.set i (.ow (.lst (ds ++ [d]))))
    | _ => False)
  | .extend i e, env, fn => isLst env i (wpE P e env fun r env1 => retain P.refs env1 r fun d env2 => match env2[i]?, d with
    | some (.ow (.lst ds)), .lst es => ds.length + es.length ≤ sizeLine ∧ fn.nx (env2.set i (.ow (.lst (ds ++ es))))
    | _, _ => False)
  | .ex e, env, fn => wpE P e env fun _ env1 => fn.nx env1
  | .iff c a b, env, fn => wpT P c env fun t env1 => if t = true then wpSs P a env1 fn else wpSs P b env1 fn
  | .loop tg it b, env, fn => wpIt P it env fun ds env1 => forW (wpTg P.refs tg) (wpSs P b) ds env1 fn
  | .whl c b, env, fn => ∃ W : Nat → Ev → Prop, (∃ m, W m env) ∧ ∀ m env, W m env → wpT P c env fun t env1 =>
      if t = true then wpSs P b env1 ⟨fun env2 => ∃ m', m' < m ∧ W m' env2, fn.rt⟩ else fn.nx env1
  | .ret e, env, fn => wpE P e env fn.rt
  | .raise c, _, _ => P.ex c
  | .tryc j _ h is ap cs b, env, fn => P.refs = [] ∧ wpSs (P.tr fun c => c ∈ cs ∧ isX c h = true ∧ fn.nx ((noE env).set j (tryV is ap c))) b env fn
  | .tryn j h cs b, env, fn => P.refs = [] ∧ wpSs (P.tr fun c => c ∈ cs ∧ isX c h = true ∧ fn.nx ((noE env).set j (.sh .non))) b env fn
  | .doc, env, fn => fn.nx env
  | .pass, env, fn => fn.nx env
  | .seta i f e, env, fn => wpE P e env fun r env1 => retain P.refs env1 r fun d env2 => match env2[i]? with
    | some (.ow (.obj c (.dic ks vs))) => okFz (dAt (.str f) ks vs) d ∧ ks.length < 1000 ∧ fn.nx (env2.set i (.ow (.obj c (.dic (dPut (.str f) d ks vs).1 (dPut (.str f) d ks vs).2))))
    | _ => False
  | .seto i f e, env, fn => wpE P e env fun r env1 => match r, env1[i]? with
    | .t (.lst es), some (.ow (.obj c (.dic ks vs))) => dAt (.str f) ks vs = none ∧ ks.length < 1000 ∧ fn.nx (env1.set i (.ow (.obj c (.dic (ks ++ [.str f]) (vs ++ [.fz es])))))
    | _, _ => False
  | .appa i f j, env, fn => match env[i]?, env[j]? with
    | some (.ow (.obj c (.dic ks vs))), some (.sh (.int n)) => (match dAt (.str f) ks vs with
      | some (.fz es) => CPow 2 n ∧ es.length < sizeLine ∧ fn.nx (env.set i (.ow (.obj c (.dic ks (dRep (.str f) (.fz (es ++ [.int (2 * 2 ^ n.toNat - 1)])) ks vs)))))
      | _ => False)
    | _, _ => False
  | .auga i f e, env, fn => match env[i]? with
    | some (.ow (.obj c0 (.dic ks0 vs0))) => optW (dAt (.str f) ks0 vs0) fun x => wpE P e env fun r env1 => peek env1 r fun d => match x, d, env1[i]? with
      | .int a, .int b, some (.ow (.obj c (.dic ks vs))) => c = c0 ∧ okFz (dAt (.str f) ks vs) (.int (a + b)) ∧ ks.length < 1000 ∧ fn.nx (env1.set i (.ow (.obj c (.dic (dPut (.str f) (.int (a + b)) ks vs).1 (dPut (.str f) (.int (a + b)) ks vs).2))))
      | _, _, _ => False
    | _ => False
  | .dtset i j e, env, fn => wpE P e env fun r env1 => retain P.refs env1 r fun d env2 => dtK env2 i j fun es k => es.length < sizeLine ∧ fn.nx (env2.set i (.ow (.dtp (dtPut es k d))))
  | .tryp j i h is ap cs f a b c, env, fn => P.refs = [] ∧ env[i]? = some .no ∧ shs3 env a b c fun x y z => P.cl f [.sh x, .sh y, .sh z] (trypO env j h is ap cs fn.nx)
def wpSs (P : Prm) : Ss → Ev → Fn → Prop
  | .nil, env, fn => fn.nx env
  | .cons s ss, env, fn => wpS P s env ⟨fun env1 => wpSs P ss env1 fn, fn.rt⟩
end

/-! ### defs -/
structure Def where
  name : String
  params : Nat
  slots : List String
  body : Ss
def refsOf : Nat → List Slot → List Nat
  | _, [] => []
  | p, .ow _ :: as => p :: refsOf (p + 1) as
  | p, _ :: as => refsOf (p + 1) as
def outsOf (env : Ev) : List Nat → (List Own → Prop) → Prop
  | [], K => K []
  | i :: is, K => match env[i]? with
    | some (.ow o) => outsOf env is fun os => K (o :: os)
    | _ => False
def finW (refs : List Nat) (K : Out → Prop) (r : R) (env : Ev) : Prop := outsOf env refs fun outs => match r with
  | .v d => K (.ret (.v d) outs)
  | .t o => K (.ret (.t o) outs)
  | .l i => free refs i <| match env[i]? with
    | some (.ow o) => K (.ret (.t o) outs)
    | some (.sh d) => K (.ret (.v d) outs)
    | _ => False
def startE (n : Nat) (as : List Slot) : Ev := as ++ List.replicate (n - as.length) .no
def wpDef (Γ : String → Con) (gc : String → Option D) (d : Def) (as : List Slot) (K : Out → Prop) : Prop :=
  wpSs ⟨Γ, gc, refsOf 0 as, fun c => K (.exc c)⟩ d.body (startE d.slots.length as) ⟨fun env => finW (refsOf 0 as) K (.v .non) env, finW (refsOf 0 as) K⟩
/-- the def keeps its promise, if what it calls does -/
def DefOk (Γ : String → Con) (gc : String → Option D) (d : Def) (con : Con) : Prop := ∀ as K, con as K → wpDef Γ gc d as K
end Nf
/-! calls: what a def promises in the hand layer's words; a caller's state behind a call -/
namespace Nf
open PySem PySem.Spec L2

def OutsAre (env : Ev) : List Nat → List Own → Prop
  | [], os => os = []
  | i :: is, os => ∃ o r, os = o :: r ∧ env[i]? = some (.ow o) ∧ OutsAre env is r
/-- the entry of a call -/
def entOf (S H : Hp) (F : Nat → List Addr) (vs : List V) (as : List Slot) : Ent := ⟨S, H, F, vs.map some, refsOf 0 as⟩
/-- the promise, in the hand layer's words -/
def spCon (B : Base) (mg : Str → Option Value) (n : Nat) (con : Con) : Sp := fun vs H Q E => vs.length = n ∧ ∃ (S : Hp) (as : List Slot) (F : Nat → List Addr) (K : Out → Prop),
  as.length = vs.length ∧ StOk B (entOf S H F vs as) (vs.map some) as S H F ∧ con as K ∧
  (∀ r outs σ' env' S' H' F' fr v, K (.ret r outs) → StOk B (entOf S H F vs as) σ' env' S' H' F' → OutsAre env' (refsOf 0 as) outs → RelR B (entOf S H F vs as) σ' S' H' F' r v fr → (∀ i, r ≠ .l i) → Q v H') ∧
  (∀ c σ' env' S' H' F' C, K (.exc c) → StOk B (entOf S H F vs as) σ' env' S' H' F' → mg (Str.ofString c) = some (.ref C) → E (.ref C) none H')

section
variable {B : Base} {N : Ent} {σ : Sg} {env : Ev} {S H : Hp} {F : Nat → List Addr}
theorem keepArgs_ok {rf bs : List Nat} : ∀ {rs : List R} {p : Nat} {env : Ev} {S : Hp} {F : Nat → List Addr} {vs : List V} {K : List R → Ev → Prop}, StOk B N σ env S H F → RelSs B σ S rs vs → keepArgs N.refs rf bs p env rs K →
    ∃ rs' env' S' F', K rs' env' ∧ Same S S' ∧ StOk B N σ env' S' H F' ∧ RelSs B σ S' rs' vs ∧ (bs = [] → seenOf rf p rs' = [])
  | [], p, env, S, F, vs, K, st, h, k => ⟨[], env, S, F, k, Same.refl _, st, h, fun _ => rfl⟩
  | r :: rs, p, env, S, F, vs, K, st, ⟨v, w, e1, h1, h2⟩, k => by
    unfold keepArgs at k
    split at k
    · rename_i m1 m2
      obtain ⟨d, env1, S1, F1, k1, e, st1, r1⟩ := retain_ok st (h1.toR (N := N) (H := H) (F := F)) k
      obtain ⟨rs', env2, S2, F2, k2, e', st2, r2, sn⟩ := keepArgs_ok st1 (h2.mono e) k1
      refine ⟨_, env2, S2, F2, k2, e.trans e', st2, ⟨v, w, e1, r1.mono e', r2⟩, fun hb => ?_⟩
      simp only [seenOf, m1]
      exact sn hb
    · rename_i mm
      obtain ⟨rs', env2, S2, F2, k2, e', st2, r2, sn⟩ := keepArgs_ok st h2 k
      refine ⟨_, env2, S2, F2, k2, e', st2, ⟨v, w, e1, h1.mono e', r2⟩, fun hb => ?_⟩
      subst hb
      have m1 : memN p rf = true := by
        cases q : memN p rf with
        | true => rfl
        | false => exact (mm q rfl).elim
      simp only [seenOf, m1]
      exact sn rfl

/-- one by one: how the arguments stand in the caller -/
def ArgIs (σ : Sg) (env : Ev) (S : Hp) (B : Base) (rf : List Nat) : Nat → List R → List Slot → List V → Prop
  | _, [], as, vs => as = [] ∧ vs = []
  | p, r :: rs, as, vs => ∃ s as' v vs', as = s :: as' ∧ vs = v :: vs' ∧ ArgIs σ env S B rf (p + 1) rs as' vs' ∧
      ((memN p rf = true ∧ ∃ i o, r = .l i ∧ env[i]? = some (.ow o) ∧ s = .ow o ∧ σ[i]? = some (some v)) ∨
       (memN p rf = false ∧ (∀ i, r = .l i → ∀ o, env[i]? = some (.ow o) → o.data ≠ none) ∧ ∃ d, s = .sh d ∧ (Rep B.K S d v ∨ ∃ i o, r = .l i ∧ env[i]? = some (.ow o) ∧ o.data = some d ∧ σ[i]? = some (some v))))
theorem argsOf_ok {rf : List Nat} (st : StOk B N σ env S H F) : ∀ {rs : List R} {p : Nat} {vs : List V} {K : List Slot → Prop}, RelSs B σ S rs vs → argsOf rf env p rs K → ∃ as, K as ∧ ArgIs σ env S B rf p rs as vs
  | [], p, vs, K, h, k => ⟨[], k, rfl, h⟩
  | r :: rs, p, vs, K, ⟨v, w, e1, h1, h2⟩, k => by
    unfold argsOf at k
    split at k
    · rename_i e
      split at k
      · rename_i i
        split at k
        · rename_i o e2
          obtain ⟨as, k2, h3⟩ := argsOf_ok st h2 k
          exact ⟨_, k2, .ow o, as, v, w, rfl, e1, h3, .inl ⟨e, i, o, rfl, e2, rfl, h1⟩⟩
        · exact k.elim
      · exact k.elim
    · rename_i e
      have fin : ∀ {d : D}, (argsOf rf env (p + 1) rs fun as => K (.sh d :: as)) → (∀ i, r = .l i → ∀ o, env[i]? = some (.ow o) → o.data ≠ none) → (Rep B.K S d v ∨ ∃ i o, r = .l i ∧ env[i]? = some (.ow o) ∧ o.data = some d ∧ σ[i]? = some (some v)) → ∃ as, K as ∧ ArgIs σ env S B rf p (r :: rs) as vs := fun {d} k ho hd => by
        obtain ⟨as, k2, h3⟩ := argsOf_ok st h2 k
        exact ⟨_, k2, .sh d, as, v, w, rfl, e1, h3, .inr ⟨e, ho, d, rfl, hd⟩⟩
      cases r with
      | v d => exact fin k (fun i z => by cases z) (.inl h1)
      | t o => exact h1.elim
      | l i =>
        unfold peek at k
        cases e2 : env[i]? with
        | none => simp only [e2] at k
        | some s =>
          simp only [e2] at k
          have h1' : σ[i]? = some (some v) := h1
          cases s with
          | no => exact k.elim
          | sh d =>
            obtain ⟨w', q1, q2⟩ := st.val i d e2
            rw [h1'] at q1; cases q1
            exact fin k (fun j z o h => by cases z; rw [e2] at h; cases h) (.inl q2)
          | ow o =>
            cases o with
            | lst ds => exact fin k (fun j z o h => by cases z; rw [e2] at h; cases h; exact fun z => by cases z) (.inr ⟨i, _, rfl, e2, rfl, h1'⟩)
            | dic ks vs => exact fin k (fun j z o h => by cases z; rw [e2] at h; cases h; exact fun z => by cases z) (.inr ⟨i, _, rfl, e2, rfl, h1'⟩)
            | obj c s => exact k.elim
            | dtp es => exact k.elim

/-- is the slot owned -/
def isOwn (env : Ev) (i : Nat) : Bool := match env[i]? with
  | some (.ow _) => true
  | _ => false
theorem isOwn_iff {env : Ev} {i : Nat} : isOwn env i = true ↔ ∃ o, env[i]? = some (.ow o) := by
  unfold isOwn
  constructor
  · intro h
    split at h
    · rename_i o e; exact ⟨o, e⟩
    · cases h
  · rintro ⟨o, e⟩
    rw [e]
/-- the shared part, with the lists that are only looked at -/
def seenA (env : Ev) (F : Nat → List Addr) (seen : List Nat) : List Addr := (seen.filter (isOwn env)).flatMap F
def withSeen (S H : Hp) (A : List Addr) : Hp := fun b => if b ∈ A then H b else S b
def without (S : Hp) (A : List Addr) : Hp := fun b => if b ∈ A then none else S b
theorem mem_seenA {env : Ev} {F : Nat → List Addr} {seen : List Nat} {b : Addr} : b ∈ seenA env F seen ↔ ∃ i, i ∈ seen ∧ isOwn env i = true ∧ b ∈ F i := by
  unfold seenA
  rw [List.mem_flatMap]
  constructor
  · rintro ⟨i, h1, h2⟩
    obtain ⟨h3, h4⟩ := List.mem_filter.mp h1
    exact ⟨i, h3, h4, h2⟩
  · rintro ⟨i, h1, h2, h3⟩
    exact ⟨i, List.mem_filter.mpr ⟨h1, h2⟩, h3⟩
/-- the footprints as the callee gets them -/
def lentF (rf : List Nat) (F : Nat → List Addr) : Nat → List R → Nat → List Addr
  | _, [], _ => []
  | p, r :: rs, q => if q = p then (match memN p rf, r with | true, .l i => F i | _, _ => []) else lentF rf F (p + 1) rs q
theorem lentF_lt {rf : List Nat} {F : Nat → List Addr} : ∀ {rs : List R} {p q : Nat}, q < p → lentF rf F p rs q = []
  | [], _, _, _ => rfl
  | r :: rs, p, q, h => by
    unfold lentF
    rw [if_neg (by omega)]
    exact lentF_lt (by omega)
theorem lentF_mem {rf : List Nat} {F : Nat → List Addr} : ∀ {rs : List R} {p q : Nat} {b : Addr}, b ∈ lentF rf F p rs q → ∃ i, rs[q - p]? = some (.l i) ∧ p ≤ q ∧ memN q rf = true ∧ b ∈ F i
  | [], _, _, _, h => by cases h
  | r :: rs, p, q, b, h => by
    unfold lentF at h
    by_cases e : q = p
    · subst e
      rw [if_pos rfl] at h
      split at h
      · rename_i i e2
        exact ⟨i, by simp, Nat.le_refl _, e2, h⟩
      · cases h
    · rw [if_neg e] at h
      obtain ⟨i, h1, h2, h3, h4⟩ := lentF_mem h
      refine ⟨i, ?_, by omega, h3, h4⟩
      rw [show q - p = (q - (p + 1)) + 1 by omega]
      simpa using h1
theorem lentOf_mem {rf : List Nat} : ∀ {rs : List R} {p q i : Nat}, p ≤ q → rs[q - p]? = some (.l i) → memN q rf = true → i ∈ lentOf rf p rs
  | [], _, _, _, _, h, _ => by simp at h
  | r :: rs, p, q, i, hp, h, hm => by
    unfold lentOf
    by_cases e : q = p
    · subst e
      have hr : r = .l i := by simpa using h
      subst hr
      rw [hm]
      exact List.mem_cons_self
    · have h' : rs[q - (p + 1)]? = some (.l i) := by
        rw [show q - p = (q - (p + 1)) + 1 by omega] at h
        simpa using h
      have := lentOf_mem (p := p + 1) (by omega) h' hm
      split
      · exact List.mem_cons_of_mem _ this
      · exact this
theorem nodupN_of : ∀ {l : List Nat}, nodupN l = true → l.Nodup
  | [], _ => List.nodup_nil
  | i :: is, h => by
    unfold nodupN at h
    split at h
    · cases h
    · rename_i e
      exact List.nodup_cons.mpr ⟨memN_of e, nodupN_of h⟩
theorem apartN_of : ∀ {l m : List Nat}, apartN l m = true → ∀ i ∈ l, i ∉ m
  | [], _, _, _, hi => by cases hi
  | i :: is, m, h, j, hj => by
    unfold apartN at h
    split at h
    · cases h
    · rename_i e
      rcases List.mem_cons.mp hj with rfl | hj
      · exact memN_of e
      · exact apartN_of h j hj
/-- two places that lend one slot are one -/
theorem lent_inj {rf : List Nat} : ∀ {rs : List R} {p q q' i : Nat}, (lentOf rf p rs).Nodup → p ≤ q → p ≤ q' → rs[q - p]? = some (.l i) → rs[q' - p]? = some (.l i) → memN q rf = true → memN q' rf = true → q = q'
  | [], _, _, _, _, _, _, _, h, _, _, _ => by simp at h
  | r :: rs, p, q, q', i, nd, hp, hp', h, h', hm, hm' => by
    have tailof : ∀ {k : Nat}, p ≤ k → k ≠ p → (r :: rs)[k - p]? = some (.l i) → rs[k - (p + 1)]? = some (.l i) := fun {k} hk hne hh => by
      rw [show k - p = (k - (p + 1)) + 1 by omega] at hh
      simpa using hh
    have ndt : (lentOf rf (p + 1) rs).Nodup := by
      unfold lentOf at nd
      split at nd
      · exact (List.nodup_cons.mp nd).2
      · exact nd
    by_cases e : q = p
    · by_cases e' : q' = p
      · rw [e, e']
      · subst e
        have hr : r = .l i := by simpa using h
        subst hr
        have h2 := tailof hp' e' h'
        have m2 := lentOf_mem (p := q + 1) (by omega) h2 hm'
        unfold lentOf at nd
        rw [hm] at nd
        exact ((List.nodup_cons.mp nd).1 m2).elim
    · by_cases e' : q' = p
      · subst e'
        have hr : r = .l i := by simpa using h'
        subst hr
        have h2 := tailof hp e h
        have m2 := lentOf_mem (p := q' + 1) (by omega) h2 hm
        unfold lentOf at nd
        rw [hm'] at nd
        exact ((List.nodup_cons.mp nd).1 m2).elim
      · exact lent_inj ndt (by omega) (by omega) (tailof hp e h) (tailof hp' e' h') hm hm'
theorem seenOf_mem {rf : List Nat} : ∀ {rs : List R} {p q i : Nat}, p ≤ q → rs[q - p]? = some (.l i) → memN q rf = false → i ∈ seenOf rf p rs
  | [], _, _, _, _, h, _ => by simp at h
  | r :: rs, p, q, i, hp, h, hm => by
    unfold seenOf
    by_cases e : q = p
    · subst e
      have hr : r = .l i := by simpa using h
      subst hr
      rw [hm]
      exact List.mem_cons_self
    · have h' : rs[q - (p + 1)]? = some (.l i) := by
        rw [show q - p = (q - (p + 1)) + 1 by omega] at h
        simpa using h
      have := seenOf_mem (p := p + 1) (by omega) h' hm
      split
      · exact List.mem_cons_of_mem _ this
      · exact this
theorem refsOf_mem : ∀ {as : List Slot} {p q : Nat}, q ∈ refsOf p as ↔ p ≤ q ∧ ∃ o, as[q - p]? = some (.ow o)
  | [], p, q => by simp [refsOf]
  | s :: as, p, q => by
    have ih := refsOf_mem (as := as) (p := p + 1) (q := q)
    have shift : p ≤ q → q ≠ p → ∀ {o : Own}, ((s :: as)[q - p]? = some (.ow o) ↔ as[q - (p + 1)]? = some (.ow o)) := fun hp hne {o} => by
      rw [show q - p = (q - (p + 1)) + 1 by omega]
      simp
    cases s with
    | ow o =>
      show q ∈ p :: refsOf (p + 1) as ↔ _
      rw [List.mem_cons, ih]
      constructor
      · rintro (rfl | ⟨h1, o', h2⟩)
        · exact ⟨Nat.le_refl _, o, by simp⟩
        · exact ⟨by omega, o', (shift (by omega) (by omega)).mpr h2⟩
      · rintro ⟨h1, o', h2⟩
        by_cases e : q = p
        · exact .inl e
        · exact .inr ⟨by omega, o', (shift h1 e).mp h2⟩
    | no =>
      show q ∈ refsOf (p + 1) as ↔ _
      rw [ih]
      constructor
      · rintro ⟨h1, o', h2⟩
        exact ⟨by omega, o', (shift (by omega) (by omega)).mpr h2⟩
      · rintro ⟨h1, o', h2⟩
        by_cases e : q = p
        · subst e; simp at h2
        · exact ⟨by omega, o', (shift h1 e).mp h2⟩
    | sh d =>
      show q ∈ refsOf (p + 1) as ↔ _
      rw [ih]
      constructor
      · rintro ⟨h1, o', h2⟩
        exact ⟨by omega, o', (shift (by omega) (by omega)).mpr h2⟩
      · rintro ⟨h1, o', h2⟩
        by_cases e : q = p
        · subst e; simp at h2
        · exact ⟨by omega, o', (shift h1 e).mp h2⟩
/-- one argument -/
theorem ArgIs.get {rf : List Nat} : ∀ {rs : List R} {p : Nat} {as : List Slot} {vs : List V}, ArgIs σ env S B rf p rs as vs → as.length = rs.length ∧ vs.length = rs.length ∧ ∀ (q : Nat) (s : Slot), as[q]? = some s → ∃ r v, rs[q]? = some r ∧ vs[q]? = some v ∧
      ((memN (p + q) rf = true ∧ ∃ i o, r = .l i ∧ env[i]? = some (.ow o) ∧ s = .ow o ∧ σ[i]? = some (some v)) ∨
       (memN (p + q) rf = false ∧ (∀ i, r = .l i → ∀ o, env[i]? = some (.ow o) → o.data ≠ none) ∧ ∃ d, s = .sh d ∧ (Rep B.K S d v ∨ ∃ i o, r = .l i ∧ env[i]? = some (.ow o) ∧ o.data = some d ∧ σ[i]? = some (some v))))
  | [], p, as, vs, ⟨h1, h2⟩ => by subst h1; subst h2; exact ⟨rfl, rfl, fun q s e => by simp at e⟩
  | r :: rs, p, as, vs, ⟨s, as', v, vs', e1, e2, h3, h4⟩ => by
    obtain ⟨l1, l2, ih⟩ := ArgIs.get h3
    subst e1; subst e2
    refine ⟨by simp [l1], by simp [l2], fun q s' e => ?_⟩
    cases q with
    | zero =>
      have e' : s = s' := by simpa using e
      subst e'
      exact ⟨r, v, rfl, rfl, h4⟩
    | succ q =>
      obtain ⟨r', v', h5, h6, h7⟩ := ih q s' (by simpa using e)
      exact ⟨r', v', by simpa using h5, by simpa using h6, by rw [show p + (q + 1) = p + 1 + q by omega]; exact h7⟩
end
end Nf
namespace Nf
open PySem PySem.Spec L2
section
variable {B : Base} {N : Ent} {σ : Sg} {env : Ev} {S H : Hp} {F : Nat → List Addr}
theorem lentF_eq {rf : List Nat} {F : Nat → List Addr} : ∀ {rs : List R} {p q i : Nat}, p ≤ q → rs[q - p]? = some (.l i) → memN q rf = true → lentF rf F p rs q = F i
  | [], _, _, _, _, h, _ => by simp at h
  | r :: rs, p, q, i, hp, h, hm => by
    unfold lentF
    by_cases e : q = p
    · subst e
      have hr : r = .l i := by simpa using h
      subst hr
      rw [if_pos rfl, hm]
    · have h' : rs[q - (p + 1)]? = some (.l i) := by
        rw [show q - p = (q - (p + 1)) + 1 by omega] at h
        simpa using h
      rw [if_neg e]
      exact lentF_eq (by omega) h' hm
theorem same_seen (st : StOk B N σ env S H F) {seen : List Nat} : Same S (withSeen S H (seenA env F seen)) := fun b x q => by
  unfold withSeen
  by_cases e : b ∈ seenA env F seen
  · rw [if_pos e]
    exact st.sub _ _ q
  · rw [if_neg e]; exact q
theorem call_enter {rf : List Nat} {rs : List R} {as : List Slot} {vs : List V} (st : StOk B N σ env S H F) (args : ArgIs σ env S B rf 0 rs as vs) (nd : nodupN (lentOf rf 0 rs) = true) (ap : apartN (lentOf rf 0 rs) (seenOf rf 0 rs) = true) :
    StOk B (entOf (withSeen S H (seenA env F (seenOf rf 0 rs))) H (lentF rf F 0 rs) vs as) (vs.map some) as (withSeen S H (seenA env F (seenOf rf 0 rs))) H (lentF rf F 0 rs) := by
  obtain ⟨l1, l2, get⟩ := args.get
  have es := same_seen (seen := seenOf rf 0 rs) st
  have inA : ∀ {b : Addr}, b ∈ seenA env F (seenOf rf 0 rs) → withSeen S H (seenA env F (seenOf rf 0 rs)) b = H b := fun {b} hb => by unfold withSeen; rw [if_pos hb]
  have outA : ∀ {b : Addr}, b ∉ seenA env F (seenOf rf 0 rs) → withSeen S H (seenA env F (seenOf rf 0 rs)) b = S b := fun {b} hb => by unfold withSeen; rw [if_neg hb]
  have mem : ∀ {q : Nat} {b : Addr}, b ∈ lentF rf F 0 rs q → ∃ i, rs[q]? = some (.l i) ∧ memN q rf = true ∧ b ∈ F i := fun {q b} hb => by
    obtain ⟨i, h1, _, h2, h3⟩ := lentF_mem hb
    exact ⟨i, by simpa using h1, h2, h3⟩
  refine ⟨Same.refl _, fun b x q => ?_, fun b x e _ => e, fun b e1 _ => e1, fun q d e => ?_, fun q o e => ?_, fun q b hb => ?_, fun q q' b h1 h2 => ?_, fun _ _ => rfl, by simp [l1, l2], fun q hq => ?_, fun q b hb => ?_⟩
  · by_cases e : b ∈ seenA env F (seenOf rf 0 rs)
    · rw [inA e] at q; exact q
    · rw [outA e] at q; exact st.sub _ _ q
  · obtain ⟨r, v, h1, h2, h3⟩ := get q _ e
    refine ⟨v, by rw [List.getElem?_map, h2]; rfl, ?_⟩
    rcases h3 with ⟨_, i, o, _, _, z, _⟩ | ⟨hm, _, d', z, h4⟩
    · cases z
    · cases z
      rcases h4 with h4 | ⟨i, o, e1, e2, e3, e4⟩
      · exact h4.mono es
      · obtain ⟨a, q1, q2⟩ := st.own i o e2
        rw [e4] at q1; cases q1
        have hA : a ∈ seenA env F (seenOf rf 0 rs) := mem_seenA.mpr ⟨i, seenOf_mem (p := 0) (Nat.zero_le _) (by rw [Nat.sub_zero, h1, e1]) (by rw [Nat.zero_add] at hm; exact hm), isOwn_iff.mpr ⟨o, e2⟩, q2.self⟩
        cases o with
        | lst ds =>
          cases e3
          obtain ⟨_, xs, q3, q4⟩ := q2
          unfold Rep
          exact ⟨a, xs, rfl, by rw [inA hA]; exact q3, q4.mono es⟩
        | dic ks vs =>
          cases e3
          obtain ⟨_, kvs, q3, q4, q5⟩ := q2
          unfold Rep
          exact ⟨a, kvs, rfl, .inl (by rw [inA hA]; exact q3), q4, q5.mono es⟩
        | obj c s => cases e3
        | dtp es => cases e3
  · obtain ⟨r, v, h1, h2, h3⟩ := get q _ e
    rcases h3 with ⟨hm, i, o', e1, e2, z, e4⟩ | ⟨_, _, d', z, _⟩
    · cases z
      obtain ⟨a, q1, q2⟩ := st.own i o e2
      rw [e4] at q1; cases q1
      refine ⟨a, by rw [List.getElem?_map, h2]; rfl, ?_⟩
      rw [lentF_eq (p := 0) (Nat.zero_le _) (by rw [Nat.sub_zero, h1, e1]) (by rw [Nat.zero_add] at hm; exact hm)]
      exact q2.stab es fun b _ => rfl
    · cases z
  · obtain ⟨i, h1, h2, h3⟩ := mem hb
    obtain ⟨p1, p2, _⟩ := st.priv i b h3
    refine ⟨?_, p2, .inl hb⟩
    rw [outA]
    · exact p1
    · intro hA
      obtain ⟨i', h4, _, h5⟩ := mem_seenA.mp hA
      have e : i = i' := st.dj _ _ _ h3 h5
      subst e
      exact apartN_of ap i (lentOf_mem (p := 0) (Nat.zero_le _) (by rw [Nat.sub_zero]; exact h1) h2) h4
  · obtain ⟨i, h3, h4, h5⟩ := mem h1
    obtain ⟨i', h6, h7, h8⟩ := mem h2
    have e : i = i' := st.dj _ _ _ h5 h8
    subst e
    exact lent_inj (p := 0) (nodupN_of nd) (Nat.zero_le _) (Nat.zero_le _) (by rw [Nat.sub_zero]; exact h3) (by rw [Nat.sub_zero]; exact h6) h4 h7
  · show lentF rf F 0 rs q = []
    refine List.eq_nil_iff_forall_not_mem.mpr fun b hb => hq ?_
    obtain ⟨i, h1, h2, h3⟩ := mem hb
    have hl : q < as.length := by rw [l1]; exact (List.getElem?_eq_some_iff.mp h1).1
    obtain ⟨r, v, q1, q2, q3⟩ := get q as[q] (List.getElem?_eq_getElem hl)
    rcases q3 with ⟨_, i', o, _, _, z, _⟩ | ⟨hm, _⟩
    · exact refsOf_mem.mpr ⟨Nat.zero_le _, o, by rw [Nat.sub_zero, List.getElem?_eq_getElem hl, z]⟩
    · rw [Nat.zero_add, h2] at hm; cases hm
  · obtain ⟨i, _, _, h3⟩ := mem hb
    exact (st.priv i b h3).2.1

/-- the lent slots behind the call -/
theorem setOws_ok {rf : List Nat} {env' : Ev} : ∀ {rs : List R} {p : Nat} {as : List Slot} {vs : List V} {outs : List Own} {env : Ev} {env0 : Ev} {K : Ev → Prop}, ArgIs σ env0 S B rf p rs as vs → (lentOf rf p rs).Nodup → OutsAre env' (refsOf p as) outs → setOws (lentOf rf p rs) outs env K →
    ∃ env2, K env2 ∧ env2.length = env.length ∧ (∀ i, i ∉ lentOf rf p rs → env2[i]? = env[i]?) ∧
      ∀ i, i ∈ lentOf rf p rs → i < env.length → ∃ q o, p ≤ q ∧ rs[q - p]? = some (.l i) ∧ memN q rf = true ∧ env2[i]? = some (.ow o) ∧ env'[q]? = some (.ow o) ∧ o ∈ outs
  | [], p, as, vs, outs, env, env0, K, ⟨e1, e2⟩, nd, ho, k => by
    subst e1; subst e2
    have e3 : outs = [] := ho
    subst e3
    exact ⟨env, k, rfl, fun i _ => rfl, fun i hi => by cases hi⟩
  | r :: rs, p, as, vs, outs, env, env0, K, ⟨s, as', v, vs', e1, e2, h3, h4⟩, nd, ho, k => by
    subst e1; subst e2
    have up : ∀ {q i : Nat}, p + 1 ≤ q → rs[q - (p + 1)]? = some (.l i) → (r :: rs)[q - p]? = some (.l i) := fun {q i} hq h => by
      rw [show q - p = (q - (p + 1)) + 1 by omega]
      simpa using h
    rcases h4 with ⟨hm, i, o, rfl, hi, rfl, hs⟩ | ⟨hm, _, d, rfl, _⟩
    · have eL : lentOf rf p (.l i :: rs) = i :: lentOf rf (p + 1) rs := by simp only [lentOf, hm]
      rw [eL] at nd k ⊢
      have ho' : OutsAre env' (p :: refsOf (p + 1) as') outs := ho
      obtain ⟨o1, os, rfl, q1, q2⟩ := ho'
      obtain ⟨env2, k2, l2, h5, h6⟩ := setOws_ok h3 (List.nodup_cons.mp nd).2 q2 k
      refine ⟨env2, k2, by simpa using l2, fun j hj => ?_, fun j hj hl => ?_⟩
      · have n1 : j ≠ i := fun e => hj (by rw [e]; exact List.mem_cons_self)
        rw [h5 j fun z => hj (List.mem_cons_of_mem _ z), List.getElem?_set_ne (Ne.symm n1)]
      · rcases List.mem_cons.mp hj with rfl | hj
        · refine ⟨p, o1, Nat.le_refl _, by simp, hm, ?_, q1, List.mem_cons_self⟩
          rw [h5 j (List.nodup_cons.mp nd).1, List.getElem?_set_self hl]
        · obtain ⟨q, o', a1, a2, a3, a4, a5, a6⟩ := h6 j hj (by simpa using hl)
          exact ⟨q, o', by omega, up a1 a2, a3, a4, a5, List.mem_cons_of_mem _ a6⟩
    · have eL : lentOf rf p (r :: rs) = lentOf rf (p + 1) rs := by cases r <;> simp only [lentOf, hm]
      rw [eL] at nd k ⊢
      have ho' : OutsAre env' (refsOf (p + 1) as') outs := ho
      obtain ⟨env2, k2, l2, h5, h6⟩ := setOws_ok h3 nd ho' k
      refine ⟨env2, k2, l2, h5, fun j hj hl => ?_⟩
      obtain ⟨q, o', a1, a2, a3, a4, a5, a6⟩ := h6 j hj hl
      exact ⟨q, o', by omega, up a1 a2, a3, a4, a5, a6⟩

/-- where a lent slot stands among the arguments -/
def posOf (rf : List Nat) (i : Nat) : Nat → List R → Option Nat
  | _, [] => none
  | p, r :: rs => match memN p rf, r with
    | true, .l j => if j = i then some p else posOf rf i (p + 1) rs
    | _, _ => posOf rf i (p + 1) rs
theorem posOf_some {rf : List Nat} {i : Nat} : ∀ {rs : List R} {p q : Nat}, posOf rf i p rs = some q → p ≤ q ∧ rs[q - p]? = some (.l i) ∧ memN q rf = true
  | [], _, _, h => by cases h
  | r :: rs, p, q, h => by
    have tl : posOf rf i (p + 1) rs = some q → p ≤ q ∧ (r :: rs)[q - p]? = some (.l i) ∧ memN q rf = true := fun h => by
      obtain ⟨h1, h2, h3⟩ := posOf_some h
      refine ⟨by omega, ?_, h3⟩
      rw [show q - p = (q - (p + 1)) + 1 by omega]
      simpa using h2
    unfold posOf at h
    split at h
    · rename_i j e
      split at h
      · rename_i e2
        cases h
        subst e2
        exact ⟨Nat.le_refl _, by simp, e⟩
      · exact tl h
    · exact tl h
theorem posOf_none {rf : List Nat} {i : Nat} : ∀ {rs : List R} {p : Nat}, posOf rf i p rs = none → i ∉ lentOf rf p rs
  | [], _, _ => List.not_mem_nil
  | r :: rs, p, h => by
    unfold posOf at h
    unfold lentOf
    split at h
    · rename_i j e
      try rw [e]
      split at h
      · cases h
      · rename_i e2
        intro hm
        rcases List.mem_cons.mp hm with rfl | hm
        · exact e2 rfl
        · exact posOf_none h hm
    · rename_i e
      have := posOf_none h
      first
        | exact this
        | (split
           · rename_i j e3
             exact (e j e3 rfl).elim
           · exact this)
theorem imm_without {S' : Hp} {A : List Addr} {K : PySem.W.Frag} (hA : ∀ b ∈ A, ∀ o, S' b = some o → (∃ xs, o = .lst xs) ∨ ∃ kvs, o = .dK kvs) (b : Addr) (xs : List V) (h : SqT K S' b xs) : SqT K (without S' A) b xs := by
  have keep : ∀ o, S' b = some o → (∀ ys, o ≠ .lst ys) → (∀ kvs, o ≠ .dK kvs) → without S' A b = some o := fun o e n1 n2 => by
    unfold without
    rw [if_neg]
    · exact e
    · intro hb
      rcases hA b hb o e with ⟨ys, z⟩ | ⟨kvs, z⟩
      · exact n1 ys z
      · exact n2 kvs z
  rcases h with (h | ⟨o, h⟩) | h
  · exact .inl (.inl (keep _ h (fun _ z => by cases z) (fun _ z => by cases z)))
  · exact .inl (.inr ⟨o, keep _ h (fun _ z => by cases z) (fun _ z => by cases z)⟩)
  · exact .inr h
theorem call_after {rf : List Nat} {rs : List R} {as : List Slot} {vs : List V} {σ' : Sg} {env' : Ev} {S' H' : Hp} {F' : Nat → List Addr} {outs : List Own} {K : Ev → Prop} (st : StOk B N σ env S H F) (args : ArgIs σ env S B rf 0 rs as vs)
    (nd : nodupN (lentOf rf 0 rs) = true) (ap : apartN (lentOf rf 0 rs) (seenOf rf 0 rs) = true)
    (st' : StOk B (entOf (withSeen S H (seenA env F (seenOf rf 0 rs))) H (lentF rf F 0 rs) vs as) σ' env' S' H' F') (ho : OutsAre env' (refsOf 0 as) outs)
    (him : seenA env F (seenOf rf 0 rs) = [] ∨ outs.all immO = true)
    (hobj : ∀ i ∈ seenOf rf 0 rs, ∀ o, env[i]? = some (.ow o) → o.data ≠ none)
    (k : setOws (lentOf rf 0 rs) outs env K) :
    ∃ env2 S2 F2, K env2 ∧ Same S S2 ∧ StOk B N σ env2 S2 H' F2 ∧ ∀ r v fr, RelR B (entOf (withSeen S H (seenA env F (seenOf rf 0 rs))) H (lentF rf F 0 rs) vs as) σ' S' H' F' r v fr → (∀ i, r ≠ .l i) →
      (seenA env F (seenOf rf 0 rs) = [] ∨ immR r = true) → RelR B N σ S2 H' F2 r v fr := by
  obtain ⟨l1, l2, get⟩ := args.get
  have es := same_seen (seen := seenOf rf 0 rs) st
  obtain ⟨env2, k2, hlen, hout, hin⟩ := setOws_ok args (nodupN_of nd) ho k
  have nd' := nodupN_of nd
  have inA : ∀ {b : Addr}, b ∈ seenA env F (seenOf rf 0 rs) → withSeen S H (seenA env F (seenOf rf 0 rs)) b = H b := fun {b} hb => by unfold withSeen; rw [if_pos hb]
  have outA : ∀ {b : Addr}, b ∉ seenA env F (seenOf rf 0 rs) → withSeen S H (seenA env F (seenOf rf 0 rs)) b = S b := fun {b} hb => by unfold withSeen; rw [if_neg hb]
  have memL : ∀ {q : Nat} {b : Addr}, b ∈ lentF rf F 0 rs q → ∃ i, rs[q]? = some (.l i) ∧ memN q rf = true ∧ b ∈ F i := fun {q b} hb => by
    obtain ⟨i, h1, _, h2, h3⟩ := lentF_mem hb
    exact ⟨i, by simpa using h1, h2, h3⟩
  have lentOf0 : ∀ {q i : Nat}, rs[q]? = some (.l i) → memN q rf = true → i ∈ lentOf rf 0 rs := fun {q i} h1 h2 => lentOf_mem (p := 0) (Nat.zero_le _) (by rw [Nat.sub_zero]; exact h1) h2
  -- what the callee leaves as it was
  have keepH : ∀ {b : Addr} {i : Nat}, b ∈ F i → i ∉ lentOf rf 0 rs → H' b = H b := fun {b i} hb hi => by
    obtain ⟨_, p2, _⟩ := st.priv i b hb
    cases e : H b with
    | none => exact (p2 e).elim
    | some x =>
      refine st'.frame b x e fun q hq => ?_
      obtain ⟨i', h1, h2, h3⟩ := memL hq
      have e2 := st.dj _ _ _ hb h3
      subst e2
      exact hi (lentOf0 h1 h2)
  -- the lists looked at stand in the callee's shared part as lists
  have hAl : ∀ b ∈ seenA env F (seenOf rf 0 rs), ∀ o, S' b = some o → (∃ xs, o = .lst xs) ∨ ∃ kvs, o = .dK kvs := fun b hb o e => by
    obtain ⟨i, h1, h2, h3⟩ := mem_seenA.mp hb
    obtain ⟨ow, h4⟩ := isOwn_iff.mp h2
    obtain ⟨a, h5, h6⟩ := st.own i ow h4
    have h7 : ∀ x, H b = some x → o = x := fun x hx => by
      have h8 := st'.s0 b x (by show withSeen S H (seenA env F (seenOf rf 0 rs)) b = _; rw [inA hb]; exact hx)
      rw [e] at h8; cases h8; rfl
    cases ow with
    | lst ds =>
      obtain ⟨e1, xs, e2, _⟩ := h6
      rw [e1] at h3
      have : b = a := by simpa using h3
      subst this
      exact .inl ⟨xs, h7 _ e2⟩
    | dic ks vs =>
      obtain ⟨e1, kvs, e2, _⟩ := h6
      rw [e1] at h3
      have : b = a := by simpa using h3
      subst this
      exact .inr ⟨kvs, h7 _ e2⟩
    | obj c s => exact (hobj i h1 _ h4 rfl).elim
    | dtp es => exact (hobj i h1 _ h4 rfl).elim
  have immS := fun b xs => imm_without (K := B.K) hAl b xs
  have sW : Same S (without S' (seenA env F (seenOf rf 0 rs))) := fun b x q => by
    unfold without
    rw [if_neg]
    · exact st'.s0 _ _ (es _ _ q)
    · intro hA
      obtain ⟨i, _, _, h3⟩ := mem_seenA.mp hA
      have := (st.priv i b h3).1
      rw [q] at this; cases this
  have nilW : seenA env F (seenOf rf 0 rs) = [] → without S' (seenA env F (seenOf rf 0 rs)) = S' := fun e => by
    funext b
    unfold without
    rw [e, if_neg List.not_mem_nil]
  have freshW : ∀ {b : Addr}, S b = none → H b ≠ none → without S' (seenA env F (seenOf rf 0 rs)) b = none := fun {b} h1 h2 => by
    unfold without
    by_cases hA : b ∈ seenA env F (seenOf rf 0 rs)
    · rw [if_pos hA]
    · rw [if_neg hA]
      exact st'.fresh b (by show withSeen S H _ b = none; rw [outA hA]; exact h1) h2
  have noneW : ∀ {b : Addr}, S' b = none → without S' (seenA env F (seenOf rf 0 rs)) b = none := fun {b} h => by
    unfold without
    by_cases hA : b ∈ seenA env F (seenOf rf 0 rs)
    · rw [if_pos hA]
    · rw [if_neg hA]; exact h
  obtain ⟨F2, hF2⟩ : ∃ F2 : Nat → List Addr, F2 = fun i => match posOf rf i 0 rs with | some q => F' q | none => F i := ⟨_, rfl⟩
  have F2in : ∀ {i : Nat} {b : Addr}, b ∈ F2 i → (∃ q, rs[q]? = some (.l i) ∧ memN q rf = true ∧ b ∈ F' q) ∨ (i ∉ lentOf rf 0 rs ∧ b ∈ F i) := fun {i b} hb => by
    rw [hF2] at hb
    dsimp only at hb
    cases e : posOf rf i 0 rs with
    | some q =>
      rw [e] at hb
      obtain ⟨_, h2, h3⟩ := posOf_some e
      exact .inl ⟨q, by simpa using h2, h3, hb⟩
    | none =>
      rw [e] at hb
      exact .inr ⟨posOf_none e, hb⟩
  have F2of : ∀ {i q : Nat}, rs[q]? = some (.l i) → memN q rf = true → F2 i = F' q := fun {i q} h1 h2 => by
    rw [hF2]
    dsimp only
    cases e : posOf rf i 0 rs with
    | some q' =>
      obtain ⟨_, h3, h4⟩ := posOf_some e
      have := lent_inj (p := 0) nd' (Nat.zero_le _) (Nat.zero_le _) (by rw [Nat.sub_zero]; exact h1) h3 h2 h4
      rw [this]
    | none => exact (posOf_none e (lentOf0 h1 h2)).elim
  have F2un : ∀ {i : Nat}, i ∉ lentOf rf 0 rs → F2 i = F i := fun {i} h => by
    rw [hF2]
    dsimp only
    cases e : posOf rf i 0 rs with
    | some q =>
      obtain ⟨_, h2, h3⟩ := posOf_some e
      exact (h (lentOf0 (by simpa using h2) h3)).elim
    | none => rfl
  -- an address of a lent slot behind the call
  have lentAd : ∀ {i q : Nat} {b : Addr}, rs[q]? = some (.l i) → memN q rf = true → b ∈ F' q → b ∈ F i ∨ H b = none := fun {i q b} h1 h2 h3 => by
    rcases (st'.priv q b h3).2.2 with z | z
    · obtain ⟨i', h4, _, h5⟩ := memL z
      rw [h1] at h4; cases h4
      exact .inl h5
    · exact .inr z
  refine ⟨env2, without S' (seenA env F (seenOf rf 0 rs)), F2, k2, sW, ⟨st.s0.trans sW, fun b x q => ?_, fun b x e nf => ?_, fun b e1 e2 => ?_, fun i d e => ?_, fun i o e => ?_, fun i b hb => ?_, fun i j b h1 h2 => ?_, st.pin, by rw [hlen]; exact st.len, st.wf, fun i b hb => ?_⟩, fun r v fr rel hnl hi => ?_⟩
  · unfold without at q
    by_cases hA : b ∈ seenA env F (seenOf rf 0 rs)
    · rw [if_pos hA] at q; cases q
    · rw [if_neg hA] at q; exact st'.sub _ _ q
  · have e1 := st.frame b x e nf
    refine st'.frame b x e1 fun q hq => ?_
    obtain ⟨i, _, _, h3⟩ := memL hq
    rcases (st.priv i b h3).2.2 with z | z
    · exact nf i z
    · rw [z] at e; cases e
  · have h1 := st.fresh b e1 e2
    refine freshW h1 ?_
    cases q : N.H0 b with
    | none => exact (e2 q).elim
    | some x =>
      by_cases nf : ∀ i, b ∉ N.F0 i
      · rw [st.frame b x q nf]; exact fun z => by cases z
      · have ⟨i, hi⟩ : ∃ i, b ∈ N.F0 i := by
          refine Classical.byContradiction fun z => nf fun i hi => z ⟨i, hi⟩
        exact st.f0 i b hi
  · by_cases hl : i ∈ lentOf rf 0 rs
    · have hil : i < env.length := by rw [← hlen]; exact (List.getElem?_eq_some_iff.mp e).1
      obtain ⟨q, o, _, _, _, h4, _, _⟩ := hin i hl hil
      rw [h4] at e; cases e
    · rw [hout i hl] at e
      obtain ⟨v, h1, h2⟩ := st.val i d e
      exact ⟨v, h1, h2.mono sW⟩
  · by_cases hl : i ∈ lentOf rf 0 rs
    · have hil : i < env.length := by rw [← hlen]; exact (List.getElem?_eq_some_iff.mp e).1
      obtain ⟨q, o', _, h2, h3, h4, h5, h6⟩ := hin i hl hil
      rw [Nat.sub_zero] at h2
      rw [h4] at e; cases e
      obtain ⟨a, q1, q2⟩ := st'.own q o h5
      -- the place of the object is the lent one
      have hq : q < as.length := by rw [l1]; exact (List.getElem?_eq_some_iff.mp h2).1
      obtain ⟨r, v, g1, g2, g3⟩ := get q as[q] (List.getElem?_eq_getElem hq)
      rw [h2] at g1; cases g1
      rcases g3 with ⟨_, i', o'', z1, z2, z3, z4⟩ | ⟨hm, _⟩
      · cases z1
        have href : q ∈ refsOf 0 as := refsOf_mem.mpr ⟨Nat.zero_le _, o'', by rw [Nat.sub_zero, List.getElem?_eq_getElem hq, z3]⟩
        have hp := st'.pin q href
        rw [q1] at hp
        have hp' : some (some (V.ref a)) = (vs.map some)[q]? := hp
        rw [List.getElem?_map, g2] at hp'
        cases hp'
        refine ⟨a, z4, ?_⟩
        rw [F2of h2 h3]
        rcases him with z | z
        · rw [nilW z]; exact q2
        · exact q2.imm_of (List.all_eq_true.mp z _ h6) immS
      · rw [Nat.zero_add, h3] at hm; cases hm
    · rw [hout i hl] at e
      obtain ⟨a, h1, h2⟩ := st.own i o e
      refine ⟨a, h1, ?_⟩
      rw [F2un hl]
      exact h2.stab sW fun b hb => keepH hb hl
  · rcases F2in hb with ⟨q, h1, h2, h3⟩ | ⟨h1, h2⟩
    · obtain ⟨p1, p2, _⟩ := st'.priv q b h3
      refine ⟨noneW p1, p2, ?_⟩
      rcases lentAd h1 h2 h3 with z | z
      · exact (st.priv i b z).2.2
      · exact .inr (h0_none st z)
    · obtain ⟨p1, p2, p3⟩ := st.priv i b h2
      exact ⟨freshW p1 p2, by rw [keepH h2 h1]; exact p2, p3⟩
  · rcases F2in h1 with ⟨q, a1, a2, a3⟩ | ⟨a1, a2⟩
    · rcases F2in h2 with ⟨q', b1, b2, b3⟩ | ⟨b1, b2⟩
      · have e := st'.dj _ _ _ a3 b3
        subst e
        rw [a1] at b1; cases b1; rfl
      · rcases lentAd a1 a2 a3 with z | z
        · exact st.dj _ _ _ z b2
        · exact ((st.priv j b b2).2.1 z).elim
    · rcases F2in h2 with ⟨q', b1, b2, b3⟩ | ⟨b1, b2⟩
      · rcases lentAd b1 b2 b3 with z | z
        · exact st.dj _ _ _ a2 z
        · exact ((st.priv i b a2).2.1 z).elim
      · exact st.dj _ _ _ a2 b2
  · have h1 := st.f0 i b hb
    by_cases nf : ∀ q, b ∉ lentF rf F 0 rs q
    · cases e : H b with
      | none => exact (h1 e).elim
      | some x => rw [st'.frame b x e nf]; exact fun z => by cases z
    · have ⟨q, hq⟩ : ∃ q, b ∈ lentF rf F 0 rs q := Classical.byContradiction fun z => nf fun q hq => z ⟨q, hq⟩
      exact st'.f0 q b hq
  · cases r with
    | l i => exact (hnl i rfl).elim
    | v d =>
      refine ⟨?_, rel.2⟩
      rcases hi with z | z
      · rw [nilW z]; exact rel.1
      · exact Rep.imm_of immS z rel.1
    | t o =>
      obtain ⟨a, e1, h2, h3⟩ := rel
      refine ⟨a, e1, ?_, fun b hb => ?_⟩
      · rcases hi with z | z
        · rw [nilW z]; exact h2
        · exact h2.imm_of z immS
      · obtain ⟨p1, p2, p3⟩ := h3 b hb
        refine ⟨noneW p1, h0_none st p2, fun i hi => ?_⟩
        rcases F2in hi with ⟨q, _, _, a3⟩ | ⟨_, a2⟩
        · exact p3 q a3
        · exact (st.priv i b a2).2.1 p2
end
end Nf
/-! operators and builtins: the text's form, the rule over values, and what is told over data -/
namespace Nf
open PySem PySem.Spec L2

/-- the builtins that the small language knows -/
def bnames : List String := ["len", "min", "max", "sum", "abs", "int", "bool", "str", "list", "tuple", "dict", "sorted", "set", "reversed", "range", "enumerate", "zip", "isinstance"]
/-- where the code stands: names by slot, the scope, the builtins are the builtins -/
structure GX (B : Base) (N : List Str) (sc : Scope) (X : Cx) : Prop where
  hK : X.K = B.K
  hN : X.N = N
  nd : N.Nodup
  hsc : X.env.scope = sc
  calm : X.calm = true
  unit : X.A.units + 80 < cLine
  blt : ∀ s, s ∈ bnames → X.mg (Str.ofString s) = none
  dbg : ∀ x ∈ N, x ≠ Str.ofString "__debug__" ∧ x ≠ Str.ofString "__classdict__"

/-! ### forms of the text -/
def notSet : Expr → Bool
  | .Set _ _ _ => false
  | _ => true
def notSlice : Expr → Bool
  | .Slice _ _ _ _ => false
  | _ => true
def notStar : Expr → Bool
  | .Starred _ _ => false
  | _ => true
def notComp : Expr → Bool
  | .ListComp _ _ _ _ => false
  | .SetComp _ _ _ _ => false
  | .DictComp _ _ _ _ _ => false
  | _ => true
def notCall0 : Expr → Bool
  | .Call _ _ _ _ => false
  | _ => true
def noStars : List Expr → Bool
  | [] => true
  | e :: es => notStar e && noStars es
def glB (sc : Scope) (x : Str) : Bool := match sc.names.lookup x with
  | some .globalImplicit => true
  | _ => false
def binArgs (op : Operator) (e : Expr) : Option (List Expr) := match e with
  | .BinOp a op' b _ => if op' = op then some [a, b] else none
  | _ => none
def cmpArgs (op : CmpOp) (e : Expr) : Option (List Expr) := match e with
  | .Compare a [op'] [b] _ => if op' = op ∧ notSet b = true then some [a, b] else none
  | _ => none
def callArgs (sc : Scope) (f : String) (n : Nat) (e : Expr) : Option (List Expr) := match e with
  | .Call (.Name x _) as [] _ => if x = Str.ofString f ∧ glB sc x = true ∧ noStars as = true ∧ as.length = n then some as else none
  | _ => none
def isiArgs (sc : Scope) (t : Ty) (e : Expr) : Option (List Expr) := match e with
  | .Call (.Name x _) [a, .Name y _] [] _ => if x = Str.ofString "isinstance" ∧ glB sc x = true ∧ notStar a = true ∧ y = Str.ofString (tyName t) ∧ glB sc y = true then some [a] else none
  | _ => none
def negE (i : Int) : Expr → Bool
  | .UnaryOp .USub (.Constant (.int j) _ _) _ => decide (j = i)
  | _ => false
def opArgs (sc : Scope) (o : Op) (e : Expr) : Option (List Expr) := match o with
  | .add => binArgs .Add e
  | .sub => binArgs .Sub e
  | .mul => binArgs .Mult e
  | .fdiv => binArgs .FloorDiv e
  | .mod => binArgs .Mod e
  | .pow => binArgs .Pow e
  | .shl => binArgs .LShift e
  | .shr => binArgs .RShift e
  | .band => binArgs .BitAnd e
  | .bor => binArgs .BitOr e
  | .neg => match e with
    | .UnaryOp .USub a _ => some [a]
    | _ => none
  | .eq => cmpArgs .Eq e
  | .ne => cmpArgs .NotEq e
  | .lt => cmpArgs .Lt e
  | .le => cmpArgs .LtE e
  | .gt => cmpArgs .Gt e
  | .ge => cmpArgs .GtE e
  | .inn => cmpArgs .In e
  | .notin => cmpArgs .NotIn e
  | .is => cmpArgs .Is e
  | .isnot => cmpArgs .IsNot e
  | .idx => match e with
    | .Subscript a b _ => if notSlice b = true then some [a, b] else none
    | _ => none
  | .sl00 => match e with
    | .Subscript a (.Slice none none none _) _ => some [a]
    | _ => none
  | .sl10 => match e with
    | .Subscript a (.Slice (some l) none none _) _ => some [a, l]
    | _ => none
  | .sl01 => match e with
    | .Subscript a (.Slice none (some h) none _) _ => some [a, h]
    | _ => none
  | .sl11 => match e with
    | .Subscript a (.Slice (some l) (some h) none _) _ => some [a, l, h]
    | _ => none
  | .rev2 => match e with
    | .Subscript a (.Slice (some l) (some h) (some c) _) _ => if negE 1 l = true ∧ negE 3 h = true ∧ negE 1 c = true then some [a] else none
    | _ => none
  | .lstrev => match e with
    | .Call (.Name x _) [.Call (.Name y _) [a] [] _] [] _ => if x = Str.ofString "list" ∧ y = Str.ofString "reversed" ∧ glB sc x = true ∧ glB sc y = true ∧ notStar a = true then some [a] else none
    | _ => none
  | .sset => match e with
    | .Call (.Name x _) [.Call (.Name y _) [a] [] _] [] _ => if x = Str.ofString "sorted" ∧ y = Str.ofString "set" ∧ glB sc x = true ∧ glB sc y = true ∧ notStar a = true then some [a] else none
    | _ => none
  | .sorted1 => callArgs sc "sorted" 1 e
  | .min3 => callArgs sc "min" 3 e
  | .len => callArgs sc "len" 1 e
  | .min1 => callArgs sc "min" 1 e
  | .min2 => callArgs sc "min" 2 e
  | .max2 => callArgs sc "max" 2 e
  | .sum1 => callArgs sc "sum" 1 e
  | .abs1 => callArgs sc "abs" 1 e
  | .int1 => callArgs sc "int" 1 e
  | .list1 => callArgs sc "list" 1 e
  | .tuple1 => callArgs sc "tuple" 1 e
  | .isi t => isiArgs sc t e
  | .tuprev => match e with
    | .Call (.Name x _) [.Call (.Name y _) [a] [] _] [] _ => if x = Str.ofString "tuple" ∧ y = Str.ofString "reversed" ∧ glB sc x = true ∧ glB sc y = true ∧ notStar a = true then some [a] else none
    | _ => none
  | .lrange => match e with
    | .Call (.Name x _) [.Call (.Name y _) [a] [] _] [] _ => if x = Str.ofString "list" ∧ y = Str.ofString "range" ∧ glB sc x = true ∧ glB sc y = true ∧ notStar a = true then some [a] else none
    | _ => none
  | _ => none

theorem binArgs_some {op : Operator} {e : Expr} {es : List Expr} (h : binArgs op e = some es) : ∃ a b pos, e = .BinOp a op b pos ∧ es = [a, b] := by
  unfold binArgs at h
  split at h
  · split at h
    · rename_i a op' b pos e2
      cases h
      subst e2
      exact ⟨a, b, pos, rfl, rfl⟩
    · cases h
  · cases h
theorem cmpArgs_some {op : CmpOp} {e : Expr} {es : List Expr} (h : cmpArgs op e = some es) : ∃ a b pos, e = .Compare a [op] [b] pos ∧ es = [a, b] ∧ notSet b = true := by
  unfold cmpArgs at h
  split at h
  · split at h
    · rename_i a op' b pos e2
      cases h
      obtain ⟨rfl, h2⟩ := e2
      exact ⟨a, b, pos, rfl, rfl, h2⟩
    · cases h
  · cases h
theorem callArgs_some {sc : Scope} {f : String} {n : Nat} {e : Expr} {es : List Expr} (h : callArgs sc f n e = some es) : ∃ p pos, e = .Call (.Name (Str.ofString f) p) es [] pos ∧ glB sc (Str.ofString f) = true ∧ noStars es = true ∧ es.length = n := by
  unfold callArgs at h
  split at h
  · split at h
    · rename_i x p as pos e2
      cases h
      obtain ⟨rfl, h2, h3, h4⟩ := e2
      exact ⟨p, pos, rfl, h2, h3, h4⟩
    · cases h
  · cases h

section
variable {B : Base} {N : List Str} {sc : Scope} {X : Cx}
theorem GX.gl (g : GX B N sc X) {x : Str} (h : glB sc x = true) : Gl X x := by
  unfold glB at h
  unfold Gl PySem.Env.kindOf
  rw [g.hsc]
  split at h
  · assumption
  · cases h
theorem noMark {op : CmpOp} {b : Expr} (h : notSet b = true) : behindInMarks op b = false := by
  cases b <;> first
    | rfl
    | cases h
theorem plainIx {b : Expr} (h : notSlice b = true) : PlainIx b := fun o i => by
  cases b <;> first
    | rfl
    | cases h
theorem star_cons {e : Expr} {es : List Expr} (env : PySem.Env) (h : notStar e = true) : starEach (e :: es) env = (false, eval e env) :: starEach es env := by
  cases e <;> first
    | rfl
    | cases h
theorem star_any {es : List Expr} (env : PySem.Env) (pos : Pos) : noStars es = true → (backTo pos (starEach es env)).any (·.1) = false := by
  induction es with
  | nil => intro _; rfl
  | cons e es ih =>
    intro h
    unfold noStars at h
    rw [Bool.and_eq_true] at h
    rw [star_cons env h.1]
    show (false || (backTo pos (starEach es env)).any (·.1)) = false
    rw [ih h.2]; rfl

/-! ### readings of several expressions -/
def nest : List TE → (List V → Hp → VK → Prop) → TE
  | [], r => fun _ H Q => r [] H Q
  | t :: ts, r => fun σ H Q => t σ H fun x H1 => nest ts (fun xs H2 Q2 => r (x :: xs) H2 Q2) σ H1 Q
/-- a list of expressions with their readings -/
def PEs (X : Cx) : List Expr → List TE → Prop
  | [], ts => ts = []
  | e :: es, ts => ∃ t r, ts = t :: r ∧ PE X e t ∧ PEs X es r
theorem PE.imp {e : Expr} {t t' : TE} (h : PE X e t) (i : ∀ σ H Q, t' σ H Q → t σ H Q) : PE X e t' := ⟨fun pins s σ H Q I hw => h.run pins s σ H Q I (i σ H Q hw)⟩
theorem PEs.one {a : Expr} {ts : List TE} (h : PEs X [a] ts) : ∃ t, ts = [t] ∧ PE X a t := by
  obtain ⟨t, r, rfl, h1, h2⟩ := h
  cases (show r = [] from h2)
  exact ⟨t, rfl, h1⟩
theorem PEs.two {a b : Expr} {ts : List TE} (h : PEs X [a, b] ts) : ∃ t u, ts = [t, u] ∧ PE X a t ∧ PE X b u := by
  obtain ⟨t, r, rfl, h1, h2⟩ := h
  obtain ⟨u, rfl, h3⟩ := PEs.one h2
  exact ⟨t, u, rfl, h1, h3⟩
theorem PEs.three {a b c : Expr} {ts : List TE} (h : PEs X [a, b, c] ts) : ∃ t u w, ts = [t, u, w] ∧ PE X a t ∧ PE X b u ∧ PE X c w := by
  obtain ⟨t, r, rfl, h1, h2⟩ := h
  obtain ⟨u, w, rfl, h3, h4⟩ := PEs.two h2
  exact ⟨t, u, w, rfl, h1, h3, h4⟩
/-- argument lists -/
def tas : List TE → TA
  | [] => tNil
  | t :: ts => tCons t (tas ts)
theorem pa_all : ∀ {es : List Expr} {ts : List TE}, PEs X es ts → noStars es = true → PA X es (tas ts)
  | [], ts, h, _ => by cases (show ts = [] from h); exact pa_nil
  | e :: es, ts, ⟨t, r, e1, h1, h2⟩, n => by
    unfold noStars at n
    rw [Bool.and_eq_true] at n
    subst e1
    exact pa_cons h1 (pa_all h2 n.2) (star_cons _ n.1)
theorem nest_eq {σ : Sg} {Q : VK} : ∀ (ts : List TE) (r : List V → Hp → VK → Prop) (H : Hp), nest ts r σ H Q = tas ts σ H fun vs H1 => r vs H1 Q
  | [], _, _ => rfl
  | t :: ts, r, H => by
    show (t σ H fun x H1 => nest ts (fun xs H2 Q2 => r (x :: xs) H2 Q2) σ H1 Q) = t σ H fun x H1 => tas ts σ H1 fun xs H2 => r (x :: xs) H2 Q
    congr 1
    funext x H1
    exact nest_eq ts _ H1
end

/-! ### the rules over values -/
section
variable {X : Cx}
theorem mem_bn {B : Base} {N : List Str} {sc : Scope} (g : GX B N sc X) {s : String} (h : s ∈ bnames) : X.mg (Str.ofString s) = none := g.blt s h
def vAdd (K : PySem.W.Frag) : R2 := fun x y H Q => (rI0 (fun i j => .int (i + j)) x y H Q ∨ (∃ i j, x = .str i ∧ y = .str j ∧ i.length + j.length ≤ sizeLine ∧ Q (.str (i ++ j)) H)) ∨ rCat x y H Q ∨ rCatA K x y H Q
theorem o_add : OpR X (binaryOp .Add) (vAdd X.K) := (op_add.or op_add_str).or (op_cat.or op_catA)
theorem flat_rep (a : Array Nat) : ∀ (n : Nat) (acc : Array Nat), ((List.replicate n a).foldl (· ++ ·) acc).toList = acc.toList ++ (List.replicate n a.toList).flatten
  | 0, acc => by simp
  | n + 1, acc => by
    rw [List.replicate_succ, List.foldl_cons, flat_rep a n, List.replicate_succ, List.flatten_cons]
    simp
theorem mul_flat (x : Str) (n : Int) (h : 0 ≤ n) : Txt.mul x n = ⟨((List.replicate n.toNat x.cps.toList).flatten).toArray⟩ := by
  refine Str.ext' (Array.toList_inj.mp ?_)
  show _ = (List.replicate n.toNat x.cps.toList).flatten
  unfold Txt.mul
  by_cases h1 : n < 1
  · have : n = 0 := by omega
    subst this
    rw [if_pos (by decide)]
    rfl
  · rw [if_neg h1]
    by_cases h2 : (n == 1 || x.length == 0) = true
    · rw [if_pos h2]
      rcases Bool.or_eq_true_iff.mp h2 with h3 | h3
      · have : n = 1 := eq_of_beq h3
        subst this
        show _ = (List.replicate 1 x.cps.toList).flatten
        simp
      · have h4 : x.length = 0 := eq_of_beq h3
        have h5 : x.cps.toList = [] := List.length_eq_zero_iff.mp (by simpa [Str.length] using h4)
        rw [h5]
        simp
    · rw [if_neg h2]
      show ((List.replicate n.toNat x.cps).foldl (· ++ ·) #[]).toList = _
      rw [flat_rep]; simp
theorem op_rep_str : OpR X (binaryOp .Mult) (fun x y H Q => ∃ z k, x = .str z ∧ y = .int k ∧ 0 ≤ k ∧ k ≤ 100000 ∧ z.length * k.toNat ≤ 100000 ∧ Q (.str ⟨((List.replicate k.toNat z.cps.toList).flatten).toArray⟩) H) := by
  intro pins s σ H x y v u Q I rx ry h
  obtain ⟨z, k, rfl, rfl, h1, h2, h3, q⟩ := h
  obtain ⟨t, rfl⟩ := rx
  obtain ⟨t', rfl⟩ := ry
  refine SB.mul ⟨?_, fun g1 g2 => ?_, fun g1 g2 => ?_⟩ fun t2 tk => ?_
  · rw [decide_eq_false (by omega), decide_eq_false (by omega)]; rfl
  · have hk : 0 < k := by omega
    have h4 : (z.length : Int) ≤ 100000 := by
      have : 1 ≤ k.toNat := by omega
      have := Nat.le_mul_of_pos_right z.length this
      omega
    have h5 : (100000 : Int) ≤ (2 ^ 63 - 1) / k := (Int.le_ediv_iff_mul_le hk).mpr (by omega)
    omega
  · unfold Builtin.Str.tooLong
    exact decide_eq_false (by rw [sizeLine_eq]; omega)
  · rw [mul_flat z k h1]
    exact ⟨.str _, H, I.tok _, ⟨_, rfl⟩, q⟩
def vMul : R2 := fun x y H Q => ((rI CMul (fun i j => .int (i * j)) x y H Q ∨ rI CMulW (fun i j => .int (i * j)) x y H Q) ∨ rRep x y H Q) ∨ ∃ z k, x = .str z ∧ y = .int k ∧ 0 ≤ k ∧ k ≤ 100000 ∧ z.length * k.toNat ≤ 100000 ∧ Q (.str ⟨((List.replicate k.toNat z.cps.toList).flatten).toArray⟩) H
theorem o_mul : OpR X (binaryOp .Mult) vMul := ((op_mul.or op_mulW).or op_rep).or op_rep_str
theorem ix_dict (hu : X.A.units + 64 < cLine) : IxR X (fun x y H Q => ∃ a v, x = .ref a ∧ DGet H a y (some v) ∧ Q v H) := by
  intro value slice pins s σ H x y v u Q I rx ry h hs
  obtain ⟨a, w, rfl, gd, q⟩ := h
  obtain rfl : v = Value.ref a := rx
  exact PyProof.Rows.tail_any (dict_typeIs I gd) PySem.F.slot_dict_getitem.lookup (d_getItem (by omega) I gd ry fun w' s' I' rw' => ⟨w, H, I', rw', q⟩) hs
def vIdx (K : PySem.W.Frag) : R2 := fun x y H Q => rIx K x y H Q ∨ ∃ a v, x = .ref a ∧ DGet H a y (some v) ∧ Q v H
theorem o_idx (hu : X.A.units + 64 < cLine) : IxR X (vIdx X.K) := ix_seq.or (ix_dict hu)
def vSl (K : PySem.W.Frag) : V → Option Int → Option Int → Hp → VK → Prop := fun x lo hi H Q => rSlS x lo hi H Q ∨ rSlL K x lo hi H Q ∨ rSlA K x lo hi H Q
theorem o_sl : SlR X (vSl X.K) := sl_str.or (sl_list.or sl_tupA)
def vInn (K : PySem.W.Frag) (neg : Bool) : R2 := fun x y H Q => (∃ (c : Nat) (z : Str), x = .str ⟨#[c]⟩ ∧ y = .str z ∧ Q (.bl (if neg then !decide (c ∈ z.cps.toList) else decide (c ∈ z.cps.toList))) H) ∨ (∃ a o, y = .ref a ∧ DGet H a x o ∧ Q (.bl (if neg then !o.isSome else o.isSome)) H) ∨
  (∃ d ds, Dp K H x d ∧ Dp K H y (.list ds) ∧ SeqAt.shaped d = true ∧ SeqAt.shaped (.list ds) = true ∧ Q (.bl (if neg then !ds.any fun z => PyData.eqv z d else ds.any fun z => PyData.eqv z d)) H) ∨
  ∃ d ds, Dp K H x d ∧ Dp K H y (.tuple ds) ∧ SeqAt.shaped d = true ∧ SeqAt.shaped (.tuple ds) = true ∧ Q (.bl (if neg then !ds.any fun z => PyData.eqv z d else ds.any fun z => PyData.eqv z d)) H
theorem o_inn (hu : X.A.units + 65 < cLine) : OpR X (compareOp .In) (vInn X.K false) := by
  intro pins s σ H x y v u Q I rx ry h
  rcases h with ⟨c, z, rfl, rfl, q⟩ | ⟨a, o, rfl, gd, q⟩ | h | h
  · exact op_in_sign pins s σ H _ _ v u Q I rx ry ⟨c, z, rfl, rfl, q⟩
  · obtain rfl : u = Value.ref a := ry
    exact d_in (by omega) I gd rx fun s3 I3 => ⟨.bl o.isSome, H, I3, rfl, q⟩
  · exact op_inD hu pins s σ H _ _ v u Q I rx ry h
  · obtain ⟨d, ds, hd, he, sd, se, q⟩ := h
    obtain ⟨as, r1⟩ := Dp.reads I d x v hd rx
    obtain ⟨bs, r2⟩ := Dp.reads I (.tuple ds) y u he ry
    exact SeqAt.in_tuple_reads r2 r1 (SeqAt.canLay_of_shaped se) (SeqAt.canLay_of_shaped sd) (PyProof.Rows.room_in_shaped sd hu) ⟨.bl _, H, I, rfl, q⟩
theorem o_notin (hu : X.A.units + 65 < cLine) : OpR X (compareOp .NotIn) (vInn X.K true) := by
  intro pins s σ H x y v u Q I rx ry h
  rcases h with ⟨c, z, rfl, rfl, q⟩ | ⟨a, o, rfl, gd, q⟩ | h | h
  · exact op_notIn_sign pins s σ H _ _ v u Q I rx ry ⟨c, z, rfl, rfl, q⟩
  · obtain rfl : u = Value.ref a := ry
    exact d_notIn (by omega) I gd rx fun s3 I3 => ⟨.bl (!o.isSome), H, I3, rfl, q⟩
  · exact op_notInD hu pins s σ H _ _ v u Q I rx ry h
  · obtain ⟨d, ds, hd, he, sd, se, q⟩ := h
    obtain ⟨as, r1⟩ := Dp.reads I d x v hd rx
    obtain ⟨bs, r2⟩ := Dp.reads I (.tuple ds) y u he ry
    exact SeqAt.notIn_tuple_reads r2 r1 (SeqAt.canLay_of_shaped se) (SeqAt.canLay_of_shaped sd) (PyProof.Rows.room_in_shaped sd hu) ⟨.bl _, H, I, rfl, q⟩
def vLt : R2 := fun x y H Q => rI0 (fun i j => .bl (decide (i < j))) x y H Q ∨ ∃ i j, x = .str i ∧ y = .str j ∧ Q (.bl (decide (i.cps.toList < j.cps.toList))) H
def vLe : R2 := fun x y H Q => rI0 (fun i j => .bl (decide (i ≤ j))) x y H Q ∨ ∃ i j, x = .str i ∧ y = .str j ∧ Q (.bl (!decide (j.cps.toList < i.cps.toList))) H
def vGt : R2 := fun x y H Q => rI0 (fun i j => .bl (decide (j < i))) x y H Q ∨ ∃ i j, x = .str i ∧ y = .str j ∧ Q (.bl (decide (j.cps.toList < i.cps.toList))) H
def vGe : R2 := fun x y H Q => rI0 (fun i j => .bl (decide (j ≤ i))) x y H Q ∨ ∃ i j, x = .str i ∧ y = .str j ∧ Q (.bl (!decide (i.cps.toList < j.cps.toList))) H
theorem o_lt : OpR X (compareOp .Lt) vLt := op_lt.or op_lt_str
theorem o_le : OpR X (compareOp .LtE) vLe := op_le.or op_le_str
theorem o_gt : OpR X (compareOp .Gt) vGt := op_gt.or op_gt_str
theorem o_ge : OpR X (compareOp .GtE) vGe := op_ge.or op_ge_str
def vIs : R2 := fun x y H Q => (y = .non ∧ Q (.bl (decide (x = .non))) H) ∨ ∃ a b, x = .bl a ∧ y = .bl b ∧ Q (.bl (decide (a = b))) H
def vIsNot : R2 := fun x y H Q => (y = .non ∧ Q (.bl (!decide (x = .non))) H) ∨ ∃ a b, x = .bl a ∧ y = .bl b ∧ Q (.bl (!decide (a = b))) H
theorem o_is : OpR X (compareOp .Is) vIs := op_isN.or op_is_bl
theorem o_isnot : OpR X (compareOp .IsNot) vIsNot := op_notN.or op_isnot_bl
/-- len, of a dict too -/
def vLen (K : PySem.W.Frag) : List V → Hp → VK → Prop := fun xs H Q => (∃ x n, xs = [x] ∧ LenV K x H n ∧ Q (.int n) H) ∨ ∃ a kvs, xs = [.ref a] ∧ Rd H a (.dK kvs) ∧ Q (.int kvs.length) H
theorem o_len : CallR X (.builtin "len") (vLen X.K) := by
  intro pins s σ H xs us Q I r h
  rcases h with h | ⟨a, kvs, rfl, ha, q⟩
  · exact call_len pins s σ H xs us Q I r h
  · obtain ⟨u, rfl, ru⟩ := vals1 r
    cases ru
    exact d_len I ha fun t s' I' => ⟨.int kvs.length, H, I', ⟨t, rfl⟩, q⟩
def vList (K : PySem.W.Frag) : List V → Hp → VK → Prop := fun xs H Q => (∃ p ys, xs = [.ref p] ∧ (SqL K H p ys ∨ SqT K H p ys) ∧ ∀ l, H l = none → Q (.ref l) (upd H l (.lst ys))) ∨
  ∃ z : Str, xs = [.str z] ∧ z.length ≤ sizeLine ∧ ∀ l, H l = none → Q (.ref l) (upd H l (.lst (z.cps.toList.map fun c => .str ⟨#[c]⟩)))
theorem o_list (hc : X.calm = true) : CallR X (.type "list") (vList X.K) := by
  intro pins s σ H xs us Q I r h
  rcases h with h | ⟨z, rfl, hz, q⟩
  · exact call_list_of pins s σ H xs us Q I r h
  · obtain ⟨u, rfl, t, rfl⟩ := vals1 r
    refine PySem.call_list_str (I.ok.hd hc) z t (hn := hz) fun h' tk acc' c' hk hS' hacc => ?_
    have hn : H s.heap.objs.size = none := I.hok.fresh (Nat.le_refl _)
    refine ⟨.ref s.heap.objs.size, _, I.laid (t' := tk) hk (Nat.le_refl _) (show ObjOk X.prog X.w _ _ _ (.lst (z.cps.toList.map fun c => V.str ⟨#[c]⟩)) from ⟨?_, acc'.toList, c', ?_, by simpa using hS'⟩), rfl, q _ hn⟩
    · rw [List.length_map]; simpa [Str.length] using hz
    · refine vals_of_at ?_ fun j x u hx hu => ?_
      · simp [hacc.1]
      · rw [List.getElem?_map] at hx
        obtain ⟨c, h1, h2⟩ := Option.map_eq_some_iff.mp hx
        obtain ⟨c', t', h3, h4⟩ := hacc.2 j u (by simpa using hu)
        rw [Array.getElem?_toList, h3] at h1
        cases h1
        subst h2
        exact ⟨t', h4⟩
end
end Nf
set_option maxHeartbeats 4000000
/-! sorted(xs) of a list of data; sorted(set(xs)) of a list of texts or of ints -/
namespace Nf
open PySem PySem.Spec L2

/-! ### sorted -/
def vSorted (K : PySem.W.Frag) : List V → Hp → VK → Prop := fun vs H Q => ∃ (a : Addr) (ps : List (PyData × V)), vs = [.ref a] ∧ SqL K H a (ps.map (·.2)) ∧ (∀ p ∈ ps, Dp K H p.2 p.1) ∧
  PySem.W.AllAlike (ps.map (·.1)) ∧ PySem.W.Sortable (ps.map (·.1)) ∧ (∀ p ∈ ps, p.1.depth ≤ 30) ∧
  ∀ q, H q = none → Q (.ref q) (upd H q (.lst ((ps.mergeSort (PySem.W.dataLe false (·.1))).map (·.2))))
theorem each_vals {α : Type} {f : α → V} : ∀ {ps : List α} {us : List Value}, Vals (ps.map f) us → PySem.W.EachIs (fun u p => RelV (f p) u) us ps
  | [], [], _ => .nil
  | [], _ :: _, h => by cases h
  | p :: ps, [], h => by cases h
  | p :: ps, u :: us, h => by
    cases h with
    | cons h1 h2 => exact .cons h1 (each_vals h2)
theorem vals_each {α : Type} {f : α → V} : ∀ {ps : List α} {us : List Value}, PySem.W.EachIs (fun u p => RelV (f p) u) us ps → Vals (ps.map f) us
  | [], [], _ => .nil
  | [], _ :: _, h => by cases h
  | p :: ps, [], h => by cases h
  | p :: ps, u :: us, h => by
    cases h with
    | cons h1 h2 => exact .cons h1 (vals_each h2)
theorem each_and {α β : Type} {R R' : α → β → Prop} {T : β → Prop} (hm : ∀ a b, R a b → T b → R' a b) : ∀ {as : List α} {bs : List β}, PySem.W.EachIs R as bs → (∀ b ∈ bs, T b) → PySem.W.EachIs R' as bs
  | _, _, .nil, _ => .nil
  | _, _, .cons h t, g => .cons (hm _ _ h (g _ List.mem_cons_self)) (each_and hm t fun b hb => g b (List.mem_cons_of_mem _ hb))
section
variable {X : Cx}
theorem o_sorted (hu : X.A.units + 64 < cLine) : CallR X (.builtin "sorted") (vSorted X.K) := by
  intro pins s σ H vs us Q I r h
  obtain ⟨a, ps, rfl, hs, hd, hal, hk, hdep, q⟩ := h
  obtain ⟨its, rv, hl, hz⟩ := I.list hs
  rw [Vals.ref1 r]
  have e := each_vals rv
  refine PySem.W.sorted_data (enc := fun p : PyData × V => p.1) hl.isList e (each_and (fun u p h1 h2 => Dp.reads I p.1 p.2 u h2 h1) e hd) hal hk (by simpa using hz) (fun b hb => by have := hdep b hb; omega) fun out hlen eo => ?_
  obtain ⟨ep, he'⟩ := PyProof.Rows.sortedAll_at s.heap its out.toArray
  have hlen' : ((ps.mergeSort (PySem.W.dataLe false fun p => p.1)).map (·.2)).length ≤ sizeLine := by
    rw [List.length_map, List.length_mergeSort]; simpa using hz
  exact ⟨.ref _, upd H (s.heap.objs.size + 1) (.lst _), I.laid (t' := s.toks) (fun _ _ => PyProof.Rows.sortedAll_old) (Nat.le_succ _) ⟨hlen', out, ep, vals_each eo, he'⟩, rfl, q _ (I.hok.fresh (Nat.le_succ _))⟩
end
end Nf
set_option maxHeartbeats 2000000
/-! list(reversed(xs)) of a list -/
namespace Nf
open PySem PySem.Spec PyProof.Rows L2 RT
section
variable {prog : Program} {w : World} {A : Around} {E : Value → Shared → Prop} {s : Shared}
theorem extend_rev {R : Result → Shared → Prop} {it l D : Addr} {items : Array Value} (hh : A.handled = none) (hit : s.heap.IsRevIter it l ((items.size : Int) - 1)) (hl : s.heap.IsList l items) (hne : l ≠ it) (hD : D ∉ [it, l])
    (res : Value) (c₀ : Nat) (hS : s.heap.get? D = some { cls := .type "list", data := .seq #[] c₀ }) (hn : items.size ≤ sizeLine)
    (hR : ∀ h' tk acc' c', (∀ b o, b ≠ D → b ≠ it → s.heap.get? b = some o → h'.get? b = some o) → h'.get? D = some { cls := .type "list", dict := none, data := .seq acc' c', slots := #[] } →
      ItemsOf (fun i v => items[items.size - 1 - i]? = some v) acc' items.size → R (.ok (.ret res)) { s with heap := h', toks := tk }) :
    wpAny (model prog w) A.in1 (Builtin.List.listExtendWith (.ref D) (.ref it) res)
      (fun fin s' => match fin with | .done f => R (.ok f) s' | .again c' => c'.quiet = true ∧ codeAny (model prog w) A c' R s') (fun e s' => R (.error e) s') s := by
  have W := (Walks.listRev (prog := prog) (w := w) (A := A.in1) hh it l hne items).toS
  have hT : s.TypeIs (.ref it) "list_reverseiterator" := hit.typeIs
  have h1 : Builtin.List.listSameRef (.ref D) (.ref it) = false := by
    have : D ≠ it := fun e => hD (by simp [e])
    simp [Builtin.List.listSameRef, this]
  unfold Builtin.List.listExtendWith
  refine wpAny_bind (wpAny_typeOf hT ?_)
  rw [if_neg (by rw [h1]; decide)]
  refine wpAny_bind (wpAny_pyIter_revIter hit ?_)
  refine wpAny_bind (wpAny_holding ?_)
  unfold Builtin.List.listLengthHint
  refine wpAny_bind (wpAny_specialOf hT nolen_lri ?_)
  show wpAny _ _ (specialOf (Value.ref it) (Str.ofString "__length_hint__") >>= _) _ _ _
  refine wpAny_bind (wpAny_specialOf hT hint_lri ?_)
  generalize hid : ("list_reverseiterator.__length_hint__" : String) = id0
  wp_delta
  rw [show splitId id0 = some ("list_reverseiterator", "__length_hint__") from by subst hid; decide +kernel]
  subst hid
  refine wpAny_bind (wpAny_isInstance (b := true) hT (by rw [isSubtype_type]; kernel_rfl) ?_)
  refine wpAny_pure ?_
  rw [if_neg (by decide)]
  have e0 : ((items.size : Nat) : Int) - 1 - ((0 : Nat) : Int) = (items.size : Int) - 1 := by omega
  refine wpAny_pure ⟨plainId_quiet F.plain_extend_loop _, codeAny_extend_loopS W hn _ hD _ items.size 0 _ _ _ rfl (Nat.zero_le _) ⟨Nat.zero_le _, by rw [e0]; exact hit, hl⟩ hS (ItemsOf.nil _) fun s' acc' c' hm hS' hacc => ?_⟩
  rw [Moved.eq_with hm]
  refine hR s'.heap s'.toks acc' c' (fun b o hb hb2 e => hm.heap b o (fun hmem => ?_) e) hS' hacc
  rcases List.mem_cons.mp hmem with e' | hmem
  · exact hb e'
  · exact hb2 (List.mem_singleton.mp hmem)
theorem call_list_rev {Q : Value → Shared → Prop} {it l : Addr} {items : Array Value} (hh : A.handled = none) (hit : s.heap.IsRevIter it l ((items.size : Int) - 1)) (hl : s.heap.IsList l items) (hne : l ≠ it) (hn : items.size ≤ sizeLine)
    (hQ : ∀ h' tk acc' c', (∀ b o, b ≠ it → s.heap.get? b = some o → h'.get? b = some o) →
      h'.get? s.heap.objs.size = some { cls := .type "list", dict := none, data := .seq acc' c', slots := #[] } → ItemsOf (fun i v => items[items.size - 1 - i]? = some v) acc' items.size → Q (.ref s.heap.objs.size) { s with heap := h', toks := tk }) :
    wpAny (model prog w) A (call (.type "list") [.ref it]) Q E s := by
  refine callType_codes (Q₁ := fun obj s₁ => obj = .ref s.heap.objs.size ∧ s₁ = { s with heap := s.heap.push { cls := .type "list", data := .seq #[] } }) F.called_list (F.typeCall_list_1 _) F.entry_list_init
    (code_list_new _ ⟨rfl, rfl⟩) fun obj s₁ h₁ => ?_
  obtain ⟨rfl, rfl⟩ := h₁
  have hS : (s.heap.push { cls := .type "list", data := .seq #[] }).get? s.heap.objs.size = some { cls := .type "list", data := .seq #[] } := Heap.get?_push_size _ rfl
  obtain ⟨oi, hoi, _⟩ := id hit
  obtain ⟨ol, hol, _⟩ := id hl
  have hSi : s.heap.objs.size ≠ it := Nat.ne_of_gt (Heap.lt_size hoi)
  have hSl : s.heap.objs.size ≠ l := Nat.ne_of_gt (Heap.lt_size hol)
  have hSf : s.heap.objs.size ∉ [it, l] := by simp only [List.mem_cons, List.not_mem_nil, or_false, not_or]; exact ⟨hSi, hSl⟩
  refine ⟨⟨_, hS, rfl⟩, F.args_list_init_2 _ _, ?_⟩
  show wpAny _ _ (do let old ← Builtin.List.listItems (.ref s.heap.objs.size); Builtin.List.listUpdate (.ref s.heap.objs.size) (fun _ => #[]); letGo old.toList.reverse; Builtin.List.listExtendWith (.ref s.heap.objs.size) (.ref it) .none) _ _ _
  refine wpAny_bind ?_
  unfold Builtin.List.listItems
  refine wpAny_bind (wpAny_seqItems hS rfl (wpAny_pure ?_))
  show wpAny _ _ (updateSeq s.heap.objs.size (fun _ => #[]) >>= fun _ => letGo (#[] : Array Value).toList.reverse >>= fun _ => Builtin.List.listExtendWith (.ref s.heap.objs.size) (.ref it) .none) _ _ _
  refine wpAny_bind (wpAny_updateSeq hS rfl ?_)
  have hS₂ := Heap.get?_update_self (Obj.mapSeq (fun _ => (#[] : Array Value))) hS rfl
  have oth : ∀ b o, b ≠ s.heap.objs.size → s.heap.get? b = some o → ((s.heap.push { cls := .type "list", data := .seq #[] }).update s.heap.objs.size (Obj.mapSeq (fun _ => (#[] : Array Value)))).get? b = some o :=
    fun b o hb e => (Heap.get?_update_other _ _ (Ne.symm hb)).trans (Heap.get?_push_of_some _ e)
  refine wpAny_bind (wpAny_letGo ?_)
  refine extend_rev (A := A.in1) (D := s.heap.objs.size) hh (hit.at fun o e => oth it o (Ne.symm hSi) e) ?_ hne hSf .none _ hS₂ hn fun h' tk acc' c' hk hS' hacc => ?_
  · obtain ⟨o, ho, r⟩ := hl
    exact ⟨o, oth l o (Ne.symm hSl) ho, r⟩
  · exact ⟨rfl, hQ h' tk acc' c' (fun b o hb e => hk b o (Nat.ne_of_lt (Heap.lt_size e)) hb (oth b o (Nat.ne_of_lt (Heap.lt_size e)) e)) hS' hacc⟩
end
section
variable {X : Cx}
def tLstRev (K : PySem.W.Frag) (te : TE) : TE := fun σ H Q => te σ H fun v H1 => ∃ (a : Addr) (xs : List V), v = .ref a ∧ SqL K H1 a xs ∧ ∀ q, H1 q = none → Q (.ref q) (upd H1 q (.lst xs.reverse))
theorem pe_lstRev {e : Expr} {te : TE} {p p2 pos pos2 : Pos} (hc : X.calm = true) (hg : Gl X "list") (hm : X.mg "list" = none) (hg2 : Gl X "reversed") (hm2 : X.mg "reversed" = none) (he : PE X e te)
    (hs : starEach [e] X.env = (false, eval e X.env) :: starEach [] X.env) :
    PE X (.Call (.Name "list" p) [.Call (.Name "reversed" p2) [e] [] pos2] [] pos) (tLstRev X.K te) := by
  have hs2 : starEach [.Call (.Name "reversed" p2) [e] [] pos2] X.env = (false, eval (.Call (.Name "reversed" p2) [e] [] pos2) X.env) :: starEach [] X.env := rfl
  refine ⟨fun pins s σ H Q I h => ?_⟩
  refine PyProof.Rows.Call_ (ld_blt I hg hm PyProof.Rows.boot_list (PyProof.Rows.callWith_type1 (args_cons (PyProof.Rows.Call_ (ld_blt I hg2 hm2 PyProof.Rows.boot_reversed (PyProof.Rows.callWith_type1 (args_cons (thn (he.run pins s σ H _ I h) fun u s1 ⟨v, H1, I1, r1, q1⟩ => args_nil ?_) hs) hs rfl))) hs2) hs2 rfl))
  obtain ⟨a, xs, ev, hq, q⟩ := q1
  subst ev
  obtain rfl : u = Value.ref a := r1
  obtain ⟨its, rv, p', hz⟩ := I1.list hq
  refine call_reversed_list p'.isList (args_nil ?_)
  have k0 : ∀ b o, s1.heap.get? b = some o → (s1.heap.push (revObj a ((its.toArray.size : Int) - 1))).get? b = some o := fun b o e => Heap.get?_push_of_some _ e
  have I2 : Inv X pins σ H1 { s1 with heap := s1.heap.push (revObj a ((its.toArray.size : Int) - 1)) } := I1.kept (t' := s1.toks) k0
  have fp := I1.fpOk (H' := H1) (b := s1.heap.objs.size) (Nat.le_refl _) (I1.hok.fresh (Nat.le_refl _))
  have hl := p'.isList
  obtain ⟨ol, hol, _⟩ := id hl
  have hne : a ≠ s1.heap.objs.size := Nat.ne_of_lt (Heap.lt_size hol)
  have hn : its.toArray.size ≤ sizeLine := by rw [List.size_toArray, ← rv.length]; exact hz
  refine call_list_rev (s := { s1 with heap := s1.heap.push (revObj a ((its.toArray.size : Int) - 1)) }) (I1.ok.hd hc) ⟨_, Heap.get?_push_size _ rfl, rfl, rfl⟩ (hl.push _) hne hn fun h' tk acc c' hk hS hi => ?_
  have e2 : (s1.heap.push (revObj a ((its.toArray.size : Int) - 1))).objs.size = s1.heap.objs.size + 1 := Heap.size_push ..
  have lst : ObjOk X.prog X.w (upd H1 (s1.heap.push (revObj a ((its.toArray.size : Int) - 1))).objs.size (.lst xs.reverse)) h' (s1.heap.push (revObj a ((its.toArray.size : Int) - 1))).objs.size (.lst xs.reverse) :=
    ⟨by rw [List.length_reverse]; exact hz, acc.toList, c', vals_rev rv hi, by simpa using hS⟩
  have hT : H1 (s1.heap.push (revObj a ((its.toArray.size : Int) - 1))).objs.size = none := I2.hok.fresh (Nat.le_refl _)
  refine ⟨.ref _, _, I2.turnedNew (t' := tk) (ch := [s1.heap.objs.size]) (fun b o hb e => hk b o (fun z => hb (by simp [z])) e) (fun b hb => ?_) (Nat.le_refl _) lst, rfl, q _ hT⟩
  rw [List.mem_singleton.mp hb]
  exact fp
end
end Nf
set_option maxHeartbeats 2000000
/-! enumerate of a tuple -/
namespace Nf
open PySem PySem.Spec PyProof.Rows L2
open PySem.AutoSeq1 (wpAny_loadPart')
theorem Draws.tup {prog : Program} {w : World} {A : Around} (hh : A.handled = none) (it l : Addr) (hne : l ≠ it) (items : Array Value) :
    PySem.Draws prog w A it [it, l] items.size (fun i v => items[i]? = some v) (fun i h => h.IsTupleIter it l i ∧ h.IsTuple l items) where
  live := fun _ _ st => let ⟨o, ho, _⟩ := st.1; ⟨o, ho⟩
  frame := fun _ _ _ st hk => by
    obtain ⟨⟨o, ho, r⟩, ⟨o2, ho2, r2⟩⟩ := st
    exact ⟨⟨o, hk it (by simp) o ho, r⟩, ⟨o2, hk l (by simp) o2 ho2, r2⟩⟩
  item := fun i s Q E hi st hQ => by
    refine RZ.nextOf_tuple_item st.1 st.2 (x := items[i]) (by simp [hi]) fun h' hit' hs' => ?_
    refine hQ _ h' s.toks (by simp [hi]) ⟨hit', ?_⟩ hs'
    obtain ⟨o2, ho2, r2⟩ := st.2
    exact ⟨o2, hs'.extBut l o2 hne ho2, r2⟩
  done := fun s Q E st hE => RZ.nextOf_tuple_end hh st.1 st.2 (by simp) hE
theorem enum_newT (l : Addr) (items : Array Value) (n : Nat) (dct : Option Addr) (sl : Array (Option Value)) :
    Meets (Builtin.«enumerate.__new__» ⟨[.type "enumerate", .ref l], []⟩) (fun _ R s => s.heap.get? l = some { cls := .type "tuple", dict := dct, data := .seq items n, slots := sl } ∧
      R (.ok (.ret (.ref (s.heap.push { cls := .type "tuple_iterator", data := .fields #[.ref l, .int 0 0] }).objs.size)))
        { s with heap := (s.heap.push { cls := .type "tuple_iterator", data := .fields #[.ref l, .int 0 0] }).push { cls := .type "enumerate", data := .fields #[.none, .bool false, .ref s.heap.objs.size, rawInt 0, .none, .none] } }) :=
  .of_wp fun prog w A R s h => by
    obtain ⟨hp, g, d, tk, os⟩ := s
    obtain ⟨hl, h⟩ := h
    have hsub := sub_enumerate
    have hL : Heap.IsTuple (Shared.heap ⟨hp, g, d, tk, os⟩) l items := ⟨_, hl, rfl, n, rfl⟩
    wp_walk using wpAny_loadPart' hl
    refine wpAny_stack_any fun st => wpAny_pure ?_
    split
    · rename_i c _ _ _ _ _
      cases (c == Value.type "enumerate")
      · wp_walk using wpAny_loadPart' hl, wpAny_pyIter_tuple hL
        exact ⟨_, rfl, h⟩
      · wp_walk using wpAny_loadPart' hl, wpAny_pyIter_tuple hL
        exact ⟨_, rfl, h⟩
    · wp_walk using wpAny_loadPart' hl, wpAny_pyIter_tuple hL
      exact ⟨_, rfl, h⟩
section
variable {prog : Program} {w : World} {A : Around} {E : Value → Shared → Prop} {s : Shared}
theorem call_enumT {l : Addr} {items : Array Value} {Q : Value → Shared → Prop} (hL : s.heap.IsTuple l items)
    (h : ∀ h', IsEnum h' (s.heap.objs.size + 1) s.heap.objs.size 0 .none → h'.IsTupleIter s.heap.objs.size l 0 → (∀ b o, s.heap.get? b = some o → h'.get? b = some o) → Q (.ref (s.heap.objs.size + 1)) { s with heap := h' }) :
    wpAny (model prog w) A (call (.type "enumerate") [.ref l]) Q E s := by
  obtain ⟨⟨c, dct, dt, sl⟩, hl, hc, n, hd⟩ := hL
  replace hc : c = .type "tuple" := hc
  replace hd : dt = .seq items n := hd
  subst hc hd
  refine callType_new PySem.F.called_enumerate (by decide) (PySem.F.typeCall_enumerate_1 _) (PySem.F.newCall_enumerate_1 _) (fun obj => PySem.F.args_object_init_2 obj _) PySem.F.entry_enumerate_new (enum_newT l items n dct sl) ⟨hl, ?_⟩
  have hz : (s.heap.push { cls := .type "tuple_iterator", data := .fields #[.ref l, .int 0 0] }).objs.size = s.heap.objs.size + 1 := Heap.size_push ..
  show _ ∧ _
  rw [hz]
  have he : IsEnum ((s.heap.push { cls := .type "tuple_iterator", data := .fields #[.ref l, .int 0 0] }).push
      { cls := .type "enumerate", data := .fields #[.none, .bool false, .ref s.heap.objs.size, rawInt 0, .none, .none] }) (s.heap.objs.size + 1) s.heap.objs.size 0 .none := by
    have := Heap.get?_push_size (s.heap.push { cls := .type "tuple_iterator", data := .fields #[.ref l, .int 0 0] })
      (o := { cls := .type "enumerate", data := .fields #[.none, .bool false, .ref s.heap.objs.size, rawInt 0, .none, .none] }) rfl
    rw [hz] at this; exact this
  exact ⟨⟨_, he, rfl⟩, h _ he ⟨_, Heap.get?_push_of_some _ (Heap.get?_push_size _ rfl), rfl, rfl⟩ fun b o x => Heap.get?_push_of_some _ (Heap.get?_push_of_some _ x)⟩
end
/-- the tuple at a, each item in a new pair -/
def IteT (K : PySem.W.Frag) (a : Addr) : L2.It :=
  ⟨fun i H => ∃ (xs : List V) (x : V), SqT K H a xs ∧ xs[i]? = some x, fun i H v H' => ∃ T x, v = .ref T ∧ H T = none ∧ H' = upd H T (.tup [.int (i : Nat), x]) ∧ ∀ xs, SqT K H a xs → xs[i]? = some x, fun i H => ∃ xs : List V, SqT K H a xs ∧ xs.length ≤ i⟩
theorem turn_enumT {P : Program} {w : World} {K : PySem.W.Frag} {elts : List Expr} {kk : Nat} {tpos : Pos} (a e it : Addr) :
    Turn P w K (.Tuple elts kk tpos) (IteT K a) [e, it] e (fun i h => (∃ old, IsEnum h e it ((i : Nat) : Int) old) ∧ h.IsTupleIter it a i ∧ e ≠ it ∧ e ≠ a ∧ a ≠ it) where
  mem := by simp
  obj := fun i h st b hb => by
    obtain ⟨⟨old, he⟩, ⟨o, ho, hc, hd⟩, _⟩ := st
    rcases (by simpa using hb : b = e ∨ b = it) with z | z
    · rw [z]; exact ⟨_, he, fun v q => nomatch q⟩
    · rw [z]; exact ⟨o, ho, fun v q => by rw [hd] at q; cases q⟩
  keep := fun i h h' st k => let ⟨⟨old, he⟩, hi, hne⟩ := st; ⟨⟨old, k e (by simp) _ he⟩, hi.at fun o q => k it (by simp) o q, hne⟩
  item := by
    intro X hP hw hK hc i pins s σ H E I hf st hg
    subst hP hw hK
    obtain ⟨⟨old, he⟩, hit, hne, hea, hai⟩ := st
    obtain ⟨xs, x, hq, hx⟩ := hg
    obtain ⟨its, rv, p, hz⟩ := I.tuple hq
    obtain ⟨u, hu, ru⟩ := rv.get hx
    have hel : e < s.heap.objs.size := Heap.lt_size he
    have hil : it < s.heap.objs.size := by
      obtain ⟨_, q, _⟩ := hit
      exact Heap.lt_size q
    have hlt : i < its.toArray.size := by simpa using (List.getElem?_eq_some_iff.mp hu).1
    refine wpAny_pyNext_enum_itemD (Draws.tup (A := X.A.in1) (I.ok.hd hc) it a hai its.toArray) he ⟨hit, p⟩ hlt hne (by simp [hne, hea]) fun x' h' tk hP ho hst hT hsz hk => ?_
    have hxu : x' = u := by
      have hP' : its.toArray[i]? = some x' := hP
      have : its.toArray[i]? = some u := by simpa using hu
      rw [hP'] at this
      exact Option.some.inj this
    subst hxu
    refine ⟨_, rfl, wpAny_letOwnedTupleGo_enum (s := { s with heap := h', toks := tk + 1 }) ho fun h'' he' sb => ?_⟩
    have hT2 : h''.get? s.heap.objs.size = some { cls := .type "tuple", data := .seq #[.int i tk, x'] } := (sb.2 _ (Nat.ne_of_gt hel)).trans hT
    have new : ObjOk X.prog X.w (upd H s.heap.objs.size (.tup [.int (i : Nat), x])) h'' s.heap.objs.size (.tup [.int (i : Nat), x]) :=
      ⟨by show 2 ≤ sizeLine; decide, [.int i tk, x'], .cons ⟨_, rfl⟩ (.cons ru .nil), ⟨_, hT2, rfl, _, rfl⟩⟩
    have I1 : Inv X pins σ (upd H s.heap.objs.size (.tup [.int (i : Nat), x])) { s with heap := h'', toks := tk + 1 } :=
      I.turnedNew (ch := [e, it]) (fun b ob hb q => (sb.2 b (fun z => hb (by simp [z]))).trans (hk b ob (fun z => hb (by simp [z])) (fun z => hb (by simp [z])) q)) hf (Nat.le_refl _) new
    refine ⟨.ref s.heap.objs.size, _, I1, rfl, ⟨_, x, rfl, I.hok.fresh (Nat.le_refl _), rfl, fun ys hy => by rw [I.tuple_inj hy hq]; exact hx⟩, ⟨⟨x', ?_⟩, hst.1.at fun o q => (sb.2 it (Ne.symm hne)).trans q, hne, hea, hai⟩, fun b hb => ?_⟩
    · have e1 : ((i + 1 : Nat) : Int) = (i : Int) + 1 := by omega
      rw [e1]; exact he'
    · have hb' : b < s.heap.objs.size := by
        rcases (by simpa using hb : b = e ∨ b = it) with z | z
        · rw [z]; exact hel
        · rw [z]; exact hil
      rw [upd_ne (Nat.ne_of_lt hb')]
      exact (hf b hb).1
  done := by
    intro X hP hw hK hc i pins s σ H E I hf st hg
    subst hP hw hK
    obtain ⟨⟨old, he⟩, hit, hne, hea, hai⟩ := st
    obtain ⟨xs, hq, hx⟩ := hg
    obtain ⟨its, rv, p, hz⟩ := I.tuple hq
    obtain ⟨f0, f1, f2, f3, f4, f5⟩ := hf it (by simp)
    have hl := rv.length
    have hT : s.TypeIs (.ref e) "enumerate" := ⟨_, he, rfl⟩
    unfold pyNext
    refine wpAny_bind (wpAny_attempt (wpAny_callSpecial?_slot (name := Str.ofString "__next__") hT PySem.F.slot_enumerate_next
      (wpAny_call_entry PySem.F.slot_enumerate_next hT PySem.F.entry_enumerate_next ?_ (PySem.F.args_enumerate_next_1 _))))
    show wpAny _ _ (field (.ref e) 2 >>= _) _ _ _
    refine wpAny_bind (wpAny_field he rfl (x := .ref it) rfl (wpAny_bind (RZ.nextOf_tuple_end (I.ok.hd hc) hit p (by simp; omega) fun h' x eb hx' => ?_)))
    obtain ⟨o, ho, hcl⟩ := hx'
    refine wpAny_bind (wpAny_isInstance (T := "StopIteration") (b := true) ⟨o, ho, hcl⟩ isSubtype_stop ?_)
    exact wpAny_pure ⟨rfl, I.turned (t' := s.toks) (fun b o hb q => eb b o hb q) f0 f1 f3 f4 f5⟩
  self := fun A i s Q E st h => let ⟨⟨_, he⟩, _⟩ := st; wpAny_pyIter_enum he h
/-- enumerate(x), a list or a tuple -/
def iEnumA (K : PySem.W.Frag) (ta : TA) : TI := fun σ H R => ta σ H fun vs H1 => ∃ a xs, vs = [.ref a] ∧ ((SqL K H1 a xs ∧ R (Ite K a) H1) ∨ (SqT K H1 a xs ∧ R (IteT K a) H1))
theorem pi_enumA {X : Cx} {e : Expr} {ta : TA} {p pos tpos : Pos} {elts : List Expr} {kk : Nat} (hg : Gl X "enumerate") (hm : X.mg "enumerate" = none) (ha : PA X [e] ta) (hs : starEach [e] X.env = [(false, eval e X.env)]) :
    PI X (.Tuple elts kk tpos) (.Call (.Name "enumerate" p) [e] [] pos) (iEnumA X.K ta) := by
  refine ⟨fun pins s σ H R I h => ?_⟩
  refine PyProof.Rows.Call_ (ld_blt I hg hm boot_enumerate (PyProof.Rows.callWith_type1 (thn (ha.run pos pins s σ H _ I h) fun us s1 ⟨vs, H1, I1, r1, q1⟩ => ?_) hs rfl))
  obtain ⟨a, xs, ex, q1⟩ := q1
  subst ex
  rw [Vals.ref1 r1]
  have fpk : ∀ b ∈ [s1.heap.objs.size + 1, s1.heap.objs.size], FpOk X pins H1 b := fun b hb => by
    have hle : s1.heap.objs.size ≤ b := by
      rcases (by simpa using hb : b = s1.heap.objs.size + 1 ∨ b = s1.heap.objs.size) with z | z
      · rw [z]; exact Nat.le_add_right _ _
      · rw [z]; exact Nat.le_refl _
    exact I1.fpOk hle (I1.hok.fresh hle)
  rcases q1 with ⟨hq, q⟩ | ⟨hq, q⟩
  · obtain ⟨its, rv, p', hz⟩ := I1.list hq
    refine call_enumerate_list p'.isList fun h' he hit hsz hk => wpAny_pyIter_enum he ?_
    exact ⟨s1.heap.objs.size + 1, [s1.heap.objs.size + 1, s1.heap.objs.size], _, _, H1, rfl, I1.kept (t' := s1.toks) hk, turn_enum a (s1.heap.objs.size + 1) s1.heap.objs.size, ⟨⟨.none, he⟩, hit, Nat.succ_ne_self _⟩, fpk, q⟩
  · obtain ⟨its, rv, p', hz⟩ := I1.tuple hq
    have hla : a < s1.heap.objs.size := by
      obtain ⟨o, ho, _⟩ := p'
      exact Heap.lt_size ho
    refine call_enumT p' fun h' he hit hk => wpAny_pyIter_enum he ?_
    exact ⟨s1.heap.objs.size + 1, [s1.heap.objs.size + 1, s1.heap.objs.size], _, _, H1, rfl, I1.kept (t' := s1.toks) hk, turn_enumT a (s1.heap.objs.size + 1) s1.heap.objs.size, ⟨⟨.none, he⟩, hit, Nat.succ_ne_self _, Nat.ne_of_gt (Nat.lt_succ_of_lt hla), Nat.ne_of_lt hla⟩, fpk, q⟩
end Nf
set_option maxHeartbeats 4000000
/-! sets of texts and of ints: set(xs) of a list, sorted of it -/
namespace Nf
open PySem PySem.Spec L2
open PyProof.Rows

/-- a kind of things that a set may hold: how their values look, how they are sorted -/
structure Kd (P : Program) (w : World) (α : Type) [DecidableEq α] where
  knd : PySem.KeyKind P w α
  mkv : α → Tok → Value
  ko : Value → α
  v : α → V
  enc : α → PyData
  ko_mk : ∀ k t, ko (mkv k t) = k
  is_mk : ∀ k t, knd.is k (mkv k t) = true
  sc : ∀ k t, (mkv k t).scannable = true
  rel : ∀ k u, RelV (v k) u ↔ ∃ t, u = mkv k t
  rds : ∀ h k t, Reads h (mkv k t) (enc k) []
  alk : ∀ a b, PySem.W.alike (enc a) (enc b) = true
  oth : ∀ a, enc a ≠ .none ∧ ∀ xs, enc a ≠ .tuple xs
  dep : ∀ a, (enc a).depth = 0
section
variable {P : Program} {w : World} {α : Type} [DecidableEq α] (κ : Kd P w α)
def Gd (e : Int × Value) : Prop := ∃ k tk, e.2 = κ.mkv k tk ∧ e.1 = κ.knd.hash k
/-- the set at a: its members by S, n of them -/
def SetG (h : Heap) (a : Addr) (S : α → Bool) (n : Nat) : Prop := ∃ o es ep t, h.get? a = some o ∧ o.ExactSet ∧ o.data = .set es ep t ∧
  ((∀ e ∈ es.toList, Gd κ e) ∧ (es.toList.map fun e => κ.ko e.2).Nodup ∧ ∀ k, S k = true ↔ k ∈ es.toList.map fun e => κ.ko e.2) ∧
  (es.size < scanBound ∧ t.fits es.size = true ∧ es.size = n) ∧ Ris t.place.toList ∧ (w.params.followText "set-order" = true ∨ t.led = true)
variable {κ}
theorem SetG.mono {h h' : Heap} {a : Addr} {S : α → Bool} {n : Nat} (R : SetG κ h a S n) (k : ∀ o, h.get? a = some o → h'.get? a = some o) : SetG κ h' a S n := by
  obtain ⟨o, es, ep, t, ho, r⟩ := R
  exact ⟨o, es, ep, t, k o ho, r⟩
theorem SetG.cong {h : Heap} {a : Addr} {S S' : α → Bool} {n : Nat} (R : SetG κ h a S n) (e : ∀ k, S' k = S k) : SetG κ h a S' n := by
  have q : S' = S := funext e
  rw [q]; exact R
theorem Gd.elems {l : List (Int × Value)} (g : ∀ e ∈ l, Gd κ e) : ElemsOf κ.knd l := fun e he => by
  obtain ⟨k, tk, h1, h2⟩ := g e he
  exact ⟨⟨k, by rw [h1]; exact κ.is_mk k tk, h2⟩, by rw [h1]; exact κ.sc k tk⟩
theorem Gd.is {e : Int × Value} (g : Gd κ e) (k : α) : κ.knd.is k e.2 = true ↔ κ.ko e.2 = k := by
  obtain ⟨k0, tk, h1, _⟩ := g
  rw [h1, κ.ko_mk]
  constructor
  · intro q
    exact κ.knd.inj _ _ _ (κ.is_mk k0 tk) q
  · rintro rfl
    exact κ.is_mk k0 tk
theorem Gd.mem {l : List (Int × Value)} (g : ∀ e ∈ l, Gd κ e) (k : α) : (k ∈ l.map fun e => κ.ko e.2) ↔ ∃ e ∈ l, κ.knd.is k e.2 = true := by
  rw [List.mem_map]
  exact ⟨fun ⟨e, he, q⟩ => ⟨e, he, ((g e he).is k).2 q⟩, fun ⟨e, he, q⟩ => ⟨e, he, ((g e he).is k).1 q⟩⟩
section
variable {A : Around} {E : Value → Shared → Prop} {s : Shared} {a : Addr} {S : α → Bool} {n : Nat}
theorem setG_tail {g : Bool → Sem Unit} (hg : ∀ (b : Bool) (s₁ : Shared) (Q' : Unit → Shared → Prop), Q' () s₁ → wpAny (model P w) A (g b) Q' E s₁)
    {o : Obj} {es es1 : Array (Int × Value)} {ep : Nat} {t t2 : SetTable} (ho : s.heap.get? a = some o) (hex : o.ExactSet) (hd : o.data = .set es ep t) {S' : α → Bool}
    (g1 : ∀ e ∈ es1.toList, Gd κ e) (nd1 : (es1.toList.map fun e => κ.ko e.2).Nodup) (m1 : ∀ k, S' k = true ↔ k ∈ es1.toList.map fun e => κ.ko e.2)
    (hb1 : es1.size < scanBound) (hf2 : t2.fits es1.size = true) (hr : Ris t2.place.toList) (hl : w.params.followText "set-order" = true ∨ t2.led = true) {wasDummy : Bool} {R : Option Bool → Shared → Prop}
    (hR : ∀ h', Heap.SameBut a s.heap h' → SetG κ h' a S' es1.size → R (some true) { s with heap := h' }) :
    wpAny (model P w) A (do
        (storeSet a es1 t2)
        if (!wasDummy && t2.tooFull) = true then do
            (g (relayAll t2 es1 (SetTable.grown es1.size)).2.2)
            (storeSet a (relayAll t2 es1 (SetTable.grown es1.size)).1 (relayAll t2 es1 (SetTable.grown es1.size)).2.1)
            pure (some true)
          else pure (some true)) R E s := by
  refine wpAny_bind (wpAny_storeSet_of ho hd ?g1 (fits_of_scanBound hb1))
  have o1 := store_at (es' := es1) (t' := t2) ho hd
  have b1 := Heap.SameBut.update s.heap a (Obj.putSet es1 t2)
  split
  · have pm := relayAll_perm t2 es1 (SetTable.grown es1.size)
    have f3 := relayAll_fits t2 es1 (SetTable.grown es1.size)
    have r3 := relayAll_ris t2 es1 (SetTable.grown es1.size)
    have l3 := relayAll_led t2 es1 (SetTable.grown es1.size)
    generalize relayAll t2 es1 (SetTable.grown es1.size) = Z at pm f3 r3 l3 ⊢
    obtain ⟨es2, t3, gave⟩ := Z
    dsimp only at pm f3 r3 l3 ⊢
    have z : es2.size = es1.size := by rw [← Array.length_toList, pm.length_eq, Array.length_toList]
    have b2 : es2.size < scanBound := by rw [z]; exact hb1
    refine wpAny_bind (hg _ _ _ (wpAny_bind (wpAny_storeSet_of o1 rfl ?g2 (fits_of_scanBound b2))))
    have o2 := store_at (es' := es2) (t' := t3) o1 rfl
    refine wpAny_pure (hR _ (b1.trans (Heap.SameBut.update _ a _)) ⟨_, es2, _, t3, o2, hex, rfl, ⟨fun e he => g1 e (pm.mem_iff.mp he), ?g3, fun k => (m1 k).trans ?g4⟩, ⟨b2, f3, z⟩, r3, hl.imp id fun q => by rw [l3]; exact q⟩)
    · exact (pm.map fun e => κ.ko e.2).nodup_iff.mpr nd1
    · exact (pm.map fun e => κ.ko e.2).mem_iff.symm
  · exact wpAny_pure (hR _ b1 ⟨_, es1, _, t2, o1, hex, rfl, ⟨g1, nd1, m1⟩, ⟨hb1, hf2, rfl⟩, hr, hl⟩)
theorem setG_add {k : α} {tk : Tok} {Q : Bool → Shared → Prop} (R : SetG κ s.heap a S n) (room : n + 1 < scanBound)
    (hQ : ∀ h', Heap.SameBut a s.heap h' → SetG κ h' a (fun j => S j || decide (j = k)) (if S k = true then n else n + 1) → Q (!S k) { s with heap := h' }) :
    wpAny (model P w) A (setAddHashed a (κ.mkv k tk) (κ.knd.hash k)) Q E s := by
  obtain ⟨o, es, ep, t, ho, hex, hd, ⟨g, nd, hm⟩, ⟨hb, hf, hn⟩, hr, hl⟩ := R
  have hkey : κ.knd.is k (κ.mkv k tk) = true := κ.is_mk k tk
  have hsc : (κ.mkv k tk).scannable = true := κ.sc k tk
  have hel : ElemsOf κ.knd es.toList := Gd.elems g
  unfold setAddHashed setAddHashedIn
  refine wpAny_holding (wpAny_bind (wpAny_setState_of ho hd hf ?g1))
  dsimp only
  rw [byScan_of hsc hb hel]
  simp only [↓reduceIte]
  unfold setAddByScan
  refine wpAny_bind (wpAny_bind (wpAny_rule (wpAny_bind (wpAny_setScan_of hkey ho hd hf hel ?g2))))
  cases hfi : List.findIdx? (fun e => κ.knd.is k e.2) es.toList with
  | some j =>
    dsimp only
    obtain ⟨hj, pj, _⟩ := List.findIdx?_eq_some_iff_getElem.mp hfi
    have hSk : S k = true := (hm k).2 ((Gd.mem g k).2 ⟨es.toList[j], List.getElem_mem hj, pj⟩)
    refine wpAny_pure (wpAny_pure ?g3)
    have q := hQ s.heap (Heap.SameBut.refl a s.heap) ⟨o, es, ep, t, ho, hex, hd, ⟨g, nd, fun i => by
      rw [Bool.or_eq_true, decide_eq_true_eq, ← hm i]
      exact ⟨fun z => z.elim id (fun e => by rw [e]; exact hSk), .inl⟩⟩, ⟨hb, hf, by rw [if_pos hSk]; exact hn⟩, hr, hl⟩
    rw [hSk] at q
    exact q
  | none =>
    dsimp only
    have hnk : k ∉ es.toList.map fun e => κ.ko e.2 := fun z => by
      obtain ⟨e, he, q⟩ := (Gd.mem g k).1 z
      have c := List.findIdx?_eq_none_iff.mp hfi e he
      rw [q] at c
      cases c
    have hSk : S k = false := by
      cases q : S k with
      | false => rfl
      | true => exact absurd ((hm k).1 q) hnk
    have hgw : ∀ (b : Bool) {s₁ : Shared} {Q' : Unit → Shared → Prop}, Q' () s₁ → wpAny (model P w) A (match b with | true => rule "set.scan.the-table-gave-way" | false => pure ()) Q' E s₁ := fun b s₁ Q' q => by
      cases b
      · first | exact wpAny_pure q | exact wpAny_rule q
      · first | exact wpAny_pure q | exact wpAny_rule q
    have pm := layNew_perm t es (κ.knd.hash k) (κ.mkv k tk)
    have f1 := layNew_fits t es (κ.knd.hash k) (κ.mkv k tk)
    have r1 := layNew_ris t es (κ.knd.hash k) (κ.mkv k tk) hr
    have l1 := layNew_led t es (κ.knd.hash k) (κ.mkv k tk)
    generalize layNew t es (κ.knd.hash k) (κ.mkv k tk) = Z at pm f1 r1 l1 ⊢
    obtain ⟨es1, t1, wasDummy, gave⟩ := Z
    dsimp only at pm f1 r1 l1 ⊢
    rw [Array.toList_push] at pm
    have pc : es1.toList.Perm ((κ.knd.hash k, κ.mkv k tk) :: es.toList) := pm.trans (List.perm_append_singleton _ _)
    have pk : (es1.toList.map fun e => κ.ko e.2).Perm (k :: es.toList.map fun e => κ.ko e.2) := by
      have := pc.map fun e => κ.ko e.2
      rwa [List.map_cons, κ.ko_mk] at this
    have g1 : ∀ e ∈ es1.toList, Gd κ e := fun e he => by
      rcases List.mem_cons.mp (pc.mem_iff.mp he) with z | z
      · rw [z]; exact ⟨k, tk, rfl, rfl⟩
      · exact g e z
    have nd1 : (es1.toList.map fun e => κ.ko e.2).Nodup := pk.nodup_iff.mpr (List.nodup_cons.mpr ⟨hnk, nd⟩)
    have m1 : ∀ i, (S i || decide (i = k)) = true ↔ i ∈ es1.toList.map fun e => κ.ko e.2 := fun i => by
      rw [Bool.or_eq_true, decide_eq_true_eq, hm i, pk.mem_iff, List.mem_cons]
      exact Or.comm
    have z1 : es1.size = n + 1 := by rw [← Array.length_toList, pc.length_eq, List.length_cons, Array.length_toList, hn]
    have hb1 : es1.size < scanBound := by rw [z1]; exact room
    have hled : w.params.followText "set-order" = true ∨ t1.led = true := hl.imp id fun z => by rw [l1]; exact z
    have fin : ∀ h', Heap.SameBut a s.heap h' → SetG κ h' a (fun j => S j || decide (j = k)) es1.size → Q true { s with heap := h' } := fun h' sb r => by
      have q := hQ h' sb
      rw [hSk] at q
      rw [z1] at r
      exact q r
    refine wpAny_bind (hgw _ ?g4)
    split
    · refine wpAny_bind ?g5
      rw [hashByValue_scannable 8 hsc]
      refine wpAny_pure ?g6
      refine setG_tail ?h1 ho hex hd g1 nd1 m1 hb1 ?h2 ?h3 ?h4 ?h5
      · intro b s₁ Q' q
        cases b
        · first | exact wpAny_pure q | exact wpAny_rule q
        · first | exact wpAny_pure q | exact wpAny_rule q
      · first | (split <;> first | exact f1 | exact SetTable.fits_plain_off f1) | exact f1
      · first | (split <;> exact r1) | exact r1
      · first | (split <;> exact hled) | exact hled
      · intro h' sb r
        dsimp only
        exact wpAny_pure (fin h' sb r)
    · refine wpAny_bind (wpAny_pure ?g7)
      simp only [↓reduceIte]
      refine setG_tail ?k1 ho hex hd g1 nd1 m1 hb1 f1 r1 hled ?k2
      · intro b s₁ Q' q
        cases b
        · first | exact wpAny_pure q | exact wpAny_rule q
        · first | exact wpAny_pure q | exact wpAny_rule q
      · intro h' sb r
        dsimp only
        exact wpAny_pure (fin h' sb r)
end
end
end Nf
set_option maxHeartbeats 4000000
namespace Nf
open PySem PySem.Spec L2
open PyProof.Rows
section
variable {P : Program} {w : World} {α : Type} [DecidableEq α] {κ : Kd P w α} {A : Around} {E : Value → Shared → Prop} {s : Shared}
theorem setG_new {h : Heap} {a : Addr} {ks : List α} (ho : h.get? a = some { cls := .type "set", dict := none, data := .set #[] 0 (.fresh 0 0 (!w.params.followText "set-order")) }) : SetG κ h a (fun j => decide (j ∈ ks.take 0)) 0 := by
  refine ⟨_, #[], 0, _, ho, ⟨rfl, rfl, rfl⟩, rfl, ⟨fun e he => by simp at he, by simp, fun k => by simp⟩, ⟨by decide, by rfl, rfl⟩, List.Pairwise.nil, ?_⟩
  show _ ∨ (!w.params.followText "set-order") = true
  cases w.params.followText "set-order"
  · exact .inr rfl
  · exact .inl rfl
theorem setG_update {I : Addr} {fp wr : List Addr} {G : Array GenState → Array GenState → Prop} {n : Nat} {Pv : Nat → Value → Prop} {St : Nat → Shared → Prop} {R : Result → Shared → Prop}
    (W : WalksS P w A.in1 I fp wr G n Pv St) (D : Addr) (hDf : D ∉ fp) (ks : List α) (hn : n = ks.length) (hb : ks.length + 1 < scanBound) (hval : ∀ i v, Pv i v → ∃ k t, ks[i]? = some k ∧ v = κ.mkv k t) :
    ∀ (m i : Nat) (s : Shared), n - i = m → i ≤ n → St i s → (∃ c, c ≤ i ∧ SetG κ s.heap D (fun j => decide (j ∈ ks.take i)) c) →
      (∀ s' c, Moved (D :: wr) G s s' → c ≤ n → SetG κ s'.heap D (fun j => decide (j ∈ ks)) c → R (.ok (.ret .none)) s') →
      codeAny (model P w) A (.builtin "set.update.loop" ⟨[.ref D, .ref I], []⟩) R s := by
  have hDw : D ∉ wr := fun h => hDf (W.sub _ h)
  have sub' : ∀ b ∈ wr, b ∈ D :: wr := fun b hb => List.mem_cons_of_mem _ hb
  intro m
  induction m with
  | zero =>
    intro i s hk' hi hst ⟨c, hc, hS⟩ hR
    have hin : i = n := by omega
    subst hin
    refine codeAny_builtin F.entry_set_update_loop ?_
    rw [Around.under_plainId F.plain_set_update_loop _]
    show wpAny _ A.in1 (pyNext (.ref I) >>= _) _ _ s
    refine wpAny_bind (W.done s _ _ hst fun s' hm => ?_)
    show wpAny _ A.in1 (ret Value.none) _ _ s'
    have e : ks.take i = ks := List.take_of_length_le (by omega)
    rw [e] at hS
    exact wpAny_pure (hR s' c (hm.mono sub') hc (hS.mono fun o e => hm.heap D o hDw e))
  | succ m ih =>
    intro i s hk' hi hst ⟨c, hc, hS⟩ hR
    have hlt : i < n := by omega
    refine codeAny_builtin F.entry_set_update_loop ?_
    rw [Around.under_plainId F.plain_set_update_loop _]
    show wpAny _ A.in1 (pyNext (.ref I) >>= _) _ _ s
    refine wpAny_bind (W.item i s _ _ hlt hst fun v s' hP hst' hm => ?_)
    obtain ⟨z, t, hz, rfl⟩ := hval i v hP
    have hS' : SetG κ s'.heap D (fun j => decide (j ∈ ks.take i)) c := hS.mono fun o e => hm.heap D o hDw e
    show wpAny _ A.in1 (holding [κ.mkv z t] (setAdd D (κ.mkv z t)) >>= _) _ _ s'
    refine wpAny_bind (wpAny_holding ?_)
    unfold setAdd
    refine wpAny_holding (wpAny_bind (κ.knd.pyHash (k := z) (κ.is_mk _ _) ?_))
    refine setG_add (s := { s' with toks := s'.toks + 1 }) hS' (by omega) fun h' hsb hS2 => ?_
    have hS3 : SetG κ h' D (fun j => decide (j ∈ ks.take (i + 1))) (if decide (z ∈ ks.take i) = true then c else c + 1) := hS2.cong fun j => by
      rw [List.take_add_one, hz]
      simp [List.mem_append]
    have hc3 : (if decide (z ∈ ks.take i) = true then c else c + 1) ≤ i + 1 := by
      split
      · omega
      · omega
    refine wpAny_pure ⟨plainId_quiet F.plain_set_update_loop _, ih (i + 1) _ (by omega) hlt (W.frame _ s' _ _ hst' (Nat.le_succ _) fun b hb o e => ?_) ⟨_, hc3, hS3⟩ fun s'' c2 hm'' hc'' hS'' => ?_⟩
    · rw [hsb.2 b (fun h : b = D => by rw [h] at hb; exact hDf hb)]; exact e
    · refine hR s'' c2 (Moved.trans W.gtrans ((hm.mono sub').then_heap (Nat.le_succ _) fun b o hb e => ?_) hm'') hc'' hS''
      rw [hsb.2 b (fun h : b = D => by rw [h] at hb; exact hb List.mem_cons_self)]; exact e
/-- values of a kind, one behind another -/
def Are (κ : Kd P w α) (us : List Value) (ks : List α) : Prop := us.length = ks.length ∧ ∀ (i : Nat) u, us[i]? = some u → ∃ k t, ks[i]? = some k ∧ u = κ.mkv k t
theorem call_setG {l : Addr} {items : Array Value} (ks : List α) {Q : Value → Shared → Prop} (hh : A.handled = none) (hl : s.heap.IsList l items) (hit : Are κ items.toList ks) (hb : ks.length + 1 < scanBound)
    (h : ∀ (h' : Heap) (tk c : Nat), SetG κ h' s.heap.objs.size (fun j => decide (j ∈ ks)) c → c ≤ ks.length → (∀ b o, s.heap.get? b = some o → h'.get? b = some o) → Q (.ref s.heap.objs.size) { s with heap := h', toks := tk }) :
    wpAny (model P w) A (call (.type "set") [.ref l]) Q E s := by
  have hsz : items.size = ks.length := by rw [← hit.1, Array.length_toList]
  obtain ⟨c, tl, hmro⟩ := PySem.F.called_set.mro
  have hmade := PySem.F.called_set.made
  have hsub := PySem.F.called_set.sub
  refine wpAny_call (codeAny_of_tree ?_)
  show wpAny _ _ (callAny (.type "set") _) _ _ _
  refine wpAny_pure ⟨Code.quiet_builtin _ (by decide +kernel), codeAny_builtin PySem.F.entry_type_call ?_⟩
  rw [Around.under_plain (weight_type_call_type "set" [.ref l] []) rfl]
  have h1 := PySem.F.called_set.notType
  have h2 := PySem.F.called_set.canCreate
  have hct := PySem.F.typeCall_set_1 (.ref l)
  repeat (any_goals (first | assumption | wp_step))
  refine codeAny_mono (code_set_led1 (.ref l) (E := E) (Q₁ := fun obj s₁ => obj = .ref s.heap.objs.size ∧ s₁ = { s with heap := s.heap.push { cls := .type "set", dict := none, data := .set #[] 0 (.fresh 0 0 (!w.params.followText "set-order")) } }) ⟨rfl, rfl⟩) fun r s₁ hr => ?_
  cases r with
  | error e => exact hr
  | ok fl =>
    cases fl with
    | ret obj =>
      obtain ⟨rfl, rfl⟩ := hr
      have hS : (s.heap.push { cls := .type "set", dict := none, data := .set #[] 0 (.fresh 0 0 (!w.params.followText "set-order")) }).get? s.heap.objs.size = some { cls := .type "set", dict := none, data := .set #[] 0 (.fresh 0 0 (!w.params.followText "set-order")) } := Heap.get?_push_size _ rfl
      have hT : Shared.TypeIs { s with heap := s.heap.push { cls := .type "set", dict := none, data := .set #[] 0 (.fresh 0 0 (!w.params.followText "set-order")) } } (.ref s.heap.objs.size) "set" := ⟨_, hS, rfl⟩
      have hli := PySem.F.called_set.init.lookup
      have hbi := PySem.F.called_set.init.bind (.ref s.heap.objs.size)
      repeat (any_goals (first | assumption | wp_step))
      refine codeAny_mono (codeAny_call_builtin (R := wants (fun r s₂ => r = .none ∧ ∃ h' tk c, s₂ = { s with heap := h', toks := tk } ∧ SetG κ h' s.heap.objs.size (fun j => decide (j ∈ ks)) c ∧ c ≤ ks.length ∧
          (∀ b o, s.heap.get? b = some o → h'.get? b = some o)) E) PySem.F.called_set.init.plain PySem.F.entry_set_init (check_set_init_1 hT ?_)) fun r₂ s₂ hr₂ => ?_
      · obtain ⟨⟨ocls, odict, odata, oslots⟩, hol, hcl, nl, hdl⟩ := hl
        simp only at hcl hdl
        subst hcl; subst hdl
        have hol' : (s.heap.push { cls := .type "set", dict := none, data := .set #[] 0 (.fresh 0 0 (!w.params.followText "set-order")) }).get? l = some { cls := .type "list", dict := odict, data := .seq items nl, slots := oslots } := Heap.get?_push_of_some _ hol
        have hsls := PySem.F.sub_list_set
        have hslf := PySem.F.sub_list_frozenset
        have hne : (Value.type "list" == Value.type "dict") = false := by decide
        have hl1 : (s.heap.push { cls := .type "set", dict := none, data := .set #[] 0 (.fresh 0 0 (!w.params.followText "set-order")) }).IsList l items := ⟨_, hol', rfl, nl, rfl⟩
        unfold Builtin.«set.__init__» noKeywords Builtin.Frozenset.updateFrom
        generalize hPI : pyIter = PI
        wp_walk
        subst hPI
        refine wpAny_pyIter_list hl1 ?gIt
        refine wpAny_bind (wpAny_runValue ?gRv)
        have hlS : l < s.heap.objs.size := Heap.lt_size hol
        have hh3 : A.in1.in1.in1.handled = none := by simp [hh]
        have hz1 : (s.heap.push { cls := .type "set", dict := none, data := .set #[] 0 (.fresh 0 0 (!w.params.followText "set-order")) }).objs.size = s.heap.objs.size + 1 := Heap.size_push ..
        have hneI : l ≠ (s.heap.push { cls := .type "set", dict := none, data := .set #[] 0 (.fresh 0 0 (!w.params.followText "set-order")) }).objs.size := by
          rw [hz1]; exact Nat.ne_of_lt (Nat.lt_succ_of_lt hlS)
        have hSf : s.heap.objs.size ∉ [(s.heap.push { cls := .type "set", dict := none, data := .set #[] 0 (.fresh 0 0 (!w.params.followText "set-order")) }).objs.size, l] := by
          rw [hz1]; simp only [List.mem_cons, List.mem_singleton, List.not_mem_nil, or_false, not_or]
          exact ⟨Nat.ne_of_lt (Nat.lt_succ_self _), Nat.ne_of_gt hlS⟩
        have hval : ∀ (i : Nat) (v : Value), items[i]? = some v → ∃ k t, ks[i]? = some k ∧ v = κ.mkv k t := fun i v hv => hit.2 i v (by rw [Array.getElem?_toList]; exact hv)
        refine setG_update ((Walks.list hh3 _ l hneI items).toS) s.heap.objs.size hSf ks hsz hb hval (items.size - 0) 0 _ (by omega) (Nat.zero_le _)
          ⟨⟨_, Heap.get?_push_size _ rfl, rfl, rfl⟩, (hl1.push _)⟩ ?hS0 ?hR
        case hS0 =>
          refine ⟨0, Nat.le_refl 0, setG_new (Heap.get?_push_of_some _ hS)⟩
        case hR =>
          intro s' c' hm hc' hS'
          obtain ⟨h', g2, d', tk', os'⟩ := s'
          have eg : g2 = s.gens := hm.gens
          have ed : d' = s.drawn := hm.drawn
          have eo : os' = s.os := hm.os
          subst eg; subst ed; subst eo
          show wpAny _ _ _ _ _ _
          refine wpAny_pure ?_
          show wpAny _ _ (ret Value.none) _ _ _
          rw [hsz] at hc'
          refine wpAny_pure ⟨rfl, h', tk', c', rfl, hS', hc', fun b o e => ?_⟩
          have hb0 : b < s.heap.objs.size := Heap.lt_size e
          have hb2 : b ≠ (s.heap.push { cls := .type "set", dict := none, data := .set #[] 0 (.fresh 0 0 (!w.params.followText "set-order")) }).objs.size := by
            rw [hz1]; exact Nat.ne_of_lt (Nat.lt_succ_of_lt hb0)
          exact hm.heap b o (by simp only [List.mem_cons, List.mem_singleton, List.not_mem_nil, or_false, not_or]; exact ⟨Nat.ne_of_lt hb0, hb2⟩) (Heap.get?_push_of_some _ (Heap.get?_push_of_some _ e))
      · cases r₂ with
        | error e => exact hr₂
        | ok fl₂ =>
          cases fl₂ with
          | ret r =>
            obtain ⟨rfl, h', tk, c', rfl, hS', hc', hk'⟩ := hr₂
            repeat (any_goals (first | assumption | wp_step))
            exact h _ _ _ hS' hc' hk'
          | _ => exact hr₂.elim
    | _ => exact hr.elim
end
end Nf
set_option maxHeartbeats 4000000
namespace Nf
open PySem PySem.Spec L2
open PyProof.Rows
section
variable {P : Program} {w : World} {α : Type} [DecidableEq α] {κ : Kd P w α} {A : Around} {E : Value → Shared → Prop} {s : Shared}
theorem each_ko : ∀ {vs : List Value}, (∀ v ∈ vs, ∃ k t, v = κ.mkv k t) → PySem.W.EachIs (fun u k => ∃ t, u = κ.mkv k t) vs (vs.map κ.ko)
  | [], _ => .nil
  | v :: vs, h => by
    obtain ⟨k, t, e⟩ := h v List.mem_cons_self
    refine .cons ⟨t, ?_⟩ (each_ko fun u hu => h u (List.mem_cons_of_mem _ hu))
    rw [e, κ.ko_mk]
/-- rising, each once -/
def RisG (κ : Kd P w α) (ks : List α) : Prop := ks.Pairwise fun a b => PySem.W.dataLe false κ.enc a b = true ∧ a ≠ b
theorem risG_of {ks : List α} (h : ks.Nodup) (h2 : ks.Pairwise fun a b => PySem.W.dataLe false κ.enc a b = true) : RisG κ ks := by
  unfold RisG
  exact h2.and h
theorem sortedG {S : α → Bool} {n : Nat} {a : Addr} {Q : Value → Shared → Prop} (R : SetG κ s.heap a S n) (hh : A.handled = none) (hu : A.units + 64 < cLine)
    (hQ : ∀ s' p (out : List Value) (c : Nat) (ks : List α), (∀ b o, s.heap.get? b = some o → s'.heap.get? b = some o) → s'.gens = s.gens → s'.os = s.os → s.heap.objs.size ≤ p →
      s'.heap.get? p = some (seqObj "list" out.toArray c) → PySem.W.EachIs (fun u k => ∃ t, u = κ.mkv k t) out ks → RisG κ ks → (∀ k, k ∈ ks ↔ S k = true) → ks.length ≤ sizeLine → Q (.ref p) s') :
    wpAny (model P w) A (call (.builtin "sorted") [.ref a]) Q E s := by
  obtain ⟨o, es, ep, t, ho, hex, hd, ⟨g, nd, hm⟩, ⟨hb, hf, hn⟩, hr, hl⟩ := R
  refine Calls.call_function_entry kind_sorted plain_sorted entry_sorted (args_sorted1 _) ?_
  unfold Builtin.«sorted»
  refine wpAny_bind (m := checkCount "sorted" 1 1 _) (wpAny_pure ?_)
  refine wpAny_bind (collect_set (A := A.in1) hh ⟨o, ho, hex.1, hd⟩ hf hb hr hl fun s1 vs k1 hz g1 o1 pm => ?_)
  have hvl : vs.length ≤ sizeLine := by
    rw [pm.length_eq, List.length_map, Array.length_toList]
    exact fits_of_scanBound hb
  have hmk : ∀ v ∈ vs, ∃ k t, v = κ.mkv k t := fun v hv => by
    obtain ⟨e, he, q⟩ := List.mem_map.mp (pm.mem_iff.mp hv)
    obtain ⟨k, tk, h1, _⟩ := g e he
    exact ⟨k, tk, by rw [← q]; exact h1⟩
  have pk : (vs.map κ.ko).Perm (es.toList.map fun e => κ.ko e.2) := by
    have q := pm.map κ.ko
    rw [List.map_map] at q
    exact q
  refine wpAny_bind (wpAny_newList ?_ hvl)
  have hoL : (s1.heap.push (seqObj "list" vs.toArray 0)).get? s1.heap.objs.size = some (seqObj "list" vs.toArray 0) := Heap.get?_push_size _ rfl
  refine wpAny_bind (wpAny_holding (PySem.W.list_sort_data (bs := vs.map κ.ko) (enc := κ.enc) hoL (each_ko hmk) ((each_ko hmk).mono fun v k ⟨t, e⟩ => ⟨[], by rw [e]; exact κ.rds _ _ _, List.not_mem_nil⟩) (PySem.W.AllAlike.of κ.alk) (PySem.W.Sortable.others κ.oth)
    (by rw [List.length_map]; exact hvl) (fun b _ => by rw [κ.dep]; show A.units + _ + _ < _; omega) fun out hout eo => ?_))
  obtain ⟨c, hc⟩ := sortedHeap_at (vs := vs) (out := out.toArray) hoL
  have pn : ((vs.map κ.ko).mergeSort (PySem.W.dataLe false κ.enc)).Perm (es.toList.map fun e => κ.ko e.2) := (List.mergeSort_perm _ _).trans pk
  refine wpAny_pure ⟨_, rfl, hQ _ s1.heap.objs.size out c _ (fun b u e => ?_) g1 o1 hz hc eo (risG_of (pn.nodup_iff.mpr nd) (PySem.W.sort_pairwise (PySem.W.sortLe_total _ false _) _)) (fun k => by rw [pn.mem_iff, ← hm k]) ?_⟩
  · have q := k1 b u e
    have hlt := Heap.lt_size q
    show (sortedHeap (s1.heap.push (seqObj "list" vs.toArray 0)) s1.heap.objs.size vs out.toArray).get? b = some u
    rw [sortedHeap_old (Nat.ne_of_lt hlt) (by rw [size_push']; exact Nat.lt_succ_of_lt hlt)]
    exact Heap.get?_push_of_some _ q
  · rw [List.length_mergeSort, List.length_map]; exact hvl
/-! ### over the layer -/
def SetOG (κ : Kd P w α) (a : Addr) (S : α → Bool) (n : Nat) : HO := .ext fun h => SetG κ h a S n
theorem setOG_new {H : Hp} {h : Heap} {a : Addr} {S : α → Bool} {n : Nat} (R : SetG κ h a S n) : ObjOk P w H h a (SetOG κ a S n) := by
  have ⟨o, _, _, _, ho, _⟩ := R
  exact ⟨R, ⟨o, ho⟩, fun h1 h2 p k => SetG.mono p k⟩
end
section
variable {X : Cx} {α : Type} [DecidableEq α]
def rSetG (K : PySem.W.Frag) {P : Program} {w : World} (κ : Kd P w α) : List V → Hp → VK → Prop := fun vs H Q => ∃ (l : Addr) (ks : List α), vs = [V.ref l] ∧ SqL K H l (ks.map κ.v) ∧ ks.length + 1 < scanBound ∧
  ∀ p c, H p = none → Q (.ref p) (upd H p (SetOG κ p (fun j => decide (j ∈ ks)) c))
theorem are_of {P : Program} {w : World} {κ : Kd P w α} {ks : List α} {us : List Value} (h : Vals (ks.map κ.v) us) : Are κ us ks := by
  have hl := h.length
  rw [List.length_map] at hl
  refine ⟨hl.symm, fun i u hu => ?_⟩
  have hi : i < ks.length := by rw [hl]; exact (List.getElem?_eq_some_iff.mp hu).1
  obtain ⟨u', h1, h2⟩ := h.get (i := i) (x := κ.v ks[i]) (by simp [hi])
  rw [hu] at h1; cases h1
  obtain ⟨t, e⟩ := (κ.rel _ _).mp h2
  exact ⟨ks[i], t, by simp [hi], e⟩
theorem cr_setG (hc : X.calm = true) (κ : Kd X.prog X.w α) : CallR X (.type "set") (rSetG X.K κ) := by
  intro pins s σ H vs us Q I r h
  obtain ⟨l, ks, rfl, hs, hb, q⟩ := h
  obtain ⟨its, rv, hl, hz⟩ := I.list hs
  rw [Vals.ref1 r]
  refine call_setG (κ := κ) ks (I.ok.hd hc) hl.isList (by simpa using are_of rv) hb fun h' tk c hS hc' hk => ?_
  exact ⟨.ref _, upd H s.heap.objs.size (SetOG κ s.heap.objs.size (fun j => decide (j ∈ ks)) c), I.laid (t' := tk) hk (Nat.le_refl _) (setOG_new hS), rfl, q _ c (I.hok.fresh (Nat.le_refl _))⟩
def rSortedG {P : Program} {w : World} (κ : Kd P w α) : List V → Hp → VK → Prop := fun vs H Q => ∃ (a : Addr) (S : α → Bool) (n : Nat), vs = [V.ref a] ∧ H a = some (SetOG κ a S n) ∧
  ∀ (ks : List α) (p : Addr), RisG κ ks → (∀ k, k ∈ ks ↔ S k = true) → H p = none → Q (.ref p) (upd H p (.lst (ks.map κ.v)))
theorem cr_sortedG (hc : X.calm = true) (hu : X.A.units + 64 < cLine) (κ : Kd X.prog X.w α) : CallR X (.builtin "sorted") (rSortedG κ) := by
  intro pins s σ H vs us Q I r h
  obtain ⟨a, S, n, rfl, ha, q⟩ := h
  have R : SetG κ s.heap a S n := (I.hok a _ ha).1
  rw [Vals.ref1 r]
  refine sortedG R (I.ok.hd hc) hu fun s' p out c ks k g o hp hg hi hs hm hl => ?_
  have hlen : (ks.map κ.v).length ≤ sizeLine := by rw [List.length_map]; exact hl
  have hn : H p = none := I.hok.fresh hp
  have J : Inv X pins σ (upd H p (.lst (ks.map κ.v))) { s with heap := s'.heap, gens := s'.gens, drawn := s'.drawn, toks := s'.toks } :=
    I.call (ch := []) (Un.laid k hp hn) (I.hok.laid k hp ⟨hlen, out, c, vals_each (hi.mono fun u k h => (κ.rel _ _).mpr h), hg⟩) (by rw [g]; exact I.bare) (fun _ z => nomatch z)
  have e : s' = { s with heap := s'.heap, gens := s'.gens, drawn := s'.drawn, toks := s'.toks } := by
    obtain ⟨x1, x2, x3, x4, x5⟩ := s'
    obtain ⟨y1, y2, y3, y4, y5⟩ := s
    have : x5 = y5 := o
    subst this
    rfl
  rw [e]
  exact ⟨.ref p, _, J, rfl, q ks p hs hm hn⟩
/-- texts -/
def kdS (P : Program) (w : World) : Kd P w Str where
  knd := PySem.strKind P w
  mkv := Value.str
  ko := fun v => match v with | .str k _ => k | _ => Str.empty
  v := V.str
  enc := PyData.str
  ko_mk := fun _ _ => rfl
  is_mk := fun k t => strKind_is _ _ _ _
  sc := fun _ _ => rfl
  rel := fun _ _ => Iff.rfl
  rds := fun _ _ _ => .str _ _
  alk := fun _ _ => by simp [PySem.W.alike]
  oth := fun _ => ⟨fun z => (by cases z), fun _ z => (by cases z)⟩
  dep := fun _ => by simp [PyData.depth]
/-- ints -/
def kdI (P : Program) (w : World) : Kd P w Int where
  knd := PySem.intKind P w
  mkv := Value.int
  ko := fun v => match v with | .int k _ => k | _ => 0
  v := V.int
  enc := PyData.int
  ko_mk := fun _ _ => rfl
  is_mk := fun k t => intKind_is _ _ _ _
  sc := fun _ _ => rfl
  rel := fun _ _ => Iff.rfl
  rds := fun _ _ _ => .int _ _
  alk := fun _ _ => by simp [PySem.W.alike]
  oth := fun _ => ⟨fun z => (by cases z), fun _ z => (by cases z)⟩
  dep := fun _ => by simp [PyData.depth]
theorem risS {P : Program} {w : World} {ks : List Str} (h : RisG (kdS P w) ks) : ks.Pairwise fun a b => a.cps.toList < b.cps.toList := by
  refine List.Pairwise.imp ?_ h
  intro a b ⟨h1, h2⟩
  have e : PySem.W.dataLe false (kdS P w).enc a b = decide (a.cps.toList ≤ b.cps.toList) := congrFun (congrFun (PySem.W.dataLe_str (fun s : Str => s)) a) b
  rw [e] at h1
  have h3 := of_decide_eq_true h1
  by_cases z : a.cps.toList < b.cps.toList
  · exact z
  · exact (h2 (Str.ext' (Array.toList_inj.mp (List.le_antisymm h3 (List.not_lt.mp z))))).elim
theorem risI {P : Program} {w : World} {ks : List Int} (h : RisG (kdI P w) ks) : ks.Pairwise (· < ·) := by
  refine List.Pairwise.imp ?_ h
  intro a b ⟨h1, h2⟩
  have e : PySem.W.dataLe false (kdI P w).enc a b = decide (a ≤ b) := congrFun (congrFun (PySem.W.dataLe_int (fun s : Int => s)) a) b
  rw [e] at h1
  have h3 := of_decide_eq_true h1
  omega
/-- sorted(set(x)) -/
def vSset (K : PySem.W.Frag) (P : Program) (w : World) (x : V) (H : Hp) (Q : VK) : Prop :=
  rSetG K (kdS P w) [x] H (fun y H2 => rSortedG (kdS P w) [y] H2 Q ∨ rSortedG (kdI P w) [y] H2 Q) ∨ rSetG K (kdI P w) [x] H (fun y H2 => rSortedG (kdS P w) [y] H2 Q ∨ rSortedG (kdI P w) [y] H2 Q)
theorem callR_or {f : Value} {r r' : List V → Hp → VK → Prop} (h : CallR X f r) (h' : CallR X f r') : CallR X f (fun vs H Q => r vs H Q ∨ r' vs H Q) := by
  intro pins s σ H vs us Q I rv q
  rcases q with q | q
  · exact h pins s σ H vs us Q I rv q
  · exact h' pins s σ H vs us Q I rv q
theorem pe_sset {e : Expr} {t : TE} {p1 p2 pos1 pos2 : Pos} (hc : X.calm = true) (hu : X.A.units + 64 < cLine) (hg1 : Gl X (Str.ofString "sorted")) (hm1 : X.mg (Str.ofString "sorted") = none) (hg2 : Gl X (Str.ofString "set")) (hm2 : X.mg (Str.ofString "set") = none)
    (he : PE X e t) (hn : notStar e = true) : PE X (.Call (.Name (Str.ofString "sorted") p1) [.Call (.Name (Str.ofString "set") p2) [e] [] pos2] [] pos1) (fun σ H Q => t σ H fun x H1 => vSset X.K X.prog X.w x H1 Q) := by
  refine PE.imp (pe_callB (callR_or (cr_sortedG hc hu (kdS X.prog X.w)) (cr_sortedG hc hu (kdI X.prog X.w))) hg1 hm1 PyProof.Rows.boot_sorted
    (pa_cons (pe_callTy (callR_or (cr_setG hc (kdS X.prog X.w)) (cr_setG hc (kdI X.prog X.w))) hg2 hm2 PyProof.Rows.boot_set (pa_cons he pa_nil (star_cons _ hn)) (by decide) (by decide +kernel) (star_cons _ hn) (by rfl)) pa_nil) (by decide) (by decide +kernel) (star_cons _ rfl) (by rfl)) fun σ H Q hw => hw
theorem sset_s {K : PySem.W.Frag} {P : Program} {w : World} {l : Addr} {ss : List Str} {H : Hp} {Q : VK} (h : SqL K H l (ss.map V.str)) (hb : ss.length + 1 < scanBound)
    (k : ∀ p o ys q, H p = none → upd H p o q = none → List.Pairwise (fun a b : Str => a.cps.toList < b.cps.toList) ys → (∀ k, k ∈ ys ↔ k ∈ ss) → Q (.ref q) (upd (upd H p o) q (.lst (ys.map V.str)))) : vSset K P w (.ref l) H Q :=
  .inl ⟨l, ss, rfl, h, hb, fun p c hp => .inl ⟨p, _, c, rfl, upd_same, fun ks q hk hm hq => k p _ ks q hp hq (risS hk) fun z => (hm z).trans (by simp)⟩⟩
theorem sset_i {K : PySem.W.Frag} {P : Program} {w : World} {l : Addr} {ss : List Int} {H : Hp} {Q : VK} (h : SqL K H l (ss.map V.int)) (hb : ss.length + 1 < scanBound)
    (k : ∀ p o ys q, H p = none → upd H p o q = none → List.Pairwise (· < ·) ys → (∀ k : Int, k ∈ ys ↔ k ∈ ss) → Q (.ref q) (upd (upd H p o) q (.lst (ys.map V.int)))) : vSset K P w (.ref l) H Q :=
  .inr ⟨l, ss, rfl, h, hb, fun p c hp => .inr ⟨p, _, c, rfl, upd_same, fun ks q hk hm hq => k p _ ks q hp hq (risI hk) fun z => (hm z).trans (by simp)⟩⟩
end
end Nf
/-! xs[-1:-3:-1] of a list -/
namespace Nf
open PySem PySem.Spec L2
theorem rev2_bounds (n : Nat) : sliceBounds (some (-1)) (some (-3)) (some (-1)) n = ((n : Int) - 1, max (-1) ((n : Int) - 3), -1) := by
  have h1 : ¬ ((-1 : Int) > 0) := by decide
  show ((if (-1 : Int) > 0 then max 0 (min (if (-1 : Int) < 0 then -1 + (n : Int) else -1) n) else max (-1) (min (if (-1 : Int) < 0 then -1 + (n : Int) else -1) ((n : Int) - 1))), (if (-1 : Int) > 0 then max 0 (min (if (-3 : Int) < 0 then -3 + (n : Int) else -3) n) else max (-1) (min (if (-3 : Int) < 0 then -3 + (n : Int) else -3) ((n : Int) - 1))), (-1 : Int)) = _
  rw [if_neg h1, if_neg h1, if_pos (by decide), if_pos (by decide)]
  simp only [Prod.mk.injEq, and_true]
  constructor <;> omega
theorem rev2_pick (l : List Value) : slicePick l.toArray (some (-1)) (some (-3)) (some (-1)) = (l.reverse.take 2).toArray := by
  unfold slicePick
  rw [rev2_bounds]
  show ((sliceRange ((l.toArray.size : Int) - 1) (max (-1) ((l.toArray.size : Int) - 3)) (-1)).filterMap (l.toArray[·]?)).toArray = _
  congr 1
  obtain ⟨r, rfl⟩ : ∃ r, l = r.reverse := ⟨l.reverse, by simp⟩
  rw [List.reverse_reverse]
  have h1 : ¬ ((-1 : Int) > 0) := by decide
  cases r with
  | nil => rfl
  | cons a r =>
    cases r with
    | nil =>
      have e : sliceRange (((1 : Nat) : Int) - 1) (max (-1) (((1 : Nat) : Int) - 3)) (-1) = [0] := by decide
      show List.filterMap _ (sliceRange (((1 : Nat) : Int) - 1) (max (-1) (((1 : Nat) : Int) - 3)) (-1)) = _
      rw [e]
      rfl
    | cons b r =>
      have hs : (((a :: b :: r).reverse.toArray.size : Nat) : Int) = (r.length : Int) + 2 := by simp
      unfold sliceRange
      rw [hs, if_neg h1]
      have hm : max (-1) ((r.length : Int) + 2 - 3) = (r.length : Int) - 1 := by omega
      rw [hm, if_pos (by omega)]
      have hc : ((r.length : Int) + 2 - 1 - ((r.length : Int) - 1) - -1 - 1) / (- -1) = 2 := by
        have : (r.length : Int) + 2 - 1 - ((r.length : Int) - 1) - -1 - 1 = 2 := by omega
        rw [this]; decide
      rw [hc]
      show List.filterMap _ (List.map (fun k : Nat => ((r.length : Int) + 2 - 1 + -1 * ((k : Nat) : Int)).toNat) (List.range (Int.toNat 2))) = _
      have hr : List.range (Int.toNat 2) = [0, 1] := rfl
      rw [hr]
      have e0 : ((r.length : Int) + 2 - 1 + -1 * ((0 : Nat) : Int)).toNat = r.length + 1 := by omega
      have e1 : ((r.length : Int) + 2 - 1 + -1 * ((1 : Nat) : Int)).toNat = r.length := by omega
      rw [List.map_cons, List.map_cons, List.map_nil, e0, e1]
      have g0 : ((a :: b :: r).reverse.toArray)[r.length + 1]? = some a := by
        rw [List.getElem?_toArray, List.getElem?_reverse (by simp)]; simp
      have g1 : ((a :: b :: r).reverse.toArray)[r.length]? = some b := by
        rw [List.getElem?_toArray, List.getElem?_reverse (by simp; omega)]
        have : (a :: b :: r).length - 1 - r.length = 1 := by simp
        rw [this]; rfl
      rw [List.filterMap_cons, g0, List.filterMap_cons, g1]
      rfl
section
variable {X : Cx}
theorem po_neg {i : Int} {e : Expr} (h : negE i e = true) : PO X (some e) (tPart (tUn (rU fun i => .int (-i)) (tC (.int i)))) := by
  unfold negE at h
  split at h
  · cases of_decide_eq_true h
    exact po_some (pe_un un_neg pe_int)
  · cases h
def vRev2 (PK : PySem.W.Frag) : V → Hp → VK → Prop := fun x H Q => ∃ a xs, x = .ref a ∧ SqL PK H a xs ∧ ∀ p, H p = none → Q (.ref p) (upd H p (.lst (xs.reverse.take 2)))
theorem pe_rev2 {e a b c : Expr} {te : TE} {p3 pos : Pos} (ha : negE 1 a = true) (hb : negE 3 b = true) (hc : negE 1 c = true) (he : PE X e te) : PE X (.Subscript e (.Slice (some a) (some b) (some c) p3) pos) (fun σ H Q => te σ H fun x H1 => vRev2 X.K x H1 Q) := by
  refine ⟨fun pins s σ H Q I hw => ?_⟩
  refine PyProof.Rows.Subscript_ (thn (he.run pins s σ H _ I hw) fun v s1 ⟨x, H1, I1, r1, q1⟩ => ?_)
  obtain ⟨l, xs, rfl, hx, q⟩ := q1
  cases r1
  refine wpAny_Slice (thn ((po_neg ha).run pins s1 σ H1 (fun o H2 => o = some (-1) ∧ H2 = H1) I1 ⟨1, rfl, -1, rfl, rfl, rfl⟩) fun u1 s2 ⟨o1, H2, I2, p1, e1, e2⟩ => ?_)
  subst e1 e2
  refine thn ((po_neg hb).run pins s2 σ H2 (fun o H3 => o = some (-3) ∧ H3 = H2) I2 ⟨3, rfl, -3, rfl, rfl, rfl⟩) fun u2 s3 ⟨o2, H3, I3, p2, e1, e2⟩ => ?_
  subst e1 e2
  refine thn ((po_neg hc).run pins s3 σ H3 (fun o H4 => o = some (-1) ∧ H4 = H3) I3 ⟨1, rfl, -1, rfl, rfl, rfl⟩) fun u3 s4 ⟨o3, H4, I4, p4, e1, e2⟩ => ?_
  subst e1 e2
  have I5 : Inv X pins σ H4 { s4 with heap := s4.heap.push { cls := .type "slice", data := .fields #[u1, u2, u3] } } := I4.kept (t' := s4.toks) fun b' ob q' => Heap.get?_push_of_some _ q'
  obtain ⟨its, rv, pl, hz⟩ := I5.list hx
  have hl := rv.length
  show wpAny (model X.prog X.w) X.A (PyProof.Rows.subscriptTail e (.Slice (some a) (some b) (some c) p3) (.ref l) (.ref s4.heap.objs.size)) (EP X pins σ Q) X.xe { s4 with heap := s4.heap.push { cls := .type "slice", data := .fields #[u1, u2, u3] } }
  refine PyProof.Rows.tail_any (ops := [.ref l, .ref s4.heap.objs.size]) pl.isList.typeIs (PySem.slot_list_getitem.lookup) ?_ (by with_unfolding_all rfl)
  refine wpAny_getItem_list_slice pl.isList (Heap.IsSliceOf.new _ u1 u2 u3) p1 p2 p4 (by decide) ?_ (by rw [List.size_toArray]; omega)
  rw [rev2_pick]
  have hv : Vals (xs.reverse.take 2) (its.reverse.take 2) := (rv.reverse).take 2
  refine ⟨.ref _, _, I5.laid (t' := s4.toks) (o := .lst (xs.reverse.take 2)) (fun b' ob q' => Heap.get?_push_of_some _ q') (Nat.le_refl _) ⟨?_, _, 0, hv, Heap.get?_push_size _ rfl⟩, rfl, q _ (I5.hok.fresh (Nat.le_refl _))⟩
  rw [List.length_take]
  show min 2 _ ≤ sizeLine
  rw [sizeLine_eq]; omega
end
end Nf
/-! operators and builtins: the rule over values holds of the text, and follows from what is told over data -/
namespace Nf
open PySem PySem.Spec L2

def vr (K : PySem.W.Frag) (P : Program) (w : World) (o : Op) (vs : List V) (H : Hp) (Q : VK) : Prop := match o with
  | .add => match vs with | [x, y] => vAdd K x y H Q | _ => False
  | .sub => match vs with | [x, y] => rI0 (fun i j => .int (i - j)) x y H Q | _ => False
  | .mul => match vs with | [x, y] => vMul x y H Q | _ => False
  | .fdiv => match vs with | [x, y] => rI CDivW (fun i j => .int (i / j)) x y H Q | _ => False
  | .mod => match vs with | [x, y] => rI (fun _ j => 0 < j) (fun i j => .int (i % j)) x y H Q | _ => False
  | .pow => match vs with | [x, y] => rI CPow (fun i j => .int (i ^ j.toNat)) x y H Q | _ => False
  | .shl => match vs with | [x, y] => rI CPow (fun i j => .int (i * 2 ^ j.toNat)) x y H Q | _ => False
  | .shr => match vs with | [x, y] => rI (fun _ j => 0 ≤ j) (fun i j => .int (i / 2 ^ j.toNat)) x y H Q | _ => False
  | .band => match vs with | [x, y] => rI0 (fun i j => .int (Builtin.bitAnd i j)) x y H Q | _ => False
  | .bor => match vs with | [x, y] => rI0 (fun i j => .int (Builtin.bitOr i j)) x y H Q | _ => False
  | .neg => match vs with | [x] => rU (fun i => .int (-i)) x H Q | _ => False
  | .eq => match vs with | [x, y] => rEqD K x y H Q | _ => False
  | .ne => match vs with | [x, y] => rNeD K x y H Q | _ => False
  | .lt => match vs with | [x, y] => vLt x y H Q | _ => False
  | .le => match vs with | [x, y] => vLe x y H Q | _ => False
  | .gt => match vs with | [x, y] => vGt x y H Q | _ => False
  | .ge => match vs with | [x, y] => vGe x y H Q | _ => False
  | .inn => match vs with | [x, y] => vInn K false x y H Q | _ => False
  | .notin => match vs with | [x, y] => vInn K true x y H Q | _ => False
  | .is => match vs with | [x, y] => vIs x y H Q | _ => False
  | .isnot => match vs with | [x, y] => vIsNot x y H Q | _ => False
  | .idx => match vs with | [x, y] => vIdx K x y H Q | _ => False
  | .sl00 => match vs with | [x] => vSl K x none none H Q | _ => False
  | .sl10 => match vs with | [x, y] => ∃ i, y = .int i ∧ vSl K x (some i) none H Q | _ => False
  | .sl01 => match vs with | [x, y] => ∃ i, y = .int i ∧ vSl K x none (some i) H Q | _ => False
  | .sl11 => match vs with | [x, y, z] => ∃ i, y = .int i ∧ ∃ j, z = .int j ∧ vSl K x (some i) (some j) H Q | _ => False
  | .rev2 => match vs with | [x] => vRev2 K x H Q | _ => False
  | .len => vLen K vs H Q
  | .min1 => rMin K vs H Q
  | .min2 => ∃ i j, vs = [.int i, .int j] ∧ Q (.int (if j < i then j else i)) H
  | .max2 => ∃ i j, vs = [.int i, .int j] ∧ Q (.int (if j > i then j else i)) H
  | .sum1 => rSum K vs H Q
  | .abs1 => ∃ i, vs = [.int i] ∧ Q (.int (if i < 0 then -i else i)) H
  | .int1 => (∃ i, vs = [.int i] ∧ Q (.int i) H) ∨ ∃ k, vs = [.bl k] ∧ Q (.int (if k then 1 else 0)) H
  | .list1 => vList K vs H Q
  | .tuple1 => ∃ p ys, vs = [.ref p] ∧ ((SqL K H p ys ∧ ∀ l, H l = none → Q (.ref l) (upd H l (.tup ys))) ∨ (SqT K H p ys ∧ Q (.ref p) H))
  | .isi t => match vs with | [x] => rIsi K [x, .ty (tyName t)] H Q | _ => False
  | .tuprev => match vs with | [x] => ∃ (a : Addr) (xs : List V), x = .ref a ∧ SqL K H a xs ∧ ∀ q, H q = none → Q (.ref q) (upd H q (.tup xs.reverse)) | _ => False
  | .lstrev => match vs with | [x] => ∃ (a : Addr) (xs : List V), x = .ref a ∧ SqL K H a xs ∧ ∀ q, H q = none → Q (.ref q) (upd H q (.lst xs.reverse)) | _ => False
  | .sset => match vs with | [x] => vSset K P w x H Q | _ => False
  | .sorted1 => vSorted K vs H Q
  | .min3 => rNuC3 nuMin3 vs H Q
  | .lrange => match vs with | [x] => ∃ n, x = .int n ∧ RgOk 0 n ∧ ∀ q, H q = none → Q (.ref q) (upd H q (.lst (rgV 0 n))) | _ => False
  | _ => False

section
variable {B : Base} {N : List Str} {sc : Scope} {X : Cx}
theorem pe_bin {op : Operator} {r : R2} {e : Expr} {es : List Expr} {ts : List TE} {v : List V → Hp → VK → Prop} (ho : OpR X (binaryOp op) r) (h : binArgs op e = some es) (hs : PEs X es ts) (hv : ∀ x y H Q, v [x, y] H Q → r x y H Q) : PE X e (nest ts v) := by
  obtain ⟨a, b, pos, rfl, rfl⟩ := binArgs_some h
  obtain ⟨t, u, rfl, h1, h2⟩ := hs.two
  have ho' : OpR X (binaryOp op) (fun x y H Q => v [x, y] H Q) := fun pins s σ H x y w u Q I rx ry q => ho pins s σ H x y w u Q I rx ry (hv _ _ _ _ q)
  exact pe_op ho' h1 h2
theorem pe_cmpO {op : CmpOp} {r : R2} {e : Expr} {es : List Expr} {ts : List TE} {v : List V → Hp → VK → Prop} (ho : OpR X (compareOp op) r) (h : cmpArgs op e = some es) (hs : PEs X es ts) (hv : ∀ x y H Q, v [x, y] H Q → r x y H Q) : PE X e (nest ts v) := by
  obtain ⟨a, b, pos, rfl, rfl, hb⟩ := cmpArgs_some h
  obtain ⟨t, u, rfl, h1, h2⟩ := hs.two
  have ho' : OpR X (compareOp op) (fun x y H Q => v [x, y] H Q) := fun pins s σ H x y w u Q I rx ry q => ho pins s σ H x y w u Q I rx ry (hv _ _ _ _ q)
  exact pe_cmpR ho' h1 h2 (noMark hb)
theorem pe_bfun {f id : String} {n : Nat} {e : Expr} {es : List Expr} {ts : List TE} {v : List V → Hp → VK → Prop} (g : GX B N sc X) (hc : CallR X (.builtin id) v) (hf : f ∈ bnames) (hv : bootBuiltins (Str.ofString f) = some (.builtin id)) (hn : Str.ofString f ≠ "__name__") (hd : (Str.ofString f == ("__debug__" : Str)) = false)
    (h : callArgs sc f (n + 1) e = some es) (hs : PEs X es ts) : PE X e (nest ts v) := by
  obtain ⟨p, pos, rfl, h1, h2, h3⟩ := callArgs_some h
  cases es with
  | nil => cases h3
  | cons a es =>
    have h2' := h2
    unfold noStars at h2'
    rw [Bool.and_eq_true] at h2'
    refine PE.imp (pe_callB hc (g.gl h1) (g.blt f hf) hv (pa_all hs h2) hn hd (star_cons _ h2'.1) (star_any _ _ h2'.2)) fun σ H Q hw => ?_
    rw [nest_eq] at hw
    exact hw
theorem pe_bty {f T : String} {n : Nat} {e : Expr} {es : List Expr} {ts : List TE} {v : List V → Hp → VK → Prop} (g : GX B N sc X) (hc : CallR X (.type T) v) (hf : f ∈ bnames) (hv : bootBuiltins (Str.ofString f) = some (.type T)) (hn : Str.ofString f ≠ "__name__") (hd : (Str.ofString f == ("__debug__" : Str)) = false)
    (h : callArgs sc f (n + 1) e = some es) (hs : PEs X es ts) : PE X e (nest ts v) := by
  obtain ⟨p, pos, rfl, h1, h2, h3⟩ := callArgs_some h
  cases es with
  | nil => cases h3
  | cons a es =>
    have h2' := h2
    unfold noStars at h2'
    rw [Bool.and_eq_true] at h2'
    refine PE.imp (pe_callTy hc (g.gl h1) (g.blt f hf) hv (pa_all hs h2) hn hd (star_cons _ h2'.1) (star_any _ _ h2'.2)) fun σ H Q hw => ?_
    rw [nest_eq] at hw
    exact hw
theorem boot_ty (t : Ty) : bootBuiltins (Str.ofString (tyName t)) = some (.type (tyName t)) := by
  cases t
  · exact PyProof.Rows.boot_int
  · exact PyProof.Rows.boot_bool
  · exact PyProof.Rows.boot_str
  · exact PyProof.Rows.boot_tuple
  · exact PyProof.Rows.boot_list
  · exact PyProof.Rows.boot_dict
theorem ty_mem (t : Ty) : tyName t ∈ bnames := by cases t <;> decide
theorem pe_ity {t : Ty} {e : Expr} {es : List Expr} {ts : List TE} (g : GX B N sc X) (h : isiArgs sc t e = some es) (hs : PEs X es ts) : PE X e (nest ts (vr X.K X.prog X.w (.isi t))) := by
  unfold isiArgs at h
  split at h
  · split at h
    · rename_i x p a y p2 pos e2
      cases h
      obtain ⟨rfl, h1, h2, rfl, h3⟩ := e2
      obtain ⟨tt, rfl, h4⟩ := hs.one
      have hT : PE X (.Name (Str.ofString (tyName t)) p2) (tC (.ty (tyName t))) := pe_bltn (g.gl h3) (g.blt _ (ty_mem t)) (boot_ty t) rfl (by cases t <;> decide) (by cases t <;> decide +kernel)
      exact PE.imp (pe_callB call_isi (g.gl h1) (g.blt "isinstance" (by decide)) PyProof.Rows.boot_isinstance (pa_cons h4 (pa_cons hT pa_nil (star_cons _ rfl)) (star_cons _ h2)) (by decide) (by decide +kernel) (star_cons _ h2) (by rfl)) fun σ H Q hw => hw
    · cases h
  · cases h
/-- a[lo:hi], both given -/
theorem pe_slice2 {r : V → Option Int → Option Int → Hp → VK → Prop} {e lo hi : Expr} {p2 pos : Pos} {te tl th : TE} (hr : SlR X r) (he : PE X e te) (hl : PE X lo tl) (hu : PE X hi th) :
    PE X (.Subscript e (.Slice (some lo) (some hi) none p2) pos) (fun σ H Q => te σ H fun x H1 => tl σ H1 fun y H2 => th σ H2 fun z H3 => ∃ i, y = .int i ∧ ∃ j, z = .int j ∧ r x (some i) (some j) H3 Q) := by
  refine ⟨fun pins s σ H Q I h => ?_⟩
  refine PyProof.Rows.Subscript_ (thn (he.run pins s σ H _ I h) fun v s1 ⟨x, H1, I1, r1, q1⟩ => ?_)
  refine wpAny_Slice ?_
  rw [evalPart_some]
  refine thn (hl.run pins s1 σ H1 _ I1 q1) fun vl s2 ⟨y, H2, I2, ry, q2⟩ => ?_
  rw [evalPart_some]
  refine thn (hu.run pins s2 σ H2 _ I2 q2) fun vu s3 ⟨z, H3, I3, rz, i, ei, j, ej, q3⟩ => ?_
  subst ei
  subst ej
  obtain ⟨t1, rfl⟩ := ry
  obtain ⟨t2, rfl⟩ := rz
  rw [evalPart_none]
  refine wpAny_pure ?_
  have I4 : Inv X pins σ H3 { s3 with heap := s3.heap.push { cls := .type "slice", data := .fields #[.int i t1, .int j t2, .none] } } := I3.kept (t' := s3.toks) fun b ob q => Heap.get?_push_of_some _ q
  obtain ⟨T, id, hT, ht, hg⟩ := hr pins { s3 with heap := s3.heap.push { cls := .type "slice", data := .fields #[.int i t1, .int j t2, .none] } } σ H3 x v (.int i t1) (.int j t2) (some i) (some j) s3.heap.objs.size Q I4 r1 (Heap.IsSliceOf.new ..) (.int i t1) (.int j t2) q3
  exact PyProof.Rows.tail_any (ops := [.ref s3.heap.objs.size, v]) ht hT hg (by with_unfolding_all rfl)
theorem op_pe (g : GX B N sc X) {o : Op} {e : Expr} {es : List Expr} {ts : List TE} (h : opArgs sc o e = some es) (hs : PEs X es ts) : PE X e (nest ts (vr X.K X.prog X.w o)) := by
  have hu' := g.unit
  have hu : X.A.units + 64 < cLine := by omega
  cases o with
  | add => exact pe_bin o_add h hs fun _ _ _ _ q => q
  | sub => exact pe_bin op_sub h hs fun _ _ _ _ q => q
  | mul => exact pe_bin o_mul h hs fun _ _ _ _ q => q
  | fdiv => exact pe_bin op_fdivW h hs fun _ _ _ _ q => q
  | mod => exact pe_bin op_mod h hs fun _ _ _ _ q => q
  | pow => exact pe_bin op_pow h hs fun _ _ _ _ q => q
  | shl => exact pe_bin op_shl h hs fun _ _ _ _ q => q
  | shr => exact pe_bin op_shr h hs fun _ _ _ _ q => q
  | band => exact pe_bin op_and h hs fun _ _ _ _ q => q
  | bor => exact pe_bin op_or h hs fun _ _ _ _ q => q
  | neg =>
    simp only [opArgs] at h
    split at h
    · cases h
      obtain ⟨t, rfl, h1⟩ := hs.one
      exact pe_un un_neg h1
    · cases h
  | eq => exact pe_cmpO (op_eqD hu) h hs fun _ _ _ _ q => q
  | ne => exact pe_cmpO (op_neD hu) h hs fun _ _ _ _ q => q
  | lt => exact pe_cmpO o_lt h hs fun _ _ _ _ q => q
  | le => exact pe_cmpO o_le h hs fun _ _ _ _ q => q
  | gt => exact pe_cmpO o_gt h hs fun _ _ _ _ q => q
  | ge => exact pe_cmpO o_ge h hs fun _ _ _ _ q => q
  | inn => exact pe_cmpO (o_inn (by omega)) h hs fun _ _ _ _ q => q
  | notin => exact pe_cmpO (o_notin (by omega)) h hs fun _ _ _ _ q => q
  | is => exact pe_cmpO o_is h hs fun _ _ _ _ q => q
  | isnot => exact pe_cmpO o_isnot h hs fun _ _ _ _ q => q
  | idx =>
    simp only [opArgs] at h
    split at h
    · split at h
      · rename_i hb
        cases h
        obtain ⟨t, u, rfl, h1, h2⟩ := hs.two
        exact pe_ix (o_idx hu) h1 h2 (plainIx hb)
      · cases h
    · cases h
  | sl00 =>
    simp only [opArgs] at h
    split at h
    · cases h
      obtain ⟨t, rfl, h1⟩ := hs.one
      exact pe_slice o_sl h1 po_none po_none
    · cases h
  | sl10 =>
    simp only [opArgs] at h
    split at h
    · cases h
      obtain ⟨t, u, rfl, h1, h2⟩ := hs.two
      exact pe_slice o_sl h1 (po_some h2) po_none
    · cases h
  | sl01 =>
    simp only [opArgs] at h
    split at h
    · cases h
      obtain ⟨t, u, rfl, h1, h2⟩ := hs.two
      exact pe_slice o_sl h1 po_none (po_some h2)
    · cases h
  | sl11 =>
    simp only [opArgs] at h
    split at h
    · cases h
      obtain ⟨t, u, w, rfl, h1, h2, h3⟩ := hs.three
      exact pe_slice2 o_sl h1 h2 h3
    · cases h
  | rev2 =>
    simp only [opArgs] at h
    split at h
    · split at h
      · rename_i e2
        cases h
        obtain ⟨h1, h2, h3⟩ := e2
        obtain ⟨t, rfl, h4⟩ := hs.one
        exact pe_rev2 h1 h2 h3 h4
      · cases h
    · cases h
  | len => exact pe_bfun g o_len (by decide) PySem.boot_len (by decide) (by decide +kernel) h hs
  | min1 => exact pe_bfun g (cr_min g.calm) (by decide) PyProof.Rows.boot_min (by decide) (by decide +kernel) h hs
  | min2 => exact pe_bfun g (call_min2 g.calm) (by decide) PyProof.Rows.boot_min (by decide) (by decide +kernel) h hs
  | max2 => exact pe_bfun g (call_max2 g.calm) (by decide) PyProof.Rows.boot_max (by decide) (by decide +kernel) h hs
  | sum1 => exact pe_bfun g (cr_sum g.calm) (by decide) PyProof.Rows.boot_sum (by decide) (by decide +kernel) h hs
  | abs1 => exact pe_bfun g call_abs (by decide) PyProof.Rows.boot_abs (by decide) (by decide +kernel) h hs
  | int1 => exact pe_bty g call_int1 (by decide) PyProof.Rows.boot_int (by decide) (by decide +kernel) h hs
  | list1 => exact pe_bty g (o_list g.calm) (by decide) PyProof.Rows.boot_list (by decide) (by decide +kernel) h hs
  | tuple1 => exact pe_bty g call_tuple_of (by decide) PyProof.Rows.boot_tuple (by decide) (by decide +kernel) h hs
  | isi t => exact pe_ity g h hs
  | tuprev =>
    simp only [opArgs] at h
    split at h
    · split at h
      · rename_i e2
        cases h
        obtain ⟨rfl, rfl, h1, h2, h3⟩ := e2
        obtain ⟨t, rfl, h4⟩ := hs.one
        exact RT.pe_tupRev g.calm (g.gl h1) (g.blt "tuple" (by decide)) (g.gl h2) (g.blt "reversed" (by decide)) h4 (star_cons _ h3) (star_cons _ rfl)
      · cases h
    · cases h
  | sorted1 => exact pe_bfun g (o_sorted hu) (by decide) PyProof.Rows.boot_sorted (by decide) (by decide +kernel) h hs
  | min3 => exact pe_bfun g (call_min3Nu g.calm) (by decide) PyProof.Rows.boot_min (by decide) (by decide +kernel) h hs
  | lstrev =>
    simp only [opArgs] at h
    split at h
    · split at h
      · rename_i e2
        cases h
        obtain ⟨rfl, rfl, h1, h2, h3⟩ := e2
        obtain ⟨t, rfl, h4⟩ := hs.one
        exact pe_lstRev g.calm (g.gl h1) (g.blt "list" (by decide)) (g.gl h2) (g.blt "reversed" (by decide)) h4 (star_cons _ h3)
      · cases h
    · cases h
  | sset =>
    simp only [opArgs] at h
    split at h
    · split at h
      · rename_i e2
        cases h
        obtain ⟨rfl, rfl, h1, h2, h3⟩ := e2
        obtain ⟨t, rfl, h4⟩ := hs.one
        exact pe_sset g.calm hu (g.gl h1) (g.blt "sorted" (by decide)) (g.gl h2) (g.blt "set" (by decide)) h4 h3
      · cases h
    · cases h
  | lrange =>
    simp only [opArgs] at h
    split at h
    · split at h
      · rename_i e2
        cases h
        obtain ⟨rfl, rfl, h1, h2, h3⟩ := e2
        obtain ⟨t, rfl, h4⟩ := hs.one
        exact pe_listRg g.calm (g.gl h1) (g.blt "list" (by decide)) (prg_1 (g.gl h2) (g.blt "range" (by decide)) h4 (star_cons _ h3)) (star_cons _ rfl)
      · cases h
    · cases h
  | _ => cases h
end
end Nf
/-! operators and builtins: what is told over data gives what the rule over values asks -/
namespace Nf
open PySem PySem.Spec L2
section
variable {B : Base} {N : Ent} {σ : Sg} {env : Ev} {S H : Hp} {F : Nat → List Addr} {K : R → Ev → Prop} {Q : VK} {PK : PySem.W.Frag}
theorem StOk.grow {σ : Sg} {env : Ev} {S H : Hp} {F : Nat → List Addr} {D : Addr} {o : HO} (st : StOk B N σ env S H F) (hS : S D = none) (hF : ∀ i, D ∉ F i) (h0 : N.H0 D = none) : StOk B N σ env S (upd H D o) F := by
  refine ⟨st.s0, fun b x q => ?_, fun b x q nf => ?_, st.fresh, st.val, fun i x q => ?_, fun i b hb => ?_, st.dj, st.pin, st.len, st.wf, fun i b hb => ?_⟩
  · have e : b ≠ D := by rintro rfl; rw [hS] at q; cases q
    rw [upd_ne e]; exact st.sub _ _ q
  · have e : b ≠ D := by rintro rfl; rw [h0] at q; cases q
    rw [upd_ne e]; exact st.frame _ _ q nf
  · obtain ⟨a, h1, h2⟩ := st.own i x q
    refine ⟨a, h1, h2.stab (Same.refl _) fun b hb => upd_ne ?_⟩
    rintro rfl
    exact hF i hb
  · obtain ⟨a, c, d⟩ := st.priv i b hb
    exact ⟨a, by by_cases e : b = D; (subst e; rw [upd_same]; simp); (rw [upd_ne e]; exact c), d⟩
  · by_cases e : b = D
    · subst e; rw [upd_same]; simp
    · rw [upd_ne e]; exact st.f0 i b hb
theorem StOk.outs {b : Addr} (st : StOk B N σ env S H F) (h : H b = none) : S b = none ∧ (∀ i, b ∉ F i) ∧ N.H0 b = none := by
  refine ⟨?_, fun i hi => (st.priv i b hi).2.1 h, ?_⟩
  · cases e : S b with
    | none => rfl
    | some o => rw [st.sub _ _ e] at h; cases h
  · cases e : N.H0 b with
    | none => rfl
    | some o =>
      have : H b = some o := st.frame b o e fun i hi => st.f0 i b hi h
      rw [this] at h; cases h
theorem viewL1 {a : D} {vs : List V} (h : ViewL PK S H [a] vs) : ∃ v, vs = [v] ∧ View PK S H a v := by
  obtain ⟨v, w, rfl, h1, h2⟩ := h
  cases (show w = [] from h2)
  exact ⟨v, rfl, h1⟩
theorem viewL2 {a b : D} {vs : List V} (h : ViewL PK S H [a, b] vs) : ∃ v w, vs = [v, w] ∧ View PK S H a v ∧ View PK S H b w := by
  obtain ⟨v, w, rfl, h1, h2⟩ := h
  obtain ⟨u, rfl, h3⟩ := viewL1 h2
  exact ⟨v, u, rfl, h1, h3⟩
theorem viewL3 {a b c : D} {vs : List V} (h : ViewL PK S H [a, b, c] vs) : ∃ v w u, vs = [v, w, u] ∧ View PK S H a v ∧ View PK S H b w ∧ View PK S H c u := by
  obtain ⟨v, w, rfl, h1, h2⟩ := h
  obtain ⟨u, z, rfl, h3, h4⟩ := viewL2 h2
  exact ⟨v, u, z, rfl, h1, h3, h4⟩
theorem view_int {i : Int} {v : V} (h : View PK S H (.int i) v) : v = .int i := h
theorem view_str {s : List Nat} {v : V} (h : View PK S H (.str s) v) : v = .str ⟨s.toArray⟩ := h
theorem view_bl {b : Bool} {v : V} (h : View PK S H (.bl b) v) : v = .bl b := h
theorem view_non {v : V} (h : View PK S H .non v) : v = .non := h
theorem view_tup {ds : List D} {v : V} (h : View PK S H (.tup ds) v) : ∃ a xs, v = .ref a ∧ SqT PK S a xs ∧ RepL PK S ds xs := by
  have h' : Rep PK S (.tup ds) v := h
  unfold Rep at h'
  exact h'
theorem view_fz {ds : List D} {v : V} (h : View PK S H (.fz ds) v) : ∃ a xs, v = .ref a ∧ SqL PK S a xs ∧ RepL PK S ds xs := by
  have h' : Rep PK S (.fz ds) v := h
  unfold Rep at h'
  exact h'
theorem rep_tup {ds : List D} {a : Addr} {xs : List V} (h1 : SqT PK S a xs) (h2 : RepL PK S ds xs) : Rep PK S (.tup ds) (.ref a) := by
  unfold Rep; exact ⟨a, xs, rfl, h1, h2⟩
theorem rep_str (s : List Nat) : Rep PK S (.str s) (.str ⟨s.toArray⟩) := rfl

/-! texts -/
theorem str_len (s : List Nat) : (⟨s.toArray⟩ : Str).length = s.length := by simp [Str.length]
theorem str_app (a b : List Nat) : (⟨a.toArray⟩ : Str) ++ ⟨b.toArray⟩ = ⟨(a ++ b).toArray⟩ := by
  show Str.append _ _ = _
  simp [Str.append]

/-! == -/
mutual
theorem dp_of : ∀ {d : D} {v : V}, (toPy d).canLay0 = true → Rep PK H d v → Dp PK H v (toPy d)
  | .non, v, _, h => by cases (show v = .non from h); exact .non
  | .bl b, v, _, h => by cases (show v = .bl b from h); exact .bl b
  | .int i, v, _, h => by cases (show v = .int i from h); exact .int i
  | .str s, v, _, h => by cases (show v = .str ⟨s.toArray⟩ from h); exact .str _
  | .tup ds, v, c, h => by
    unfold Rep at h
    obtain ⟨a, xs, rfl, h1, h2⟩ := h
    exact .tup h1 (dpAll_of (by simpa [toPy, PyData.canLay0] using c) h2)
  | .lst ds, v, c, h => by
    unfold Rep at h
    obtain ⟨a, xs, rfl, h1, h2⟩ := h
    exact .lst (.inl (.inl h1)) (dpAll_of (by simpa [toPy, PyData.canLay0] using c) h2)
  | .fz ds, v, c, h => by
    unfold Rep at h
    obtain ⟨a, xs, rfl, h1, h2⟩ := h
    exact .lst h1 (dpAll_of (by simpa [toPy, PyData.canLay0] using c) h2)
  | .dic ks vs, v, c, h => by simp [toPy, PyData.canLay0] at c
theorem dpAll_of : ∀ {ds : List D} {vs : List V}, PyData.canLayAll0 (toPyL ds) = true → RepL PK H ds vs → DpAll PK H vs (toPyL ds)
  | [], vs, _, h => by unfold RepL at h; subst h; exact .nil
  | d :: ds, vs, c, h => by
    unfold RepL at h
    obtain ⟨v, r, rfl, h1, h2⟩ := h
    simp only [toPyL, PyData.canLayAll0, Bool.and_eq_true] at c
    exact .cons (dp_of c.1 h1) (dpAll_of c.2 h2)
end
theorem dp_view (e : Same S H) {d : D} {v : V} (ok : eqOk d = true) (h : View PK S H d v) : Dp PK H v (toPy d) := dp_of (SeqAt.canLay_of_shaped ok) (h.rep e)

/-! dicts -/
theorem keyD_some {d : D} {k : Key} (h : keyD d = some k) : d = kD k := by
  cases d <;> first
    | (cases h; done)
    | (cases h; rfl)
theorem view_key {d : D} {k : Key} {v : V} (h : keyD d = some k) (hv : View PK S H d v) : v = kV k := by
  cases d with
  | int i => cases h; exact hv
  | str s => cases h; exact hv
  | _ => cases h
theorem dAt_val {k : Key} : ∀ {kvs : List (Key × V)} {ds : List D}, RepL PK S ds (kvs.map (·.2)) → (valV kvs k = none → dAt (kD k) (kvs.map fun p => kD p.1) ds = none) ∧ ∀ v, valV kvs k = some v → ∃ d, dAt (kD k) (kvs.map fun p => kD p.1) ds = some d ∧ Rep PK S d v
  | [], ds, h => ⟨fun _ => by cases k <;> rfl, fun v e => by cases e⟩
  | (q, w) :: kvs, [], h => by
    unfold RepL at h
    cases h
  | (q, w) :: kvs, d :: ds, h => by
    unfold RepL at h
    obtain ⟨v, r, e1, h1, h2⟩ := h
    cases e1
    obtain ⟨ih1, ih2⟩ := dAt_val (k := k) h2
    have hval : valV ((q, w) :: kvs) k = if q = k then some w else valV kvs k := by
      unfold valV
      rw [List.find?_cons]
      by_cases e : q = k
      · simp [e]
      · simp [e]
    have hdat : dAt (kD k) (((q, w) :: kvs).map fun p => kD p.1) (d :: ds) = if q = k then some d else dAt (kD k) (kvs.map fun p => kD p.1) ds := by
      rw [List.map_cons]
      cases k with
      | inl i =>
        cases q with
        | inl j => simp only [kD, dAt, Sum.inl.injEq]
        | inr x => simp only [kD, dAt]; rw [if_neg (fun z => by cases z)]
      | inr y =>
        cases q with
        | inl j => simp only [kD, dAt]; rw [if_neg (fun z => by cases z)]
        | inr x =>
          simp only [kD, dAt, Sum.inr.injEq]
          by_cases e : x = y
          · rw [if_pos (by rw [e]), if_pos e]
          · rw [if_neg (fun z => e (Str.ext' (Array.toList_inj.mp z))), if_neg e]
    rw [hval, hdat]
    by_cases e : q = k
    · rw [if_pos e, if_pos e]
      exact ⟨fun z => (by cases z), fun v z => ⟨d, rfl, (by cases z; exact h1)⟩⟩
    · rw [if_neg e, if_neg e]
      exact ⟨ih1, ih2⟩
theorem view_dic {ks vs : List D} {v : V} (h : View PK S H (.dic ks vs) v) : ∃ a kvs, v = .ref a ∧ Rd H a (.dK kvs) ∧ ks = kvs.map (fun p => kD p.1) ∧ RepL PK S vs (kvs.map (·.2)) := h
theorem dic_look {ks vs : List D} {k : D} {q : Key} {a : Addr} {kvs : List (Key × V)} (hk : keyD k = some q) (e1 : ks = kvs.map (fun p => kD p.1)) (e2 : RepL PK S vs (kvs.map (·.2))) (hd : Rd H a (.dK kvs)) :
    ∃ o, DGet H a (kV q) o ∧ (dAt k ks vs = none → o = none) ∧ ∀ d, dAt k ks vs = some d → ∃ v, o = some v ∧ Rep PK S d v := by
  refine ⟨valV kvs q, .inl ⟨kvs, q, hd, rfl, rfl⟩, ?_⟩
  rw [keyD_some hk, e1]
  obtain ⟨h1, h2⟩ := dAt_val (k := q) e2
  cases e : valV kvs q with
  | none => exact ⟨fun _ => rfl, fun d z => (by rw [h1 e] at z; cases z)⟩
  | some v =>
    obtain ⟨d, h3, h4⟩ := h2 v e
    exact ⟨fun z => (by rw [h3] at z; cases z), fun d' z => ⟨v, rfl, (by rw [h3] at z; cases z; exact h4)⟩⟩
theorem atI_rep {ds : List D} {xs : List V} {i : Int} {d : D} (h : RepL PK S ds xs) (e : atI ds i = some d) : ∃ v, atI xs i = some v ∧ Rep PK S d v := by
  unfold atI at e ⊢
  rw [h.len]
  cases q : ixN ds.length i with
  | none => rw [q] at e; cases e
  | some j =>
    rw [q] at e
    exact h.get e
theorem cut_rep {ds : List D} {xs : List V} {lo hi : Option Int} (h : RepL PK S ds xs) : RepL PK S (cutL ds lo hi) (cutV xs lo hi) := by
  unfold cutL cutV
  rw [h.len]
  exact (h.drop _).take _

theorem sl_ok (st : StOk B N σ env S H F) (p : PostE B N σ S K Q) {d : D} {v : V} {lo hi : Option Int} (hv : View B.K S H d v) (h : slD d lo hi fun r => K r env) : vSl B.K v lo hi H Q := by
  cases d with
  | str s =>
    obtain ⟨h1, h2⟩ := h
    cases (show v = .str ⟨s.toArray⟩ from hv)
    refine .inl ⟨_, rfl, by rw [str_len]; exact h1, p.giveV st h2 ?_⟩
    unfold Rep
    congr 1
  | lst ds =>
    obtain ⟨a, xs, rfl, h1, h2⟩ := hv
    exact .inr (.inl ⟨a, xs, rfl, SqL.of h1, fun q hq => p.newLst st h (cut_rep h2) hq⟩)
  | fz ds =>
    obtain ⟨a, xs, rfl, h1, h2⟩ := view_fz hv
    exact .inr (.inl ⟨a, xs, rfl, st.sub.seq h1, fun q hq => p.newLst st h (cut_rep h2) hq⟩)
  | tup ds =>
    obtain ⟨a, xs, rfl, h1, h2⟩ := view_tup hv
    refine .inr (.inr ⟨a, xs, rfl, sqT_mono st.sub h1, fun hw => p.giveV st h ?_, fun _ q hq => p.newTup st h (cut_rep h2) hq⟩)
    have e : cutL ds lo hi = ds := by
      unfold cutL
      rw [h2.len] at hw
      rw [hw.1, hw.2]
      simp
    rw [e]
    exact rep_tup h1 h2
  | _ => exact h.elim
theorem tyx_of (e : Same S H) {d : D} {v : V} (h : View PK S H d v) : TyX PK H v (.type (tyD d)) := by
  cases d with
  | non => cases (show v = .non from h); exact .base .non
  | bl b => cases (show v = .bl b from h); exact .base (.bl b)
  | int i => cases (show v = .int i from h); exact .base (.int i)
  | str s => cases (show v = .str _ from h); exact .base (.str _)
  | tup ds =>
    obtain ⟨a, xs, rfl, h1, _⟩ := view_tup h
    rcases sqT_mono e h1 with (h2 | ⟨o, h2⟩) | ⟨o, its, n, h2, h3, _⟩
    · exact .base (.tup h2)
    · exact .fTuple h2
    · exact .kTuple h2 h3
  | lst ds =>
    obtain ⟨a, xs, rfl, h1, _⟩ := h
    exact .base (.lst h1)
  | fz ds =>
    obtain ⟨a, xs, rfl, h1, _⟩ := view_fz h
    rcases e.seq h1 with (h2 | ⟨o, h2⟩) | ⟨o, its, n, h2, h3, _⟩
    · exact .base (.lst h2)
    · exact .base (.frz h2)
    · exact .kList h2 h3
  | dic ks vs =>
    obtain ⟨a, kvs, rfl, h1, _⟩ := h
    rcases h1 with h1 | ⟨o, h1⟩
    · exact .base (.dK h1)
    · exact .fDict h1
theorem isTy_kit (d : D) (t : Ty) : kitB (tyD d) (tyName t) = some (isTy t d) := by
  cases d <;> cases t <;> simp only [tyD, tyName, isTy] <;> decide +kernel
end
end Nf
namespace Nf
open PySem PySem.Spec L2
section
variable {B : Base} {N : Ent} {σ : Sg} {env : Ev} {S H : Hp} {F : Nat → List Addr} {K : R → Ev → Prop} {Q : VK}
theorem minII (i j : Int) : (if j < i then j else i) = min i j := by
  rw [Int.min_def]
  split <;> split <;> omega
theorem maxII (i j : Int) : (if j > i then j else i) = max i j := by
  rw [Int.max_def]
  split <;> split <;> omega
theorem dec_non {d : D} {v : V} {PK : PySem.W.Frag} (h : View PK S H d v) : decide (v = .non) = isNonD d := by
  cases d with
  | non => cases (show v = .non from h); rfl
  | bl b => cases (show v = .bl b from h); rfl
  | int b => cases (show v = .int b from h); rfl
  | str b => cases (show v = .str _ from h); rfl
  | tup ds => obtain ⟨a, xs, rfl, _⟩ := view_tup h; rfl
  | lst ds => obtain ⟨a, xs, rfl, _⟩ := h; rfl
  | fz ds => obtain ⟨a, xs, rfl, _⟩ := view_fz h; rfl
  | dic ks vs => obtain ⟨a, xs, rfl, _⟩ := h; rfl
theorem rgV_rep {PK : PySem.W.Frag} (n : Nat) : RepL PK S ((List.range n).map fun i => .int (i : Nat)) (rgV 0 (n : Nat)) := by
  have e : rgV 0 (n : Nat) = ((List.range n).map fun i => ((i : Nat) : Int)).map V.int := by
    unfold rgV
    rw [List.map_map]
    have : ((n : Int) - 0).toNat = n := by omega
    rw [this]
    refine List.map_congr_left fun i _ => ?_
    show V.int (0 + (i : Int)) = V.int (i : Int)
    rw [Int.zero_add]
  rw [e, show ((List.range n).map fun i => D.int (i : Nat)) = ((List.range n).map fun i => ((i : Nat) : Int)).map D.int by rw [List.map_map]; rfl]
  exact RepL.of_ints _
theorem min3_nu (i j k : Int) : nuMin3 (.int i) (.int j) (.int k) = some (.int (min (min i j) k)) := by
  have h2 : ∀ i j : Int, nuMin2 (.int i) (.int j) = some (.int (min i j)) := fun i j => by
    show ((some (decide (j < i))).map fun c => if c = true then V.int j else V.int i) = _
    simp only [Option.map_some, decide_eq_true_eq]
    rw [Int.min_def]
    by_cases h : j < i
    · rw [if_pos h, if_neg (by omega)]
    · rw [if_neg h, if_pos (by omega)]
  show ((nuMin2 (.int i) (.int j)).bind fun m => nuMin2 m (.int k)) = _
  rw [h2, Option.bind_some, h2]
abbrev xs_of (ps : List (D × V)) : List D := ps.map (·.1)
theorem RepL.pairs {PK : PySem.W.Frag} : ∀ {ds : List D} {vs : List V}, RepL PK S ds vs → ∃ ps : List (D × V), ps.map (·.1) = ds ∧ ps.map (·.2) = vs ∧ ∀ p ∈ ps, Rep PK S p.1 p.2
  | [], vs, h => by unfold RepL at h; subst h; exact ⟨[], rfl, rfl, fun p hp => by cases hp⟩
  | d :: ds, vs, h => by
    unfold RepL at h
    obtain ⟨v, r, rfl, h1, h2⟩ := h
    obtain ⟨ps, e1, e2, e3⟩ := RepL.pairs h2
    refine ⟨(d, v) :: ps, by rw [List.map_cons, e1], by rw [List.map_cons, e2], fun p hp => ?_⟩
    rcases List.mem_cons.mp hp with rfl | hp
    · exact h1
    · exact e3 p hp
theorem RepL.of_pairs {PK : PySem.W.Frag} : ∀ {ps : List (D × V)}, (∀ p ∈ ps, Rep PK S p.1 p.2) → RepL PK S (ps.map (·.1)) (ps.map (·.2))
  | [], _ => .nil
  | p :: ps, h => .cons (h p List.mem_cons_self) (RepL.of_pairs fun q hq => h q (List.mem_cons_of_mem _ hq))
theorem sc_room {n : Nat} (h : n ≤ 4000) : n + 1 < scanBound := Nat.lt_of_le_of_lt (Nat.succ_le_succ h) (by decide)
theorem any_toPy {d : D} : ∀ {xs : List D}, ((toPyL xs).any fun z => PyData.eqv z (toPy d)) = xs.any fun z => deq z d
  | [] => rfl
  | x :: xs => by
    simp only [toPyL, List.any_cons]
    rw [any_toPy]
    rfl
theorem op_ok {o : Op} {ds : List D} {vs : List V} {sc : Scope} {e : Expr} {es : List Expr} (hs : opArgs sc o e = some es) (st : StOk B N σ env S H F) (hv : ViewL B.K S H ds vs) (h : osem o ds fun r => K r env) (p : PostE B N σ S K Q) {PP : Program} {ww : World} : vr B.K PP ww o vs H Q := by
  have cmp : ∀ {b : Bool}, K (.v (.bl b)) env → Q (.bl b) H := fun h => p.giveV st h rfl
  have num : ∀ {i : Int}, K (.v (.int i)) env → Q (.int i) H := fun h => p.giveV st h rfl
  cases o with
  | add =>
    simp only [osem] at h
    split at h
    · obtain ⟨v, w, rfl, h1, h2⟩ := viewL2 hv
      cases view_int h1; cases view_int h2
      exact .inl (.inl ⟨_, _, rfl, rfl, num h⟩)
    · obtain ⟨v, w, rfl, h1, h2⟩ := viewL2 hv
      cases view_str h1; cases view_str h2
      refine .inl (.inr ⟨_, _, rfl, rfl, by rw [str_len, str_len]; exact h.1, ?_⟩)
      rw [str_app]
      exact p.giveV st h.2 rfl
    · obtain ⟨v, w, rfl, h1, h2⟩ := viewL2 hv
      obtain ⟨a, xs, rfl, h3, h4⟩ := h1
      obtain ⟨b, ys, rfl, h5, h6⟩ := h2
      exact .inr (.inl ⟨a, b, xs, ys, rfl, rfl, h3, h5, by rw [h4.len, h6.len]; exact h.1, fun q hq => p.newLst st h.2 (h4.append h6) hq⟩)
    · obtain ⟨v, w, rfl, h1, h2⟩ := viewL2 hv
      obtain ⟨a, xs, rfl, h3, h4⟩ := view_tup h1
      obtain ⟨b, ys, rfl, h5, h6⟩ := view_tup h2
      refine .inr (.inr ⟨a, b, xs, ys, rfl, rfl, sqT_mono st.sub h3, sqT_mono st.sub h5, by rw [h4.len, h6.len]; exact h.1, fun e => ?_, fun _ e => ?_, fun _ _ q hq => p.newTup st h.2 (h4.append h6) hq⟩)
      · refine p.giveV st h.2 ?_
        rw [e] at h4
        have := h4.len
        rw [List.eq_nil_of_length_eq_zero this.symm]
        exact rep_tup h5 h6
      · refine p.giveV st h.2 ?_
        rw [e] at h6
        have := h6.len
        rw [List.eq_nil_of_length_eq_zero this.symm, List.append_nil]
        exact rep_tup h3 h4
    · exact h.elim
  | sub =>
    simp only [osem] at h
    split at h
    · obtain ⟨v, w, rfl, h1, h2⟩ := viewL2 hv
      cases view_int h1; cases view_int h2
      exact ⟨_, _, rfl, rfl, num h⟩
    · exact h.elim
  | mul =>
    simp only [osem] at h
    split at h
    · obtain ⟨v, w, rfl, h1, h2⟩ := viewL2 hv
      cases view_int h1; cases view_int h2
      rcases h.1 with hc | hc
      · exact .inl (.inl (.inl ⟨_, _, rfl, rfl, hc, num h.2⟩))
      · exact .inl (.inl (.inr ⟨_, _, rfl, rfl, hc, num h.2⟩))
    · obtain ⟨v, w, rfl, h1, h2⟩ := viewL2 hv
      obtain ⟨a, xs, rfl, h3, h4⟩ := h1
      cases view_int h2
      obtain ⟨c1, c2, c3, c4⟩ := h
      refine .inl (.inr ⟨a, _, xs, rfl, rfl, h3, c1, c2, by rw [h4.len]; exact c3, fun q hq => p.newLst st c4 ?_ hq⟩)
      have : ∀ n : Nat, RepL B.K S (List.replicate n _).flatten (List.replicate n xs).flatten := fun n => by
        induction n with
        | zero => exact .nil
        | succ n ih => rw [List.replicate_succ, List.replicate_succ, List.flatten_cons, List.flatten_cons]; exact h4.append ih
      exact this _
    · obtain ⟨v, w, rfl, h1, h2⟩ := viewL2 hv
      cases view_str h1; cases view_int h2
      obtain ⟨c1, c2, c3, c4⟩ := h
      refine .inr ⟨_, _, rfl, rfl, c1, c2, by simpa [Str.length] using c3, ?_⟩
      have e0 : ∀ z : List Nat, (⟨z.toArray⟩ : Str).cps.toList = z := fun z => by simp
      rw [e0]
      exact p.giveV st c4 rfl
    · exact h.elim
  | fdiv =>
    simp only [osem] at h
    split at h
    · obtain ⟨v, w, rfl, h1, h2⟩ := viewL2 hv
      cases view_int h1; cases view_int h2
      exact ⟨_, _, rfl, rfl, h.1, num h.2⟩
    · exact h.elim
  | mod =>
    simp only [osem] at h
    split at h
    · obtain ⟨v, w, rfl, h1, h2⟩ := viewL2 hv
      cases view_int h1; cases view_int h2
      exact ⟨_, _, rfl, rfl, h.1, num h.2⟩
    · exact h.elim
  | pow =>
    simp only [osem] at h
    split at h
    · obtain ⟨v, w, rfl, h1, h2⟩ := viewL2 hv
      cases view_int h1; cases view_int h2
      exact ⟨_, _, rfl, rfl, h.1, num h.2⟩
    · exact h.elim
  | shl =>
    simp only [osem] at h
    split at h
    · obtain ⟨v, w, rfl, h1, h2⟩ := viewL2 hv
      cases view_int h1; cases view_int h2
      exact ⟨_, _, rfl, rfl, h.1, num h.2⟩
    · exact h.elim
  | shr =>
    simp only [osem] at h
    split at h
    · obtain ⟨v, w, rfl, h1, h2⟩ := viewL2 hv
      cases view_int h1; cases view_int h2
      exact ⟨_, _, rfl, rfl, h.1, num h.2⟩
    · exact h.elim
  | band =>
    simp only [osem] at h
    split at h
    · obtain ⟨v, w, rfl, h1, h2⟩ := viewL2 hv
      cases view_int h1; cases view_int h2
      exact ⟨_, _, rfl, rfl, num h⟩
    · exact h.elim
  | bor =>
    simp only [osem] at h
    split at h
    · obtain ⟨v, w, rfl, h1, h2⟩ := viewL2 hv
      cases view_int h1; cases view_int h2
      exact ⟨_, _, rfl, rfl, num h⟩
    · exact h.elim
  | neg =>
    simp only [osem] at h
    split at h
    · obtain ⟨v, rfl, h1⟩ := viewL1 hv
      cases view_int h1
      exact ⟨_, rfl, num h⟩
    · exact h.elim
  | eq =>
    simp only [osem] at h
    split at h
    · obtain ⟨v, w, rfl, h1, h2⟩ := viewL2 hv
      obtain ⟨e1, e2, k⟩ := h
      exact ⟨_, _, dp_view st.sub e1 h1, dp_view st.sub e2 h2, e1, e2, cmp k⟩
    · exact h.elim
  | ne =>
    simp only [osem] at h
    split at h
    · obtain ⟨v, w, rfl, h1, h2⟩ := viewL2 hv
      obtain ⟨e1, e2, k⟩ := h
      exact ⟨_, _, dp_view st.sub e1 h1, dp_view st.sub e2 h2, e1, e2, cmp k⟩
    · exact h.elim
  | lt =>
    simp only [osem] at h
    split at h
    · obtain ⟨v, w, rfl, h1, h2⟩ := viewL2 hv
      cases view_int h1; cases view_int h2
      exact .inl ⟨_, _, rfl, rfl, cmp h⟩
    · obtain ⟨v, w, rfl, h1, h2⟩ := viewL2 hv
      cases view_str h1; cases view_str h2
      exact .inr ⟨_, _, rfl, rfl, cmp h⟩
    · exact h.elim
  | le =>
    simp only [osem] at h
    split at h
    · obtain ⟨v, w, rfl, h1, h2⟩ := viewL2 hv
      cases view_int h1; cases view_int h2
      exact .inl ⟨_, _, rfl, rfl, cmp h⟩
    · obtain ⟨v, w, rfl, h1, h2⟩ := viewL2 hv
      cases view_str h1; cases view_str h2
      exact .inr ⟨_, _, rfl, rfl, cmp h⟩
    · exact h.elim
  | gt =>
    simp only [osem] at h
    split at h
    · obtain ⟨v, w, rfl, h1, h2⟩ := viewL2 hv
      cases view_int h1; cases view_int h2
      exact .inl ⟨_, _, rfl, rfl, cmp h⟩
    · obtain ⟨v, w, rfl, h1, h2⟩ := viewL2 hv
      cases view_str h1; cases view_str h2
      exact .inr ⟨_, _, rfl, rfl, cmp h⟩
    · exact h.elim
  | ge =>
    simp only [osem] at h
    split at h
    · obtain ⟨v, w, rfl, h1, h2⟩ := viewL2 hv
      cases view_int h1; cases view_int h2
      exact .inl ⟨_, _, rfl, rfl, cmp h⟩
    · obtain ⟨v, w, rfl, h1, h2⟩ := viewL2 hv
      cases view_str h1; cases view_str h2
      exact .inr ⟨_, _, rfl, rfl, cmp h⟩
    · exact h.elim
  | inn =>
    simp only [osem] at h
    split at h
    · obtain ⟨v, w, rfl, h1, h2⟩ := viewL2 hv
      cases view_str h1; cases view_str h2
      exact .inl ⟨_, _, rfl, rfl, cmp h⟩
    · obtain ⟨v, w, rfl, h1, h2⟩ := viewL2 hv
      obtain ⟨q, hq⟩ := Option.isSome_iff_exists.mp h.1
      obtain ⟨a, kvs, rfl, h3, h4, h5⟩ := view_dic h2
      obtain ⟨ov, g1, g2, g3⟩ := dic_look hq h4 h5 h3
      cases view_key hq h1
      refine .inr (.inl ⟨a, ov, rfl, g1, ?_⟩)
      refine cmp (b := ov.isSome) ?_
      have k := h.2
      cases e : dAt _ _ _ with
      | none => rw [e] at k; rw [g2 e]; exact k
      | some d =>
        obtain ⟨v, g4, _⟩ := g3 d e
        rw [e] at k; rw [g4]; exact k
    · obtain ⟨v, w, rfl, h1, h2⟩ := viewL2 hv
      obtain ⟨c1, c2, k⟩ := h
      refine .inr (.inr (.inl ⟨_, _, dp_view st.sub c1 h1, dp_view st.sub c2 h2, c1, c2, cmp (b := (toPyL _).any fun z => PyData.eqv z (toPy _)) ?_⟩))
      rw [any_toPy]
      exact k
    · obtain ⟨v, w, rfl, h1, h2⟩ := viewL2 hv
      obtain ⟨c1, c2, k⟩ := h
      refine .inr (.inr (.inr ⟨_, _, dp_view st.sub c1 h1, dp_view st.sub c2 h2, c1, c2, cmp (b := (toPyL _).any fun z => PyData.eqv z (toPy _)) ?_⟩))
      rw [any_toPy]
      exact k
    · exact h.elim
  | notin =>
    simp only [osem] at h
    split at h
    · obtain ⟨v, w, rfl, h1, h2⟩ := viewL2 hv
      cases view_str h1; cases view_str h2
      exact .inl ⟨_, _, rfl, rfl, cmp h⟩
    · obtain ⟨v, w, rfl, h1, h2⟩ := viewL2 hv
      obtain ⟨q, hq⟩ := Option.isSome_iff_exists.mp h.1
      obtain ⟨a, kvs, rfl, h3, h4, h5⟩ := view_dic h2
      obtain ⟨ov, g1, g2, g3⟩ := dic_look hq h4 h5 h3
      cases view_key hq h1
      refine .inr (.inl ⟨a, ov, rfl, g1, ?_⟩)
      refine cmp (b := !ov.isSome) ?_
      have k := h.2
      cases e : dAt _ _ _ with
      | none => rw [e] at k; rw [g2 e]; exact k
      | some d =>
        obtain ⟨v, g4, _⟩ := g3 d e
        rw [e] at k; rw [g4]; exact k
    · obtain ⟨v, w, rfl, h1, h2⟩ := viewL2 hv
      obtain ⟨c1, c2, k⟩ := h
      refine .inr (.inr (.inl ⟨_, _, dp_view st.sub c1 h1, dp_view st.sub c2 h2, c1, c2, cmp (b := !(toPyL _).any fun z => PyData.eqv z (toPy _)) ?_⟩))
      rw [any_toPy]
      exact k
    · obtain ⟨v, w, rfl, h1, h2⟩ := viewL2 hv
      obtain ⟨c1, c2, k⟩ := h
      refine .inr (.inr (.inr ⟨_, _, dp_view st.sub c1 h1, dp_view st.sub c2 h2, c1, c2, cmp (b := !(toPyL _).any fun z => PyData.eqv z (toPy _)) ?_⟩))
      rw [any_toPy]
      exact k
    · exact h.elim
  | is =>
    simp only [osem] at h
    split at h
    · obtain ⟨v, w, rfl, h1, h2⟩ := viewL2 hv
      cases view_non h2
      refine .inl ⟨rfl, ?_⟩
      rw [dec_non h1]
      exact cmp h
    · obtain ⟨v, w, rfl, h1, h2⟩ := viewL2 hv
      cases view_bl h1; cases view_bl h2
      exact .inr ⟨_, _, rfl, rfl, cmp h⟩
    · exact h.elim
  | isnot =>
    simp only [osem] at h
    split at h
    · obtain ⟨v, w, rfl, h1, h2⟩ := viewL2 hv
      cases view_non h2
      refine .inl ⟨rfl, ?_⟩
      rw [dec_non h1]
      exact cmp h
    · obtain ⟨v, w, rfl, h1, h2⟩ := viewL2 hv
      cases view_bl h1; cases view_bl h2
      exact .inr ⟨_, _, rfl, rfl, cmp h⟩
    · exact h.elim
  | idx =>
    simp only [osem] at h
    split at h
    · obtain ⟨v, w, rfl, h1, h2⟩ := viewL2 hv
      obtain ⟨a, xs, rfl, h3, h4⟩ := h1
      cases view_int h2
      obtain ⟨d, e, k⟩ := optW_get h
      obtain ⟨u, e2, r⟩ := atI_rep h4 e
      exact .inl (.inl ⟨a, xs, _, u, rfl, rfl, SqL.of h3, e2, p.giveV st k r⟩)
    · obtain ⟨v, w, rfl, h1, h2⟩ := viewL2 hv
      obtain ⟨a, xs, rfl, h3, h4⟩ := view_fz h1
      cases view_int h2
      obtain ⟨d, e, k⟩ := optW_get h
      obtain ⟨u, e2, r⟩ := atI_rep h4 e
      exact .inl (.inl ⟨a, xs, _, u, rfl, rfl, st.sub.seq h3, e2, p.giveV st k r⟩)
    · obtain ⟨v, w, rfl, h1, h2⟩ := viewL2 hv
      obtain ⟨a, xs, rfl, h3, h4⟩ := view_tup h1
      cases view_int h2
      obtain ⟨d, e, k⟩ := optW_get h
      obtain ⟨u, e2, r⟩ := atI_rep h4 e
      exact .inl (.inr (.inl ⟨a, xs, _, u, rfl, rfl, sqT_mono st.sub h3, e2, p.giveV st k r⟩))
    · obtain ⟨v, w, rfl, h1, h2⟩ := viewL2 hv
      cases view_str h1
      cases view_int h2
      obtain ⟨c, e, k⟩ := optW_get h.2
      exact .inl (.inr (.inr ⟨_, _, c, rfl, rfl, by rw [str_len]; exact h.1, e, p.giveV st k rfl⟩))
    · obtain ⟨v, w, rfl, h1, h2⟩ := viewL2 hv
      obtain ⟨d, e, k⟩ := optW_get h.2
      obtain ⟨a, kvs, rfl, h3, h4, h5⟩ := view_dic h1
      obtain ⟨q, hq⟩ := Option.isSome_iff_exists.mp h.1
      obtain ⟨ov, g1, g2, g3⟩ := dic_look hq h4 h5 h3
      obtain ⟨u, rfl, r⟩ := g3 d e
      cases view_key hq h2
      exact .inr ⟨a, u, rfl, g1, p.giveV st k r⟩
    · exact h.elim
  | sl00 =>
    simp only [osem] at h
    split at h
    · obtain ⟨v, rfl, h1⟩ := viewL1 hv
      exact sl_ok st p h1 h
    · exact h.elim
  | sl10 =>
    simp only [osem] at h
    split at h
    · obtain ⟨v, w, rfl, h1, h2⟩ := viewL2 hv
      cases view_int h2
      exact ⟨_, rfl, sl_ok st p h1 h⟩
    · exact h.elim
  | sl01 =>
    simp only [osem] at h
    split at h
    · obtain ⟨v, w, rfl, h1, h2⟩ := viewL2 hv
      cases view_int h2
      exact ⟨_, rfl, sl_ok st p h1 h⟩
    · exact h.elim
  | sl11 =>
    simp only [osem] at h
    split at h
    · obtain ⟨v, w, u, rfl, h1, h2, h3⟩ := viewL3 hv
      cases view_int h2; cases view_int h3
      exact ⟨_, rfl, _, rfl, sl_ok st p h1 h⟩
    · exact h.elim
  | len =>
    simp only [osem] at h
    split at h
    · obtain ⟨v, rfl, h1⟩ := viewL1 hv
      cases view_str h1
      exact .inl ⟨_, _, rfl, ⟨by rw [str_len]; exact h.1, (str_len _).symm⟩, num h.2⟩
    · obtain ⟨v, rfl, h1⟩ := viewL1 hv
      obtain ⟨a, xs, rfl, h3, h4⟩ := h1
      exact .inl ⟨_, _, rfl, .inl ⟨xs, SqL.of h3, h4.len.symm⟩, num h⟩
    · obtain ⟨v, rfl, h1⟩ := viewL1 hv
      obtain ⟨a, xs, rfl, h3, h4⟩ := view_fz h1
      exact .inl ⟨_, _, rfl, .inl ⟨xs, st.sub.seq h3, h4.len.symm⟩, num h⟩
    · obtain ⟨v, rfl, h1⟩ := viewL1 hv
      obtain ⟨a, xs, rfl, h3, h4⟩ := view_tup h1
      exact .inl ⟨_, _, rfl, .inr ⟨xs, sqT_mono st.sub h3, h4.len.symm⟩, num h⟩
    · obtain ⟨v, rfl, h1⟩ := viewL1 hv
      obtain ⟨a, kvs, rfl, h3, h4, h5⟩ := view_dic h1
      refine .inr ⟨a, kvs, rfl, h3, ?_⟩
      rw [h4, List.length_map] at h
      exact num h
    · exact h.elim
  | min1 =>
    simp only [osem] at h
    split at h
    · obtain ⟨v, rfl, h1⟩ := viewL1 hv
      obtain ⟨a, xs, rfl, h3, h4⟩ := h1
      obtain ⟨ns, rfl, hne, k⟩ := h
      rw [h4.ints] at h3
      exact ⟨a, ns, rfl, SqL.of h3, List.length_pos_iff.mpr hne, fun m h1 h2 => num (k m h1 h2)⟩
    · exact h.elim
  | min2 =>
    simp only [osem] at h
    split at h
    · obtain ⟨v, w, rfl, h1, h2⟩ := viewL2 hv
      cases view_int h1; cases view_int h2
      exact ⟨_, _, rfl, by rw [minII]; exact num h⟩
    · exact h.elim
  | max2 =>
    simp only [osem] at h
    split at h
    · obtain ⟨v, w, rfl, h1, h2⟩ := viewL2 hv
      cases view_int h1; cases view_int h2
      exact ⟨_, _, rfl, by rw [maxII]; exact num h⟩
    · exact h.elim
  | sum1 =>
    simp only [osem] at h
    split at h
    · obtain ⟨v, rfl, h1⟩ := viewL1 hv
      obtain ⟨a, xs, rfl, h3, h4⟩ := h1
      obtain ⟨ns, rfl, k⟩ := h
      rw [h4.ints] at h3
      exact ⟨a, ns, rfl, SqL.of h3, num k⟩
    · exact h.elim
  | abs1 =>
    simp only [osem] at h
    split at h
    · obtain ⟨v, rfl, h1⟩ := viewL1 hv
      cases view_int h1
      exact ⟨_, rfl, num h⟩
    · exact h.elim
  | int1 =>
    simp only [osem] at h
    split at h
    · obtain ⟨v, rfl, h1⟩ := viewL1 hv
      cases view_int h1
      exact .inl ⟨_, rfl, num h⟩
    · obtain ⟨v, rfl, h1⟩ := viewL1 hv
      cases view_bl h1
      exact .inr ⟨_, rfl, num h⟩
    · exact h.elim
  | list1 =>
    simp only [osem] at h
    split at h
    · obtain ⟨v, rfl, h1⟩ := viewL1 hv
      obtain ⟨a, xs, rfl, h3, h4⟩ := h1
      exact .inl ⟨a, xs, rfl, .inl (SqL.of h3), fun q hq => p.newLst st h h4 hq⟩
    · obtain ⟨v, rfl, h1⟩ := viewL1 hv
      obtain ⟨a, xs, rfl, h3, h4⟩ := view_fz h1
      exact .inl ⟨a, xs, rfl, .inl (st.sub.seq h3), fun q hq => p.newLst st h h4 hq⟩
    · obtain ⟨v, rfl, h1⟩ := viewL1 hv
      obtain ⟨a, xs, rfl, h3, h4⟩ := view_tup h1
      exact .inl ⟨a, xs, rfl, .inr (sqT_mono st.sub h3), fun q hq => p.newLst st h h4 hq⟩
    · obtain ⟨v, rfl, h1⟩ := viewL1 hv
      cases view_str h1
      rename_i s
      refine .inr ⟨_, rfl, by rw [str_len]; exact h.1, fun q hq => p.newLst st h.2 ?_ hq⟩
      have e : (s.map fun c => D.str [c]) = (s.map fun c => [c]).map D.str := by rw [List.map_map]; rfl
      have e2 : ((⟨s.toArray⟩ : Str).cps.toList.map fun c => V.str ⟨#[c]⟩) = (s.map fun c => [c]).map (fun t => V.str ⟨t.toArray⟩) := by rw [List.map_map]; rfl
      rw [e, e2]
      exact RepL.of_strs _
    · exact h.elim
  | tuple1 =>
    simp only [osem] at h
    split at h
    · obtain ⟨v, rfl, h1⟩ := viewL1 hv
      obtain ⟨a, xs, rfl, h3, h4⟩ := h1
      exact ⟨a, xs, rfl, .inl ⟨SqL.of h3, fun q hq => p.newTup st h h4 hq⟩⟩
    · obtain ⟨v, rfl, h1⟩ := viewL1 hv
      obtain ⟨a, xs, rfl, h3, h4⟩ := view_tup h1
      exact ⟨a, xs, rfl, .inr ⟨sqT_mono st.sub h3, p.giveV st h (rep_tup h3 h4)⟩⟩
    · exact h.elim
  | isi t =>
    simp only [osem] at h
    split at h
    · obtain ⟨v, rfl, h1⟩ := viewL1 hv
      rename_i d
      exact ⟨v, .ty (tyName t), .type (tyD d), .type (tyName t), isTy t d, rfl, .ty _, tyx_of st.sub h1, kit_ty (isTy_kit d t), cmp h⟩
    · exact h.elim
  | rev2 =>
    simp only [osem] at h
    split at h
    · obtain ⟨v, rfl, h1⟩ := viewL1 hv
      obtain ⟨a, xs, rfl, h3, h4⟩ := h1
      exact ⟨a, xs, rfl, SqL.of h3, fun q hq => p.newLst st h (h4.reverse.take 2) hq⟩
    · exact h.elim
  | tuprev =>
    simp only [osem] at h
    split at h
    · obtain ⟨v, rfl, h1⟩ := viewL1 hv
      obtain ⟨a, xs, rfl, h3, h4⟩ := h1
      exact ⟨a, xs, rfl, SqL.of h3, fun q hq => p.newTup st h h4.reverse hq⟩
    · exact h.elim
  | lstrev =>
    simp only [osem] at h
    split at h
    · obtain ⟨v, rfl, h1⟩ := viewL1 hv
      obtain ⟨a, xs, rfl, h3, h4⟩ := h1
      exact ⟨a, xs, rfl, SqL.of h3, fun q hq => p.newLst st h h4.reverse hq⟩
    · exact h.elim
  | min3 =>
    simp only [osem] at h
    split at h
    · obtain ⟨v, w, u, rfl, h1, h2, h3⟩ := viewL3 hv
      cases view_int h1; cases view_int h2; cases view_int h3
      refine ⟨_, _, _, _, rfl, min3_nu _ _ _, num h⟩
    · exact h.elim
  | sorted1 =>
    simp only [osem] at h
    split at h
    · obtain ⟨v, rfl, h1⟩ := viewL1 hv
      obtain ⟨a, xs, rfl, h3, h4⟩ := h1
      obtain ⟨ok, k⟩ := h
      obtain ⟨ps, e1, e2, e3⟩ := h4.pairs
      rw [← e2] at h3
      refine ⟨a, ps.map fun p => (toPy p.1, p.2), rfl, by rw [List.map_map]; exact SqL.of h3, ?_, ?_, ?_, ?_, fun q hq => ?_⟩
      · intro p hp
        obtain ⟨q, hq, rfl⟩ := List.mem_map.mp hp
        have hm : q.1 ∈ xs_of ps := List.mem_map.mpr ⟨q, hq, rfl⟩
        rw [xs_of, e1] at hm
        exact dp_of (List.all_eq_true.mp ok.lay _ hm) ((e3 q hq).mono st.sub)
      · rw [List.map_map, show ((fun p : PyData × V => p.1) ∘ fun p : D × V => (toPy p.1, p.2)) = toPy ∘ (·.1) from rfl, ← List.map_map, e1]
        intro d hd d' hd'
        obtain ⟨x, hx, rfl⟩ := List.mem_map.mp hd
        obtain ⟨y, hy, rfl⟩ := List.mem_map.mp hd'
        exact ok.alk x hx y hy
      · rw [List.map_map, show ((fun p : PyData × V => p.1) ∘ fun p : D × V => (toPy p.1, p.2)) = toPy ∘ (·.1) from rfl, ← List.map_map, e1]
        exact ok.srt
      · intro p hp
        obtain ⟨q, hq, rfl⟩ := List.mem_map.mp hp
        have hm : q.1 ∈ xs_of ps := List.mem_map.mpr ⟨q, hq, rfl⟩
        rw [xs_of, e1] at hm
        exact ok.dep _ hm
      · rw [show ((ps.map fun p => (toPy p.1, p.2)).mergeSort (PySem.W.dataLe false fun p : PyData × V => p.1)) = (ps.mergeSort (fun a b => dLe a.1 b.1)).map (fun p => (toPy p.1, p.2)) from
          (List.map_mergeSort (r := fun a b : D × V => dLe a.1 b.1) (s := PySem.W.dataLe false fun p : PyData × V => p.1) (f := fun p => (toPy p.1, p.2)) fun a _ b _ => rfl).symm, List.map_map]
        refine p.newLst st k ?_ hq
        have e4 : ∀ l, l = ps.map (·.1) → l.mergeSort dLe = (ps.mergeSort (fun a b => dLe a.1 b.1)).map (·.1) := by
          rintro l rfl
          exact (List.map_mergeSort (r := fun a b : D × V => dLe a.1 b.1) (s := dLe) (f := (·.1)) fun a _ b _ => rfl).symm
        rw [e4 _ e1.symm]
        exact RepL.of_pairs fun q hq => e3 q ((List.mergeSort_perm _ _).mem_iff.mp hq)
    · exact h.elim
  | sset =>
    simp only [osem] at h
    split at h
    · obtain ⟨v, rfl, h1⟩ := viewL1 hv
      obtain ⟨a, xs, rfl, h3, h4⟩ := h1
      rcases h with ⟨ss, rfl, hb, k⟩ | ⟨ns, rfl, hb, k⟩
      · rw [h4.strs, show (ss.map fun s => V.str ⟨s.toArray⟩) = (ss.map fun s => (⟨s.toArray⟩ : Str)).map V.str by rw [List.map_map]; rfl] at h3
        refine sset_s (SqL.of h3) (by rw [List.length_map]; exact sc_room hb) fun p' o ys q hp hq hlt hm => ?_
        obtain ⟨g1, g2, g3⟩ := st.outs hp
        have e : ys.map V.str = (ys.map fun s : Str => s.cps.toList).map fun s => V.str ⟨s.toArray⟩ := by rw [List.map_map]; rfl
        rw [e]
        refine p.newLst (st.grow g1 g2 g3) (k (ys.map fun s : Str => s.cps.toList) ?_ fun z => ?_) (RepL.of_strs _) hq
        · exact List.pairwise_map.mpr hlt
        · rw [List.mem_map]
          constructor
          · rintro ⟨s, hs, rfl⟩
            obtain ⟨t, ht, rfl⟩ := List.mem_map.mp ((hm s).mp hs)
            exact ht
          · intro hz
            exact ⟨⟨z.toArray⟩, (hm _).mpr (List.mem_map.mpr ⟨z, hz, rfl⟩), rfl⟩
      · rw [h4.ints] at h3
        refine sset_i (SqL.of h3) (sc_room hb) fun p' o ys q hp hq hlt hm => ?_
        obtain ⟨g1, g2, g3⟩ := st.outs hp
        exact p.newLst (st.grow g1 g2 g3) (k ys hlt hm) (RepL.of_ints _) hq
    · exact h.elim
  | lrange =>
    simp only [osem] at h
    split at h
    · obtain ⟨v, rfl, h1⟩ := viewL1 hv
      cases view_int h1
      obtain ⟨⟨c1, c2⟩, k⟩ := h
      refine ⟨_, rfl, RgOk.of_le (by omega) (by omega) (by omega) (by omega), fun q hq => p.newLst st k ?_ hq⟩
      rename_i j
      have e : j = ((j.toNat : Nat) : Int) := by omega
      have := rgV_rep (PK := B.K) (S := S) j.toNat
      rw [← e] at this
      exact this
    · exact h.elim
  | _ => cases hs
end
end Nf
/-! the text is the small language's term: expressions -/
namespace Nf
open PySem PySem.Spec L2

structure Cf where
  N : List Str
  sc : Scope
  fb : Str → Bool
  fs : List String
  xs : List String
def visB (sc : Scope) (x : Str) : Bool := match sc.names.lookup x with
  | some .local => true
  | some .cell => true
  | some .free => true
  | _ => false
def locB (sc : Scope) (x : Str) : Bool := match sc.names.lookup x with
  | some .local => true
  | some .cell => true
  | _ => false
def slotB (cf : Cf) (i : Nat) (x : Str) : Bool := decide (cf.N[i]? = some x) && visB cf.sc x
/-- a slot that may be stored to -/
def storeB (cf : Cf) (i : Nat) (x : Str) : Bool := decide (cf.N[i]? = some x) && locB cf.sc x && (cf.fb x || (match cf.sc.names.lookup x with | some .local => true | _ => false))
def constB : D → Expr → Bool
  | .non, .Constant .none _ _ => true
  | .bl b, .Constant (.bool b') _ _ => b == b'
  | .int i, .Constant (.int j) _ _ => decide (i = j)
  | .str s, .Constant (.str x) _ _ => decide (x = ⟨s.toArray⟩)
  | _, _ => false
def cmpOf : Op → Option CmpOp
  | .lt => some .Lt | .le => some .LtE | .gt => some .Gt | .ge => some .GtE | .eq => some .Eq | .ne => some .NotEq
  | _ => none
def mopName : Op → Option (String × Nat)
  | .join => some ("join", 1)
  | .find2 => some ("find", 2)
  | .get2 => some ("get", 2)
  | .scount => some ("count", 1)
  | .sindex => some ("index", 1)
  | .lindex => some ("index", 1)
  | _ => none
def mopArgs (o : Op) (e : Expr) : Option (Expr × List Expr) := match e with
  | .Call (.Attribute a m ap) es [] cp => match mopName o with
    | some (n, k) => if (ap.endLine == cp.line) = true ∧ notCall0 a = true ∧ noStars es = true ∧ m = Str.ofString n ∧ es.length = k then some (a, es) else none
    | none => none
  | _ => none
def inCf (cf : Cf) (scope : Scope) : Cf := ⟨cf.N, relS scope cf.sc, fun x => scope.names.lookup x == some .cell, cf.fs, cf.xs⟩
def ownP (N : List Str) : List Nat → List (Str × Nat)
  | [] => []
  | i :: is => (N.getD i Str.empty, i) :: ownP N is
def chkTgs (cf : Cf) : List Nat → List Expr → Bool
  | [], [] => true
  | i :: is, .Name x _ :: es => storeB cf i x && chkTgs cf is es
  | _, _ => false
def chkTg (cf : Cf) : Tg → Expr → Bool
  | .name i, .Name x _ => storeB cf i x
  | .tup is, .Tuple es _ _ => chkTgs cf is es
  | _, _ => false
def tgIs : Tg → List Nat
  | .name i => [i]
  | .tup is => is
def isTupE : Expr → Bool
  | .Tuple _ _ _ => true
  | _ => false
/-- a dict in a slot is walked: its pairs, its keys -/
def chkDk (cf : Cf) : It → Expr → Expr → Bool
  | .items (.var i), tg, e => isTupE tg && match e with
    | .Call (.Attribute (.Name x _) m ap) [] [] cp => decide (m = Str.ofString "items") && slotB cf i x && (ap.endLine == cp.line)
    | _ => false
  | .keys (.var i), _, e => match e with
    | .Name x _ => slotB cf i x
    | _ => false
  | _, _, _ => false
/-- calls with a default left out or with a keyword have names of their own -/
def nmOf (f : String) : String := if f == "cells_of/3" || f == "cells_of/free" then "cells_of" else f
def kwOf (f : String) : Option String := if f == "cells_of/free" then some "free" else none
/-- methods: is it __init__, the class, the name -/
def methTab : List (String × Bool × String × String) := [("Finder.__init__", true, "Finder", "__init__"), ("Finder.here", false, "Finder", "here"), ("Finder.step", false, "Finder", "step"), ("Finder.feed", false, "Finder", "feed"),
  ("Bits.__init__", true, "Bits", "__init__"), ("Bits.end_here", false, "Bits", "end_here"), ("Bits.go", false, "Bits", "go"), ("Bits.feed", false, "Bits", "feed"),
  ("Book.__init__", true, "Book", "__init__"), ("Book.put", false, "Book", "put"), ("Book.lower", false, "Book", "lower"), ("Book.branch", false, "Book", "branch"), ("Book.tree", false, "Book", "tree"), ("Book.near", false, "Book", "near"), ("Book.nearest", false, "Book", "nearest")]
def mtOf (f : String) : Option (Bool × String × String) := (methTab.find? fun q => q.1 == f).map (·.2)
def chkKs : Es → List (Option Expr) → Bool
  | .nil, [] => true
  | .cons c r, some e :: q => constB (.str (keyE c)) e && chkKs r q
  | _, _ => false
mutual
def chkE (cf : Cf) : E → Expr → Bool
  | .var i, e => match e with
    | .Name x _ => slotB cf i x
    | _ => false
  | .cst d, e => constB d e
  | .gl g, e => match e with
    | .Name x _ => decide (x = Str.ofString g) && glB cf.sc x && !(x == ("__debug__" : Str))
    | _ => false
  | .kget x c, e => match e with
    | .Subscript (.Name y _) b _ => decide (y = Str.ofString x) && glB cf.sc y && !(y == ("__debug__" : Str)) && notSlice b && chkE cf c b
    | _ => false
  | .op o as, e => match opArgs cf.sc o e with
    | some es => chkEs cf as es
    | none => false
  | .mop o a as, e => match mopArgs o e with
    | some (a', es) => chkE cf a a' && chkEs cf as es
    | none => false
  | .andv as, e => match e with
    | .BoolOp .And es _ => chkEs cf as es
    | _ => false
  | .orv as, e => match e with
    | .BoolOp .Or es _ => chkEs cf as es
    | _ => false
  | .notv a, e => match e with
    | .UnaryOp .Not a' _ => chkE cf a a'
    | _ => false
  | .ite c a b, e => match e with
    | .IfExp c' a' b' _ => chkT cf c c' && chkE cf a a' && chkE cf b b'
    | _ => false
  | .chain o p a b c, e => match e with
    | .Compare a' [o', p'] [b', c'] _ => decide (cmpOf o = some o') && decide (cmpOf p = some p') && notSet c' && chkE cf a a' && chkE cf b b' && chkE cf c c'
    | _ => false
  | .call f as _ _, e => match e with
    | .Call (.Name x _) es ks _ => decide (x = Str.ofString (nmOf f)) && glB cf.sc x && !(x == ("__debug__" : Str)) && noStars es && cf.fs.contains f && (mtOf f).isNone && (match kwOf f, ks with
      | none, [] => chkEs cf as es
      | some kw, [⟨some y, v, _⟩] => decide (y = Str.ofString kw) && decide (es.length = 3) && chkEs cf as (es ++ [v])
      | _, _ => false)
    | _ => false
  | .lst as, e => match e with
    | .List es _ => noStars es && decide (es.length ≤ 1000) && chkEs cf as es
    | _ => false
  | .tup as, e => match e with
    | .Tuple es _ _ => noStars es && decide (es.length ≤ 1000) && chkEs cf as es
    | _ => false
  | .comp elt tg it cond own, e => match e with
    | .ListComp elt' gs scope _ => match gs with
      | [⟨tg', it', ifs, asy⟩] => decide (asy = 0) && notSet it' && (tgIs tg).all (fun i => memN i own) && blkC cf.N cf.sc scope (ownP cf.N own) && (chkIt cf it tg' it' || chkDk cf it tg' it') && chkTg (inCf cf scope) tg tg' && chkTo (inCf cf scope) cond ifs && chkE (inCf cf scope) elt elt'
      | _ => false
    | _ => false
  | .pop i, e => match e with
    | .Call (.Attribute (.Name x _) m ap) [] [] cp => decide (m = Str.ofString "pop") && slotB cf i x && (ap.endLine == cp.line)
    | _ => false
  | .popAt i a, e => match e with
    | .Call (.Attribute (.Name x _) m ap) [a'] [] cp => decide (m = Str.ofString "pop") && slotB cf i x && (ap.endLine == cp.line) && notStar a' && chkE cf a a'
    | _ => false
  | .fld i f, e => match e with
    | .Attribute (.Name x _) g _ => slotB cf i x && decide (g = ⟨f.toArray⟩)
    | _ => false
  | .meth i c m as, e => match e with
    | .Call (.Attribute (.Name x _) g ap) es [] cp => slotB cf i x && noStars es && decide (es.length < 30) && cf.fs.contains m && (ap.endLine == cp.line) && (match mtOf m with
      | some (false, cls, n) => decide (Str.ofString cls = ⟨c.toArray⟩) && decide (g = Str.ofString n)
      | _ => false) && chkEs cf as es
    | _ => false
  | .mk c m as, e => match e with
    | .Call (.Name x _) es [] _ => decide (x = ⟨c.toArray⟩) && glB cf.sc x && !(x == ("__debug__" : Str)) && noStars es && cf.fs.contains m && (match mtOf m with
      | some (true, cls, _) => decide (Str.ofString cls = ⟨c.toArray⟩)
      | _ => false) && chkEs cf as es
    | _ => false
  | .mkm c m0 as m j, e => match e with
    | .Call (.Attribute (.Call (.Name x _) es [] _) g ap) [.Name y _] [] cp => decide (x = ⟨c.toArray⟩) && glB cf.sc x && !(x == ("__debug__" : Str)) && noStars es && cf.fs.contains m0 && cf.fs.contains m && !es.isEmpty && slotB cf j y && (ap.endLine == cp.line) && (match mtOf m0, mtOf m with
      | some (true, cls, _), some (false, cls2, n) => decide (Str.ofString cls = ⟨c.toArray⟩) && decide (cls2 = cls) && decide (g = Str.ofString n)
      | _, _ => false) && chkEs cf as es
    | _ => false
  | .dtn, e => match e with
    | .Dict [] [] _ => true
    | _ => false
  | .dt1 a c, e => match e with
    | .Dict [some k] [v] _ => chkE cf a k && constB c v && (match c with
      | .int _ => true
      | .bl _ => true
      | _ => false)
    | _ => false
  | .dtg i j, e => match e with
    | .Subscript (.Name x _) (.Name y _) _ => slotB cf i x && slotB cf j y
    | _ => false
  | .dts i j k, e => match e with
    | .Call (.Attribute (.Name x _) m ap) [.Name y _, .Name z _] [] cp => decide (m = Str.ofString "setdefault") && slotB cf i x && slotB cf j y && slotB cf k z && (ap.endLine == cp.line)
    | _ => false
  | .dct ks vs, e => match ks, e with
    | .nil, .Dict [] [] _ => true
    | .cons _ _, .Dict keys values _ => chkKs ks keys && decide (keys.length ≤ 15) && decide (keys.length = values.length) && decide ((keysE ks).Nodup) && !keys.isEmpty && chkEs cf vs values
    | _, _ => false
def chkEs (cf : Cf) : Es → List Expr → Bool
  | .nil, es => match es with
    | [] => true
    | _ => false
  | .cons c cs, es => match es with
    | e :: es => chkE cf c e && chkEs cf cs es
    | _ => false
def chkT (cf : Cf) : T → Expr → Bool
  | .kin neg x c, e => match e with
    | .Compare a [op] [.Name y _] _ => decide (y = Str.ofString x) && decide (op = if neg = true then .NotIn else .In) && glB cf.sc y && !(y == ("__debug__" : Str)) && chkE cf c a
    | _ => false
  | .dtin neg j i, e => match e with
    | .Compare (.Name y _) [op] [.Name x _] _ => decide (op = if neg = true then .NotIn else .In) && slotB cf i x && slotB cf j y
    | _ => false
  | .ex c, e => (match e with
    | .Name _ _ => true
    | .Call _ _ _ _ => true
    | .Subscript _ _ _ => true
    | .BinOp _ _ _ _ => true
    | _ => false) && chkE cf c e
  | .cmp o as, e => match e with
    | .Compare a [op] [b] pos => match opArgs cf.sc o (.Compare a [op] [b] pos) with
      | some es => chkEs cf as es
      | none => false
    | _ => false
  | .chn o p a b c, e => match e with
    | .Compare a' [o', p'] [b', c'] _ => decide (cmpOf o = some o') && decide (cmpOf p = some p') && notSet c' && chkE cf a a' && chkE cf b b' && chkE cf c c'
    | _ => false
  | .notv t, e => match e with
    | .UnaryOp .Not a _ => chkT cf t a
    | _ => false
  | .andv ts, e => match e with
    | .BoolOp .And es _ => decide (es ≠ []) && chkTs cf ts es
    | _ => false
  | .orv ts, e => match e with
    | .BoolOp .Or es _ => decide (es ≠ []) && chkTs cf ts es
    | _ => false
def chkTs (cf : Cf) : Ts → List Expr → Bool
  | .nil, es => match es with
    | [] => true
    | _ => false
  | .cons c cs, es => match es with
    | e :: es => chkT cf c e && chkTs cf cs es
    | _ => false
def chkTo (cf : Cf) : To → List Expr → Bool
  | .no, es => match es with
    | [] => true
    | _ => false
  | .yes t, es => match es with
    | [e] => chkT cf t e
    | _ => false
def chkIt (cf : Cf) : It → Expr → Expr → Bool
  | .kk x, _, e => match e with
    | .Name y _ => decide (y = Str.ofString x) && glB cf.sc y && !(y == ("__debug__" : Str))
    | _ => false
  | .ex c, _, e => notSet e && chkE cf c e
  | .range as, _, e => match e with
    | .Call (.Name x _) es [] _ => decide (x = Str.ofString "range") && glB cf.sc x && noStars es && (decide (es.length = 1) || decide (es.length = 2)) && chkEs cf as es
    | _ => false
  | .enum a, tg, e => isTupE tg && match e with
    | .Call (.Name x _) [e] [] _ => decide (x = Str.ofString "enumerate") && glB cf.sc x && notStar e && chkE cf a e
    | _ => false
  | .zip as, tg, e => isTupE tg && match e with
    | .Call (.Name x _) [e, e2] [] _ => decide (x = Str.ofString "zip") && glB cf.sc x && noStars [e, e2] && chkEs cf as [e, e2]
    | _ => false
  | _, _, _ => false
end
end Nf
/-! soundness, expression by expression -/
namespace Nf
open PySem PySem.Spec L2

/-- what is wanted of an exception -/
def EXw (B : Base) (P : Prm) (N : Ent) (mg : Str → Option Value) : XK := fun cls d H' => ∃ c C, P.ex c ∧ mg (Str.ofString c) = some (.ref C) ∧ cls = .ref C ∧ d = none ∧ ∃ σ env S F, StOk B N σ env S H' F
/-- a constant of the module: a value, or a written dict -/
def GcOk (K : PySem.W.Frag) (w : World) (mg : Str → Option Value) (x : String) (d : D) : Prop := (isDic d = false ∧ ∃ v u, mg (Str.ofString x) = some u ∧ RelV v u ∧ ∀ S, Rep K S d v) ∨
  ∃ (kvs : List (Str × D)) (a : Addr) (es : Array DictEntry) (n : Nat), d = .dic (kvs.map fun q => .str (tl q.1)) (kvs.map (·.2)) ∧ mg (Str.ofString x) = some (.ref a) ∧ KDict K w a es n ∧ KeysAre es (kvs.map (·.1)) ∧ (∀ z, (∀ q ∈ kvs, q.1 ≠ z) → PySem.W.nsIn K a z = some none) ∧
    ∀ q ∈ kvs, ∃ u v, PySem.W.nsIn K a q.1 = some (some u) ∧ RelV v u ∧ ∀ S, Rep K S q.2 v
theorem dAt_kvs (s : List Nat) : ∀ kvs : List (Str × D), (dAt (.str s) (kvs.map fun q => .str (tl q.1)) (kvs.map (·.2)) = none → ∀ q ∈ kvs, q.1 ≠ ⟨s.toArray⟩) ∧
    ∀ d, dAt (.str s) (kvs.map fun q => .str (tl q.1)) (kvs.map (·.2)) = some d → ∃ q ∈ kvs, q.1 = ⟨s.toArray⟩ ∧ q.2 = d
  | [] => ⟨fun _ q h => (by cases h), fun d h => (by cases h)⟩
  | (t, e) :: kvs => by
    obtain ⟨i1, i2⟩ := dAt_kvs s kvs
    have c : dAt (.str s) (((t, e) :: kvs).map fun q => .str (tl q.1)) (((t, e) :: kvs).map (·.2)) = if tl t = s then some e else dAt (.str s) (kvs.map fun q => .str (tl q.1)) (kvs.map (·.2)) := rfl
    have tw : tl t = s ↔ t = ⟨s.toArray⟩ := ⟨fun h => by subst h; exact Str.ext' (by simp [tl]), fun h => by rw [h]⟩
    rw [c]
    by_cases h : tl t = s
    · rw [if_pos h]
      exact ⟨fun z => (by cases z), fun d z => ⟨(t, e), List.mem_cons_self, tw.mp h, by cases z; rfl⟩⟩
    · rw [if_neg h]
      refine ⟨fun z q hq => ?_, fun d z => ?_⟩
      · rcases List.mem_cons.mp hq with rfl | hq
        · exact fun z2 => h (tw.mpr z2)
        · exact i1 z q hq
      · obtain ⟨q, h1, h2, h3⟩ := i2 d z
        exact ⟨q, List.mem_cons_of_mem _ h1, h2, h3⟩
def spD (B : Base) (mg : Str → Option Value) (n : Nat) (dvs : List V) (con : Con) : Sp := fun us H Q E => ∃ vs, us = vs ++ dvs ∧ spCon B mg n con vs H Q E
/-- what is called keeps its promise at level k -/
def CalAt (P : Program) (w : World) (B : Base) (K : PySem.W.Frag) (mg : Str → Option Value) (base : Heap) (k : Nat) (con : Con) (f : String) : Prop := ∃ fa fd ps, mg (Str.ofString (nmOf f)) = some (.ref fa) ∧ PySem.W.keepIn K (.ref fa) = true ∧
  ((kwOf f = none ∧ ∃ n dvs ds, Binds K fd ps ds ∧ Vals dvs ds ∧ (∀ as k, con as k → as.length = n) ∧ FnOk P w K mg base (L2.CX P w) k fa fd ps (spD B mg n dvs con)) ∨
   (∃ kw g gV, kwOf f = some kw ∧ KBn K fd ps 3 [Str.ofString kw] g gV ∧ (∀ vs zs, gV vs zs = vs ++ zs) ∧ (∀ as k, con as k → as.length = 4) ∧ FnOk P w K mg base (L2.CX P w) k fa fd ps (spCon B mg 4 con)))
/-- a method; a class that is made -/
def MthAt (P : Program) (w : World) (B : Base) (K : PySem.W.Frag) (mg : Str → Option Value) (base : Heap) (k : Nat) (con : Con) (f : String) : Prop := ∃ cls m C g fd ps n, mtOf f = some (false, cls, m) ∧ mg (Str.ofString cls) = some (.ref C) ∧ Cls K C ∧ Meth K C (Str.ofString m) g ∧
  Str.ofString m ∉ attrNames ∧ Binds K fd ps [] ∧ (∀ as k, con as k → as.length = n) ∧ FnOk P w K mg base (L2.CX P w) k g fd ps (spCon B mg n con)
def MkAt (P : Program) (w : World) (B : Base) (K : PySem.W.Frag) (mg : Str → Option Value) (base : Heap) (k : Nat) (con : Con) (f : String) : Prop := ∃ cls m C g fd ps n j, mtOf f = some (true, cls, m) ∧ mg (Str.ofString cls) = some (.ref C) ∧ Mk K C g ∧ ClsF K C ∧
  Binds K fd ps [] ∧ (∀ as k, con as k → as.length = n) ∧ j + 1 = k ∧ FnOk P w K mg base (L2.CX P w) j g fd ps (spCon B mg n con)
def AnyAt (P : Program) (w : World) (B : Base) (K : PySem.W.Frag) (mg : Str → Option Value) (base : Heap) (k : Nat) (con : Con) (f : String) : Prop := (mtOf f = none ∧ CalAt P w B K mg base k con f) ∨ MthAt P w B K mg base k con f ∨ MkAt P w B K mg base k con f
theorem AnyAt.fn {P : Program} {w : World} {B : Base} {K : PySem.W.Frag} {mg : Str → Option Value} {base : Heap} {k : Nat} {con : Con} {f : String} (h : AnyAt P w B K mg base k con f) (n : mtOf f = none) : CalAt P w B K mg base k con f := by
  rcases h with h | ⟨_, _, _, _, _, _, _, e, _⟩ | ⟨_, _, _, _, _, _, _, _, e, _⟩
  · exact h.2
  · rw [n] at e; cases e
  · rw [n] at e; cases e
theorem AnyAt.mth {P : Program} {w : World} {B : Base} {K : PySem.W.Frag} {mg : Str → Option Value} {base : Heap} {k : Nat} {con : Con} {f cls m : String} (h : AnyAt P w B K mg base k con f) (n : mtOf f = some (false, cls, m)) : MthAt P w B K mg base k con f := by
  rcases h with h | h | ⟨_, _, _, _, _, _, _, _, e, _⟩
  · rw [n] at h; cases h.1
  · exact h
  · rw [n] at e; cases e
theorem AnyAt.mk {P : Program} {w : World} {B : Base} {K : PySem.W.Frag} {mg : Str → Option Value} {base : Heap} {k : Nat} {con : Con} {f cls m : String} (h : AnyAt P w B K mg base k con f) (n : mtOf f = some (true, cls, m)) : MkAt P w B K mg base k con f := by
  rcases h with h | ⟨_, _, _, _, _, _, _, e, _⟩ | h
  · rw [n] at h; cases h.1
  · rw [n] at e; cases e
  · exact h
structure GC (B : Base) (cf : Cf) (P : Prm) (N : Ent) (X : Cx) : Prop where
  g : GX B cf.N cf.sc X
  fb : ∀ x, cf.fb x = true → X.fn x = true
  refs : P.refs = N.refs
  fns : ∀ f ∈ cf.fs, ∃ k, Room k X.A ∧ AnyAt X.prog X.w B X.K X.mg X.base k (P.cl f) f
  bmg : B.mg = X.mg
  bpw : B.P = X.prog ∧ B.w = X.w
  gcs : ∀ x d, P.gc x = some d → GcOk B.K X.w X.mg x d
  pas : Passes (L2.CX X.prog X.w) X (EXw B P N X.mg)

def PostS (B : Base) (N : Ent) (σ : Sg) (S : Hp) (K : R → Ev → Prop) (Q : VK) : Prop :=
  ∀ r env' v S' H' F', K r env' → Same S S' → StOk B N σ env' S' H' F' → RelS B σ S' r v → Q v H'
def LSt (B : Base) (N : Ent) (W : WE) : TE := fun σ H Q => ∃ S env F K, StOk B N σ env S H F ∧ W env (fun r env1 => settle env1 r K) ∧ PostS B N σ S K Q
def tsOf (B : Base) (N : Ent) (P : Prm) : Es → List TE
  | .nil => []
  | .cons c cs => LSt B N (wpE P c) :: tsOf B N P cs
/-- tests -/
def LT (B : Base) (N : Ent) (W : Ev → (Bool → Ev → Prop) → Prop) : TT := fun σ H Q => ∃ S env F K, StOk B N σ env S H F ∧ W env K ∧ ∀ b env' S' H' F', K b env' → Same S S' → StOk B N σ env' S' H' F' → Q b H'

section
variable {B : Base} {cf : Cf} {P : Prm} {N : Ent} {X : Cx}
theorem PE.st {e : Expr} {W : WE} (h : PE X e (LE B N W)) : PE X e (LSt B N W) := PE.imp h fun σ H Q hw => by
  obtain ⟨S, env, F, K, st, w, p⟩ := hw
  refine ⟨S, env, F, _, st, w, fun r env' v S' H' F' fr k e st' rel => ?_⟩
  obtain ⟨r', S'', k', e', st'', rel'⟩ := settle_ok st' rel k
  exact p r' env' v S'' H' F' k' (e.trans e') st'' rel'
theorem nest_go : ∀ {cs : Es} {r : List V → Hp → VK → Prop} {σ : Sg} {env : Ev} {S H : Hp} {F : Nat → List Addr} {Q : VK} {K : List R → Ev → Prop}, StOk B N σ env S H F → wpEs P cs env K →
    (∀ rs env' vs S' H' F', K rs env' → Same S S' → StOk B N σ env' S' H' F' → RelSs B σ S' rs vs → r vs H' Q) → nest (tsOf B N P cs) r σ H Q
  | .nil, r, σ, env, S, H, F, Q, K, st, w, p => p [] env [] S H F w (Same.refl _) st rfl
  | .cons c cs, r, σ, env, S, H, F, Q, K, st, w, p => by
    have w' : wpE P c env fun r1 env1 => settle env1 r1 fun r1 env1 => wpEs P cs env1 fun rs env2 => K (r1 :: rs) env2 := w
    refine ⟨S, env, F, _, st, w', fun r1 env1 v S1 H1 F1 k e st1 rel => ?_⟩
    exact nest_go (r := fun xs H2 Q2 => r (v :: xs) H2 Q2) st1 k fun rs env2 vs S2 H2 F2 k2 e2 st2 rel2 => p (r1 :: rs) env2 (v :: vs) S2 H2 F2 k2 (e.trans e2) st2 ⟨v, vs, rfl, rel.mono e2, rel2⟩

theorem se_op {o : Op} {as : Es} {e : Expr} {es : List Expr} (g : GC B cf P N X) (h : opArgs cf.sc o e = some es) (hs : PEs X es (tsOf B N P as)) : PE X e (LE B N (wpE P (.op o as))) := by
  refine PE.imp (op_pe g.g h hs) fun σ H Q hw => ?_
  obtain ⟨S, env, F, K, st, w, p⟩ := hw
  have w' : wpEs P as env fun rs env1 => peeks env1 rs fun ds => osem o ds fun r => K r env1 := w
  refine nest_go st w' fun rs env' vs S' H' F' k e1 st' rel => ?_
  obtain ⟨ds, k2, hv⟩ := peeks_ok st' rel k
  rw [g.g.hK]
  exact op_ok h st' hv k2 (p.mono e1)
theorem se_var {i : Nat} {x : Str} {pos : Pos} (g : GC B cf P N X) (h : slotB cf i x = true) : PE X (.Name x pos) (LE B N (wpE P (.var i))) := by
  unfold slotB at h
  rw [Bool.and_eq_true, decide_eq_true_eq] at h
  have hN : X.N[i]? = some x := by rw [g.g.hN]; exact h.1
  have hv : Vis X.env.scope x := by
    have h2 := h.2
    unfold visB at h2
    unfold Vis
    rw [g.g.hsc]
    split at h2
    · exact .inl (by assumption)
    · exact .inr (.inl (by assumption))
    · exact .inr (.inr (by assumption))
    · cases h2
  obtain ⟨d1, d2⟩ := g.g.dbg x (List.mem_of_getElem? h.1)
  refine PE.imp (pe_var hN hv (beq_eq_false_iff_ne.mpr d1) (beq_eq_false_iff_ne.mpr d2)) fun σ H Q hw => ?_
  obtain ⟨S, env, F, K, st, w, p⟩ := hw
  simp only [wpE] at w
  split at w
  · rename_i d e
    obtain ⟨v, h1, h2⟩ := st.val i d e
    exact ⟨v, h1, p.giveV st w h2⟩
  · rename_i o e
    obtain ⟨a, h1, h2⟩ := st.own i o e
    exact ⟨.ref a, h1, p _ _ _ _ _ _ [] w (Same.refl _) st ⟨h1, rfl⟩⟩
  · exact w.elim
theorem se_cst {d : D} {e : Expr} (h : constB d e = true) : PE X e (LE B N (wpE P (.cst d))) := by
  unfold constB at h
  split at h
  · exact PE.imp pe_non fun σ H Q ⟨S, env, F, K, st, w, p⟩ => p.giveV (d := .non) st w rfl
  · cases eq_of_beq h
    exact PE.imp pe_bl fun σ H Q ⟨S, env, F, K, st, w, p⟩ => p.giveV (d := .bl _) st w rfl
  · cases of_decide_eq_true h
    exact PE.imp pe_int fun σ H Q ⟨S, env, F, K, st, w, p⟩ => p.giveV (d := .int _) st w rfl
  · cases of_decide_eq_true h
    exact PE.imp pe_str fun σ H Q ⟨S, env, F, K, st, w, p⟩ => p.giveV (d := .str _) st w rfl
  · cases h
theorem se_gl {x : String} {pos : Pos} (g : GC B cf P N X) (h : glB cf.sc (Str.ofString x) = true) (hd : (Str.ofString x == ("__debug__" : Str)) = false) : PE X (.Name (Str.ofString x) pos) (LE B N (wpE P (.gl x))) := by
  refine ⟨fun pins s σ H Q I hw => ?_⟩
  obtain ⟨S, env, F, K, st, w, p⟩ := hw
  simp only [wpE] at w
  obtain ⟨d, e, k⟩ := optW_get w
  split at k
  rotate_left
  · exact k.elim
  rename_i hnd
  rcases g.gcs x d e with ⟨_, v, u, h1, h2, h3⟩ | ⟨kvs, a, es, n, rfl, _⟩
  rotate_left
  · cases hnd
  exact (pe_glob (g.g.gl h) h1 h2 hd).run pins s σ H Q I (p.giveV st k (h3 S))

/-! methods of texts and dicts -/
theorem base0 {a : Expr} {m : Str} (h : notCall0 a = true) (env : PySem.Env) : attributeBase a m env (eval a env) = eval a env := by
  cases a <;> first
    | rfl
    | cases h
theorem no_stars {es : List Expr} (h : noStars es = true) (env : PySem.Env) : starEach es env = es.map fun e => (false, eval e env) := by
  induction es with
  | nil => rfl
  | cons e es ih =>
    unfold noStars at h
    rw [Bool.and_eq_true] at h
    rw [star_cons env h.1, ih h.2]
    rfl
theorem m2_of {a e f : Expr} {m : Str} {ap cp : Pos} (h : notCall0 a = true) (hn : noStars [e, f] = true) (hl : (ap.endLine == cp.line) = true) : M2 X a m ap e f cp := by
  have hs := no_stars hn X.env
  refine ⟨base0 h _, ?_, hl, ?_⟩
  · rw [hs]; rfl
  · rw [hs]; rfl
theorem mop_name {o : Op} {a : Expr} {es : List Expr} {e : Expr} (h : mopArgs o e = some (a, es)) : ∃ n k ap cp, mopName o = some (n, k) ∧ e = .Call (.Attribute a (Str.ofString n) ap) es [] cp ∧ (ap.endLine == cp.line) = true ∧ notCall0 a = true ∧ noStars es = true ∧ es.length = k := by
  unfold mopArgs at h
  split at h
  · split at h
    · split at h
      · rename_i e2
        cases h
        obtain ⟨h1, h2, h3, rfl, h5⟩ := e2
        exact ⟨_, _, _, _, (by assumption), rfl, h1, h2, h3, h5⟩
      · cases h
    · cases h
  · cases h
theorem peek_view {σ : Sg} {env : Ev} {S H : Hp} {F : Nat → List Addr} {r : R} {v : V} {K : D → Prop} (st : StOk B N σ env S H F) (rel : RelS B σ S r v) (p : peek env r K) : ∃ d, K d ∧ View B.K S H d v :=
  peek_ok st (rel.toR (N := N) (H := H) (F := F)) p
theorem toPyL_get : ∀ {xs : List D} {j : Nat}, (toPyL xs)[j]? = xs[j]?.map toPy
  | [], j => by simp [toPyL]
  | x :: xs, 0 => by simp [toPyL]
  | x :: xs, j + 1 => by simp only [toPyL, List.getElem?_cons_succ]; exact toPyL_get
theorem se_mop {o : Op} {a : E} {as : Es} {e a' : Expr} {es : List Expr} (g : GC B cf P N X) (h : mopArgs o e = some (a', es)) (ha : PE X a' (LE B N (wpE P a))) (hs : PEs X es (tsOf B N P as)) : PE X e (LE B N (wpE P (.mop o a as))) := by
  obtain ⟨n, k, ap, cp, hn, rfl, hl, hc, hst, hlen⟩ := mop_name h
  have hu := g.g.unit
  have ha' := PE.st ha
  -- the steps over data: the receiver's kind, then all
  have go : ∀ {σ : Sg} {H : Hp} {Q : VK} {kind : D → V → Hp → Prop} {fin : V → List V → Hp → VK → Prop}, (∀ {S H d v}, kindM o d = true → Same S H → View B.K S H d v → kind d v H) →
      (∀ {env : Ev} {S H : Hp} {F : Nat → List Addr} {K : R → Ev → Prop} {Q : VK} {ds v vs}, StOk B N σ env S H F → ViewL B.K S H ds (v :: vs) → (osem o ds fun r => K r env) → PostE B N σ S K Q → fin v vs H Q) →
      LE B N (wpE P (.mop o a as)) σ H Q → LSt B N (wpE P a) σ H fun x H1 => (∃ d, kind d x H1) ∧ nest (tsOf B N P as) (fun xs H2 Q2 => fin x xs H2 Q2) σ H1 Q := by
    intro σ H Q kind fin hk hf hw
    obtain ⟨S, env, F, K, st, w, p⟩ := hw
    have w' : wpE P a env fun r env1 => settle env1 r fun r env1 => peek env1 r fun d0 => match kindM o d0 with
        | true => wpEs P as env1 fun rs env2 => peeks env2 (r :: rs) fun ds => osem o ds fun r => K r env2
        | false => False := w
    refine ⟨S, env, F, _, st, w', fun r env1 v S1 H1 F1 k e1 st1 rel => ?_⟩
    obtain ⟨d, k1, hv⟩ := peek_view st1 rel k
    split at k1
    · rename_i kk
      refine ⟨⟨d, hk kk st1.sub hv⟩, nest_go st1 k1 fun rs env2 vs S2 H2 F2 k2 e2 st2 rel2 => ?_⟩
      obtain ⟨ds, k3, hv3⟩ := peeks_ok st2 (rs := r :: rs) (vs := v :: vs) ⟨v, vs, rfl, rel.mono e2, rel2⟩ k2
      exact hf st2 hv3 k3 (p.mono (e1.trans e2))
    · exact k1.elim
  cases o with
  | join =>
    cases hn
    obtain ⟨e1, rfl⟩ : ∃ e1, es = [e1] := by
      match es, hlen with
      | [e1], _ => exact ⟨e1, rfl⟩
    obtain ⟨t, ht, h1⟩ := hs.one
    have hst' := hst
    unfold noStars at hst'
    rw [Bool.and_eq_true] at hst'
    refine PE.imp (pe_join ha' h1 (star_cons _ hst'.1) (base0 hc _) hl) fun σ H Q hw => ?_
    have := go (kind := fun _ v _ => ∃ s, v = .str s) (fin := fun v vs H Q => ∃ (a : Str) (p : Addr) (ys : List Str), v = .str a ∧ vs = [.ref p] ∧ (SqL X.K H p (ys.map V.str) ∨ SqT X.K H p (ys.map V.str)) ∧ (ys.map (·.length)).sum + ys.length * a.length ≤ 16777216 ∧ Q (.str (PySem.Txt.join a ys)) H) (fun {S H d v} kk e hv => ?_) (fun {env S H F K Q ds v vs} st hv k p => ?_) hw
    · rw [ht] at this
      obtain ⟨S, env, F, K, st, w, q⟩ := this
      exact ⟨S, env, F, K, st, w, fun r env' v S' H' F' k e st' rel => by
        obtain ⟨⟨d, hd⟩, hh⟩ := q r env' v S' H' F' k e st' rel
        exact ⟨hd, hh⟩⟩
    · cases d <;> first
        | (cases kk; done)
        | (exact ⟨_, view_str hv⟩)
    · simp only [osem] at k
      split at k
      · obtain ⟨v1, w1, e1, h1, h2⟩ := viewL2 hv
        cases e1
        cases view_str h1
        obtain ⟨aa, xs, rfl, h3, h4⟩ := h2
        obtain ⟨ss, rfl, hz, kk⟩ := k
        rw [h4.strs] at h3
        refine ⟨_, aa, ss.map fun s => (⟨s.toArray⟩ : Str), rfl, rfl, .inl (.inl (.inl ?_)), ?_, ?_⟩
        · rw [List.map_map]; exact h3
        · rw [List.map_map]
          have e2 : (ss.map ((·.length) ∘ fun s => (⟨s.toArray⟩ : Str))) = ss.map (·.length) := List.map_congr_left fun s _ => str_len s
          rw [e2]
          have e3 : (⟨([] : List Nat).toArray⟩ : Str).length = 0 := rfl
          rw [e3, Nat.mul_zero]
          omega
        · have e4 : PySem.Txt.join ⟨([] : List Nat).toArray⟩ (ss.map fun s => (⟨s.toArray⟩ : Str)) = ⟨ss.flatten.toArray⟩ := by
            rw [TL.join_eq]
            have main : ∀ l : List (List Nat), (Str.join ⟨([] : List Nat).toArray⟩ (l.map fun s => (⟨s.toArray⟩ : Str))) = ⟨l.flatten.toArray⟩ := by
              intro l
              induction l with
              | nil => rfl
              | cons s l ih =>
                cases l with
                | nil =>
                  show (⟨s.toArray⟩ : Str) = _
                  simp
                | cons t l =>
                  show (⟨s.toArray⟩ : Str) ++ ⟨([] : List Nat).toArray⟩ ++ Str.join _ ((t :: l).map fun s => (⟨s.toArray⟩ : Str)) = _
                  rw [ih, str_app, str_app]
                  simp
            exact main ss
          rw [e4]
          exact p.giveV st kk rfl
      · exact k.elim
  | find2 =>
    cases hn
    obtain ⟨e1, e2, rfl⟩ : ∃ e1 e2, es = [e1, e2] := by
      match es, hlen with
      | [e1, e2], _ => exact ⟨e1, e2, rfl⟩
    have hst' := hst
    unfold noStars at hst'
    rw [Bool.and_eq_true] at hst'
    have few : ((backTo cp (starEach [e1, e2] X.env)).all (fun x => !x.1) && (backToKw cp (keywordEach [] X.env)).all (fun x => x.1.isSome)
      && decide (([e1, e2] : List Expr).length + ([] : List Keyword).length + (if ([] : List Keyword).isEmpty then 0 else 1) < 30)) = true := by
      rw [no_stars hst X.env]; rfl
    refine PE.imp (pe_bm PySem.F.plainAttrs_str PySem.F.slot_str_find PySem.F.type_str_find mt_find3 ha' (pa_all hs hst) (base0 hc _) few hl (star_cons _ hst'.1) (star_any _ _ hst'.2)) fun σ H Q hw => ?_
    have := go (kind := fun _ v _ => ∃ s, v = .str s) (fin := fun v vs H Q => ∃ (a b : Str) (i : Int), v = .str a ∧ vs = [.str b, .int i] ∧ Q (.int (PySem.Txt.find3 a b i)) H) (fun {S H d v} kk e hv => ?_) (fun {env S H F K Q ds v vs} st hv k p => ?_) hw
    · obtain ⟨S, env, F, K, st, w, q⟩ := this
      refine ⟨S, env, F, K, st, w, fun r env' v S' H' F' k e st' rel => ?_⟩
      obtain ⟨⟨d, s, rfl⟩, hh⟩ := q r env' v S' H' F' k e st' rel
      rw [nest_eq] at hh
      exact ⟨rfl, hh⟩
    · cases d <;> first
        | (cases kk; done)
        | (exact ⟨_, view_str hv⟩)
    · simp only [osem] at k
      split at k
      · obtain ⟨v1, w1, u1, e1, h1, h2, h3⟩ := viewL3 hv
        cases e1
        cases view_str h1; cases view_str h2; cases view_int h3
        exact ⟨_, _, _, rfl, rfl, p.giveV (d := .int _) st k rfl⟩
      · exact k.elim
  | scount =>
    cases hn
    obtain ⟨e1, rfl⟩ : ∃ e1, es = [e1] := by
      match es, hlen with
      | [e1], _ => exact ⟨e1, rfl⟩
    have hst' := hst
    unfold noStars at hst'
    rw [Bool.and_eq_true] at hst'
    have few : ((backTo cp (starEach [e1] X.env)).all (fun x => !x.1) && (backToKw cp (keywordEach [] X.env)).all (fun x => x.1.isSome)
      && decide (([e1] : List Expr).length + ([] : List Keyword).length + (if ([] : List Keyword).isEmpty then 0 else 1) < 30)) = true := by
      rw [no_stars hst X.env]; rfl
    refine PE.imp (pe_bm PySem.F.plainAttrs_str PySem.F.slot_str_count PySem.F.type_str_count mt_count ha' (pa_all hs hst) (base0 hc _) few hl (star_cons _ hst'.1) (star_any _ _ hst'.2)) fun σ H Q hw => ?_
    have := go (kind := fun _ v _ => ∃ s, v = .str s) (fin := fun v vs H Q => ∃ (a b : Str), v = .str a ∧ vs = [.str b] ∧ Q (.int (PySem.Txt.count a b)) H) (fun {S H d v} kk e hv => ?_) (fun {env S H F K Q ds v vs} st hv k p => ?_) hw
    · obtain ⟨S, env, F, K, st, w, q⟩ := this
      refine ⟨S, env, F, K, st, w, fun r env' v S' H' F' k e st' rel => ?_⟩
      obtain ⟨⟨d, s, rfl⟩, hh⟩ := q r env' v S' H' F' k e st' rel
      rw [nest_eq] at hh
      exact ⟨rfl, hh⟩
    · cases d <;> first
        | (cases kk; done)
        | (exact ⟨_, view_str hv⟩)
    · simp only [osem] at k
      split at k
      · obtain ⟨v1, w1, e1, h1, h2⟩ := viewL2 hv
        cases e1
        cases view_str h1; cases view_str h2
        exact ⟨_, _, rfl, rfl, p.giveV (d := .int _) st k rfl⟩
      · exact k.elim
  | sindex =>
    cases hn
    obtain ⟨e1, rfl⟩ : ∃ e1, es = [e1] := by
      match es, hlen with
      | [e1], _ => exact ⟨e1, rfl⟩
    have hst' := hst
    unfold noStars at hst'
    rw [Bool.and_eq_true] at hst'
    have few : ((backTo cp (starEach [e1] X.env)).all (fun x => !x.1) && (backToKw cp (keywordEach [] X.env)).all (fun x => x.1.isSome)
      && decide (([e1] : List Expr).length + ([] : List Keyword).length + (if ([] : List Keyword).isEmpty then 0 else 1) < 30)) = true := by
      rw [no_stars hst X.env]; rfl
    refine PE.imp (pe_bm PySem.F.plainAttrs_str PySem.F.slot_str_index PySem.F.type_str_index mt_sindex ha' (pa_all hs hst) (base0 hc _) few hl (star_cons _ hst'.1) (star_any _ _ hst'.2)) fun σ H Q hw => ?_
    have := go (kind := fun _ v _ => ∃ s, v = .str s) (fin := fun v vs H Q => ∃ (a b : Str) (i : Nat) (rest : List Nat), v = .str a ∧ vs = [.str b] ∧ Builtin.Str.occurrences a b 0 a.length 1 = i :: rest ∧ Q (.int (i : Nat)) H) (fun {S H d v} kk e hv => ?_) (fun {env S H F K Q ds v vs} st hv k p => ?_) hw
    · obtain ⟨S, env, F, K, st, w, q⟩ := this
      refine ⟨S, env, F, K, st, w, fun r env' v S' H' F' k e st' rel => ?_⟩
      obtain ⟨⟨d, s, rfl⟩, hh⟩ := q r env' v S' H' F' k e st' rel
      rw [nest_eq] at hh
      exact ⟨rfl, hh⟩
    · cases d <;> first
        | (cases kk; done)
        | (exact ⟨_, view_str hv⟩)
    · simp only [osem] at k
      split at k
      · obtain ⟨v1, w1, e1, h1, h2⟩ := viewL2 hv
        cases e1
        cases view_str h1; cases view_str h2
        obtain ⟨i, rest, ho, k⟩ := k
        exact ⟨_, _, i, rest, rfl, rfl, by rw [str_len]; exact ho, p.giveV (d := .int _) st k rfl⟩
      · exact k.elim
  | lindex =>
    cases hn
    obtain ⟨e1, rfl⟩ : ∃ e1, es = [e1] := by
      match es, hlen with
      | [e1], _ => exact ⟨e1, rfl⟩
    have hst' := hst
    unfold noStars at hst'
    rw [Bool.and_eq_true] at hst'
    have few : ((backTo cp (starEach [e1] X.env)).all (fun x => !x.1) && (backToKw cp (keywordEach [] X.env)).all (fun x => x.1.isSome)
      && decide (([e1] : List Expr).length + ([] : List Keyword).length + (if ([] : List Keyword).isEmpty then 0 else 1) < 30)) = true := by
      rw [no_stars hst X.env]; rfl
    refine PE.imp (pe_bm PySem.F.plainAttrs_list PySem.F.slot_list_index PySem.F.type_list_index (mt_indexD (by omega)) ha' (pa_all hs hst) (base0 hc _) few hl (star_cons _ hst'.1) (star_any _ _ hst'.2)) fun σ H Q hw => ?_
    have := go (kind := fun _ v H => ∃ a xs, v = .ref a ∧ H a = some (.lst xs)) (fin := fun v vs H Q => rIndexD X.K v vs H Q) (fun {S H d v} kk e hv => ?_) (fun {env S H F K Q ds v vs} st hv k p => ?_) hw
    · obtain ⟨S, env, F, K, st, w, q⟩ := this
      refine ⟨S, env, F, K, st, w, fun r env' v S' H' F' k e st' rel => ?_⟩
      obtain ⟨⟨d, a, xs, rfl, hd⟩, hh⟩ := q r env' v S' H' F' k e st' rel
      rw [nest_eq] at hh
      exact ⟨.inl ⟨rfl, xs, SqL.of hd⟩, hh⟩
    · cases d <;> first
        | (cases kk; done)
        | (obtain ⟨a, xs, rfl, h3, _⟩ := hv; exact ⟨a, xs, rfl, h3⟩)
    · simp only [osem] at k
      split at k
      · obtain ⟨v1, w1, e1, h1, h2⟩ := viewL2 hv
        cases e1
        obtain ⟨c1, c2, j, ee, hj, hd, hno, k⟩ := k
        obtain ⟨a, xs, rfl, h3, h4⟩ := id h1
        rw [g.g.hK]
        refine ⟨a, w1, _, _, j, toPy ee, rfl, rfl, dp_view st.sub c1 h1, dp_view st.sub c2 h2, c1, c2, ?_, hd, fun m z' hm hz => ?_, p.giveV (d := .int _) st k rfl⟩
        · rw [toPyL_get, hj]; rfl
        · rw [toPyL_get] at hz
          obtain ⟨z, e1, e2⟩ := Option.map_eq_some_iff.mp hz
          rw [← e2]
          exact hno m z hm e1
      · exact k.elim
  | get2 =>
    cases hn
    obtain ⟨e1, e2, rfl⟩ : ∃ e1 e2, es = [e1, e2] := by
      match es, hlen with
      | [e1, e2], _ => exact ⟨e1, e2, rfl⟩
    obtain ⟨t, u, ht, h1, h2⟩ := hs.two
    refine PE.imp (pe_dget2 (by omega) ha' h1 h2 (m2_of hc hst hl)) fun σ H Q hw => ?_
    have := go (kind := fun _ v H => ∃ a, v = .ref a ∧ IsD H a) (fin := fun v vs H Q => ∃ (a : Addr) (y z : V) (o : Option V), v = .ref a ∧ vs = [y, z] ∧ DGet H a y o ∧ Q (o.getD z) H) (fun {S H d v} kk e hv => ?_) (fun {env S H F K Q ds v vs} st hv k p => ?_) hw
    · obtain ⟨S, env, F, K, st, w, q⟩ := this
      refine ⟨S, env, F, K, st, w, fun r env' v S' H' F' k e st' rel => ?_⟩
      obtain ⟨⟨d, a, rfl, hd⟩, hh⟩ := q r env' v S' H' F' k e st' rel
      rw [ht] at hh
      refine ⟨a, rfl, hd, ?_⟩
      have hh' : t σ H' fun y H2 => u σ H2 fun z H3 => ∃ (a' : Addr) (y' z' : V) (o : Option V), V.ref a = .ref a' ∧ [y, z] = [y', z'] ∧ DGet H3 a' y' o ∧ Q (o.getD z') H3 := hh
      refine cast ?_ hh'
      congr 1
      funext y H2
      congr 1
      funext z H3
      refine propext ⟨fun ⟨a', y', z', o, e1, e2, g, q⟩ => ?_, fun ⟨o, g, q⟩ => ⟨a, y, z, o, rfl, rfl, g, q⟩⟩
      cases e1; cases e2
      exact ⟨o, g, q⟩
    · cases d <;> first
        | (cases kk; done)
        | (obtain ⟨a, kvs, rfl, h3, _⟩ := hv; exact ⟨a, rfl, .inl ⟨kvs, h3⟩⟩)
    · simp only [osem] at k
      split at k
      · obtain ⟨v1, w1, u1, e1, h1, h2, h3⟩ := viewL3 hv
        cases e1
        obtain ⟨q, hq⟩ := Option.isSome_iff_exists.mp k.1
        obtain ⟨a, kvs, rfl, h4, h5, h6⟩ := view_dic h1
        obtain ⟨ov, g1, g2, g3⟩ := dic_look hq h5 h6 h4
        cases view_key hq h2
        cases view_int h3
        refine ⟨a, _, _, ov, rfl, rfl, g1, ?_⟩
        have k2 := k.2
        cases e : dAt _ _ _ with
        | none =>
          rw [e] at k2
          rw [g2 e]
          exact p.giveV (d := .int _) st k2 rfl
        | some d =>
          rw [e] at k2
          obtain ⟨w, g4, g5⟩ := g3 d e
          rw [g4]
          exact p.giveV st k2 g5
      · exact k.elim
  | _ => cases hn
end
end Nf
/-! soundness: calls, displays, and or not, tests -/
namespace Nf
open PySem PySem.Spec L2
section
variable {B : Base} {cf : Cf} {P : Prm} {N : Ent} {X : Cx}
theorem setOws_get : ∀ {is : List Nat} {os : List Own} {env : Ev} {K : Ev → Prop}, setOws is os env K → ∃ env', K env'
  | [], [], env, K, h => ⟨env, h⟩
  | i :: is, o :: os, env, K, h => setOws_get (is := is) (os := os) h
  | [], _ :: _, _, _, h => h.elim
  | _ :: _, [], _, _, h => h.elim
/-- the call over data gives the promise's wish -/
theorem call_go {f : String} {as : Es} {rf bs : List Nat} {n : Nat} {mg : Str → Option Value} {σ : Sg} {H : Hp} {Q : VK} (hr : P.refs = N.refs) (hlen : ∀ as K, P.cl f as K → as.length = n)
    (hw : LE B N (wpE P (.call f as rf bs)) σ H Q) : nest (tsOf B N P as) (fun vs H1 Q => spCon B mg n (P.cl f) (vs ++ []) H1 Q (EXw B P N mg)) σ H Q := by
  obtain ⟨S, env, F, K, st, w, p⟩ := hw
  have w' : wpEs P as env fun rs env1 => keepArgs P.refs rf bs 0 env1 rs fun rs env2 => match nodupN (lentOf rf 0 rs), apartN (lentOf rf 0 rs) (seenOf rf 0 rs) with
    | true, true => argsOf rf env2 0 rs fun sl => P.cl f sl (outW P env2 (lentOf rf 0 rs) bs K)
    | _, _ => False := w
  refine nest_go st w' fun rs env1 vs S1 H1 F1 k1 e1 st1 rel1 => ?_
  rw [hr] at k1
  obtain ⟨rs2, env2, S2, F2, k2, e2, st2, rel2, hseen⟩ := keepArgs_ok st1 rel1 k1
  split at k2
  · rename_i nd ap
    obtain ⟨sl, k3, args⟩ := argsOf_ok st2 rel2 k2
    obtain ⟨l1, l2, get⟩ := args.get
    have hobj : ∀ i ∈ seenOf rf 0 rs2, ∀ o, env2[i]? = some (.ow o) → o.data ≠ none := fun i hi c s => by
      -- the slot stands at a place that is not lent
      have main : ∀ (rs : List R) (p : Nat), i ∈ seenOf rf p rs → ∃ q, p ≤ q ∧ rs[q - p]? = some (.l i) ∧ memN q rf = false := by
        intro rs
        induction rs with
        | nil => intro p h; cases h
        | cons r rs ih =>
          intro p h
          have up : i ∈ seenOf rf (p + 1) rs → ∃ q, p ≤ q ∧ (r :: rs)[q - p]? = some (.l i) ∧ memN q rf = false := fun h => by
            obtain ⟨q, h1, h2, h3⟩ := ih (p + 1) h
            refine ⟨q, by omega, ?_, h3⟩
            rw [show q - p = (q - (p + 1)) + 1 by omega]
            simpa using h2
          unfold seenOf at h
          split at h
          · rename_i j e3
            rcases List.mem_cons.mp h with rfl | h
            · exact ⟨p, Nat.le_refl _, by simp, e3⟩
            · exact up h
          · exact up h
      obtain ⟨q, _, h2, h3⟩ := main rs2 0 hi
      rw [Nat.sub_zero] at h2
      have hq : q < sl.length := by rw [l1]; exact (List.getElem?_eq_some_iff.mp h2).1
      obtain ⟨r, v, g1, g2, g3⟩ := get q sl[q] (List.getElem?_eq_getElem hq)
      rw [h2] at g1; cases g1
      rcases g3 with ⟨hm, _⟩ | ⟨_, ho, _⟩
      · rw [Nat.zero_add, h3] at hm; cases hm
      · exact ho i rfl c s
    rw [List.append_nil]
    refine ⟨by rw [l2, ← l1]; exact hlen _ _ k3, _, sl, _, _, by rw [l1, l2], call_enter st2 args nd ap, k3, ?_, ?_⟩
    · intro r outs σ' env' S' H' F' fr v ko st' ho rel hnl
      have ko' : setOws (lentOf rf 0 rs2) outs env2 fun env3 => outK bs outs K env3 r := ko
      -- what the borrowing asks
      have him : (seenA env2 F2 (seenOf rf 0 rs2) = [] ∨ outs.all immO = true) ∧ (seenA env2 F2 (seenOf rf 0 rs2) = [] ∨ immR r = true) := by
        cases bs with
        | nil =>
          have : seenA env2 F2 (seenOf rf 0 rs2) = [] := by rw [hseen rfl]; rfl
          exact ⟨.inl this, .inl this⟩
        | cons b bs =>
          obtain ⟨env3, k4⟩ := setOws_get ko'
          cases r with
          | l i => exact k4.elim
          | v d => exact ⟨.inr k4.2.1, .inr k4.1⟩
          | t o => exact ⟨.inr k4.2.1, .inr k4.1⟩
      obtain ⟨env3, S3, F3, k4, e3, st3, hrel⟩ := call_after st2 args nd ap st' ho him.1 hobj ko'
      have rel3 := hrel r v fr rel hnl him.2
      have k5 : K r env3 := by
        cases r with
        | l i => exact k4.elim
        | v d =>
          cases bs with
          | nil => exact k4
          | cons b bs => exact k4.2.2
        | t o =>
          cases bs with
          | nil => exact k4
          | cons b bs => exact k4.2.2
      exact p r env3 v S3 H' F3 fr k5 (e1.trans (e2.trans e3)) st3 rel3
    · intro c σ' env' S' H' F' C ko st' hC
      have ko' : match lentOf rf 0 rs2 with
          | [] => P.ex c
          | _ => False := ko
      cases hl : lentOf rf 0 rs2 with
      | cons i is => rw [hl] at ko'; exact ko'.elim
      | nil =>
        rw [hl] at ko'
        have hrefs : refsOf 0 sl = [] := List.eq_nil_iff_forall_not_mem.mpr fun q hq => by
          obtain ⟨_, o, e4⟩ := refsOf_mem.mp hq
          rw [Nat.sub_zero] at e4
          obtain ⟨r, v, g1, g2, g3⟩ := get q _ e4
          rcases g3 with ⟨hm, i, o', e5, _⟩ | ⟨_, _, d, z, _⟩
          · have := lentOf_mem (p := 0) (Nat.zero_le _) (by rw [Nat.sub_zero, g1, e5]) (by rw [Nat.zero_add] at hm; exact hm)
            rw [hl] at this; cases this
          · cases z
        obtain ⟨env3, S3, F3, _, _, st3, _⟩ := call_after (outs := []) (K := fun _ => True) st2 args nd ap st' (by rw [hrefs]; rfl) (.inr rfl) hobj (by rw [hl]; exact True.intro)
        exact ⟨c, C, ko', hC, rfl, rfl, σ, env3, S3, F3, st3⟩
  · exact k2.elim
theorem se_call {f : String} {as : Es} {rf bs : List Nat} {es : List Expr} {p pos : Pos} (g : GC B cf P N X) (hg : glB cf.sc (Str.ofString (nmOf f)) = true) (hd : (Str.ofString (nmOf f) == ("__debug__" : Str)) = false) (hn : noStars es = true) (hfs : f ∈ cf.fs) (hmt : mtOf f = none) (hkw : kwOf f = none) (hs : PEs X es (tsOf B N P as)) :
    PE X (.Call (.Name (Str.ofString (nmOf f)) p) es [] pos) (LE B N (wpE P (.call f as rf bs))) := by
  refine ⟨fun pins s σ H Q I hw => ?_⟩
  obtain ⟨k, hr, hany⟩ := g.fns f hfs
  obtain ⟨fa, fd, ps, hm, hk, h⟩ := hany.fn hmt
  rcases h with ⟨_, n, dvs, ds, hb, hv, hlen, F⟩ | ⟨kw, _, _, h, _⟩
  · have hw' := call_go (mg := X.mg) (n := n) g.refs hlen hw
    rw [nest_eq] at hw'
    have e : ∀ vs H1 Q, spCon B X.mg n (P.cl f) (vs ++ []) H1 Q (EXw B P N X.mg) = spD B X.mg n dvs (P.cl f) (vs ++ dvs) H1 Q (EXw B P N X.mg) := fun vs H1 Q => propext ⟨fun h => ⟨vs, rfl, by rw [List.append_nil] at h; exact h⟩, fun ⟨vs', e1, h⟩ => by
      have := List.append_cancel_right e1
      subst this
      rw [List.append_nil]; exact h⟩
    simp only [e] at hw'
    cases es with
    | nil =>
      have ht : tsOf B N P as = [] := hs
      rw [ht] at hw'
      exact (pe_call0 F hr (g.g.gl hg) hm hk hb hv g.pas hd).run pins s σ H Q I hw'
    | cons e es =>
      have hn' := hn
      unfold noStars at hn'
      rw [Bool.and_eq_true] at hn'
      exact (pe_call F hr (g.g.gl hg) hm hk hb hv g.pas (pa_all hs hn) hd (star_cons _ hn'.1) (star_any _ _ hn'.2)).run pins s σ H Q I hw'
  · rw [hkw] at h; cases h
theorem pes_four {a b c d : Expr} {ts : List TE} (h : PEs X [a, b, c, d] ts) : ∃ t1 t2 t3 t4, ts = [t1, t2, t3, t4] ∧ PEs X [a, b, c] [t1, t2, t3] ∧ PE X d t4 := by
  obtain ⟨t1, r1, rfl, h1, t2, r2, rfl, h2, t3, r3, rfl, h3, t4, r4, rfl, h4, h5⟩ := h
  cases (show r4 = [] from h5)
  exact ⟨t1, t2, t3, t4, rfl, ⟨t1, _, rfl, h1, t2, _, rfl, h2, t3, _, rfl, h3, rfl⟩, h4⟩
theorem se_callK {f kw : String} {as : Es} {rf bs : List Nat} {es : List Expr} {v : Expr} {p pos kp : Pos} (g : GC B cf P N X) (hg : glB cf.sc (Str.ofString (nmOf f)) = true) (hd : (Str.ofString (nmOf f) == ("__debug__" : Str)) = false) (hn : noStars es = true) (hfs : f ∈ cf.fs) (hmt : mtOf f = none) (hkw : kwOf f = some kw) (hl : es.length = 3)
    (hs : PEs X (es ++ [v]) (tsOf B N P as)) : PE X (.Call (.Name (Str.ofString (nmOf f)) p) es [⟨some (Str.ofString kw), v, kp⟩] pos) (LE B N (wpE P (.call f as rf bs))) := by
  refine ⟨fun pins s σ H Q I hw => ?_⟩
  obtain ⟨k, hr, hany⟩ := g.fns f hfs
  obtain ⟨fa, fd, ps, hm, hk, h⟩ := hany.fn hmt
  rcases h with ⟨h, _⟩ | ⟨kw', gg, gV, h, hb, hgV, hlen, F⟩
  · rw [hkw] at h; cases h
  · rw [hkw] at h; cases h
    have hw' := call_go (mg := X.mg) (n := 4) g.refs hlen hw
    match es, hl with
    | [a, b, c], _ =>
      obtain ⟨t1, t2, t3, t4, ht, q1, q2⟩ := pes_four hs
      rw [ht] at hw'
      have hn' := hn
      unfold noStars at hn'
      rw [Bool.and_eq_true] at hn'
      refine (pe_callN (pos := pos) (p := p) F hr (g.g.gl hg) hm hk hb g.pas (pa_all q1 hn) (pk_cons q2 pk_nil) rfl rfl hd (star_cons _ hn'.1) ?_).run pins s σ H Q I ?_
      · rw [star_any _ _ hn]
        rfl
      · refine cast ?_ hw'
        show (t1 σ H fun x1 H1 => t2 σ H1 fun x2 H2 => t3 σ H2 fun x3 H3 => t4 σ H3 fun x4 H4 => spCon B X.mg 4 (P.cl f) ([x1, x2, x3, x4] ++ []) H4 Q (EXw B P N X.mg)) = (t1 σ H fun x1 H1 => t2 σ H1 fun x2 H2 => t3 σ H2 fun x3 H3 => t4 σ H3 fun x4 H4 => ([x1, x2, x3].length = 3 ∧ [x4].length = 1 ∧ spCon B X.mg 4 (P.cl f) (gV [x1, x2, x3] [x4]) H4 Q (EXw B P N X.mg)))
        congr 1; funext x1 H1; congr 1; funext x2 H2; congr 1; funext x3 H3; congr 1; funext x4 H4
        rw [hgV]
        exact propext ⟨fun h => ⟨rfl, rfl, h⟩, fun h => h.2.2⟩
end
end Nf
/-! soundness: displays, and or not, if-else, chains, pop; tests -/
namespace Nf
open PySem PySem.Spec L2
section
variable {B : Base} {cf : Cf} {P : Prm} {N : Ent} {X : Cx}
theorem tsOf_len : ∀ {as : Es} {es : List Expr}, PEs X es (tsOf B N P as) → noStars es = true → True := fun _ _ => trivial
theorem RelSs.len {σ : Sg} {S : Hp} : ∀ {rs : List R} {vs : List V}, RelSs B σ S rs vs → vs.length = rs.length
  | [], vs, h => by cases (show vs = [] from h); rfl
  | r :: rs, vs, ⟨v, w, e, _, h⟩ => by subst e; simp [h.len]
theorem nest_goL : ∀ {cs : Es} {es : List Expr} {r : List V → Hp → VK → Prop} {σ : Sg} {env : Ev} {S H : Hp} {F : Nat → List Addr} {Q : VK} {K : List R → Ev → Prop}, PEs X es (tsOf B N P cs) → StOk B N σ env S H F → wpEs P cs env K →
    (∀ rs env' vs S' H' F', K rs env' → Same S S' → StOk B N σ env' S' H' F' → RelSs B σ S' rs vs → vs.length = es.length → r vs H' Q) → nest (tsOf B N P cs) r σ H Q
  | .nil, es, r, σ, env, S, H, F, Q, K, he, st, w, p => p [] env [] S H F w (Same.refl _) st rfl (by
      cases es with
      | nil => rfl
      | cons e es => obtain ⟨_, _, h, _⟩ := he; cases h)
  | .cons c cs, es, r, σ, env, S, H, F, Q, K, he, st, w, p => by
    cases es with
    | nil => cases (show tsOf B N P (.cons c cs) = [] from he)
    | cons e es =>
      obtain ⟨t, ts, h1, h2, h3⟩ := he
      have h1' : LSt B N (wpE P c) :: tsOf B N P cs = t :: ts := h1
      injection h1' with h4 h5
      subst h5
      have w' : wpE P c env fun r1 env1 => settle env1 r1 fun r1 env1 => wpEs P cs env1 fun rs env2 => K (r1 :: rs) env2 := w
      refine ⟨S, env, F, _, st, w', fun r1 env1 v S1 H1 F1 k e st1 rel => ?_⟩
      exact nest_goL (es := es) (r := fun xs H2 Q2 => r (v :: xs) H2 Q2) h3 st1 k fun rs env2 vs S2 H2 F2 k2 e2 st2 rel2 hl => p (r1 :: rs) env2 (v :: vs) S2 H2 F2 k2 (e.trans e2) st2 ⟨v, vs, rfl, rel.mono e2, rel2⟩ (by simp [hl])
theorem se_lst {as : Es} {es : List Expr} {pos : Pos} (g : GC B cf P N X) (hn : noStars es = true) (hl : es.length ≤ 1000) (hs : PEs X es (tsOf B N P as)) : PE X (.List es pos) (LE B N (wpE P (.lst as))) := by
  refine PE.imp (pe_lst (pa_all hs hn)) fun σ H Q hw => ?_
  obtain ⟨S, env, F, K, st, w, p⟩ := hw
  have w' : wpEs P as env fun rs env1 => retains P.refs env1 rs fun ds env2 => K (.t (.lst ds)) env2 := w
  rw [g.refs] at w'
  show tLst (tas (tsOf B N P as)) σ H Q
  have := nest_goL (Q := Q) (r := fun xs H1 Q => xs.length ≤ sizeLine ∧ ∀ p, H1 p = none → Q (.ref p) (upd H1 p (.lst xs))) hs st w' fun rs env1 vs S1 H1 F1 k e1 st1 rel1 hlen => ?_
  · rw [nest_eq] at this; exact this
  · obtain ⟨ds, env2, S2, F2, k2, e2, st2, rel2⟩ := retains_ok st1 rel1 k
    exact ⟨by rw [hlen, sizeLine_eq]; omega, fun a ha => (p.mono (e1.trans e2)).newLst st2 k2 rel2 ha⟩
theorem se_tup {as : Es} {es : List Expr} {x1} {pos : Pos} (g : GC B cf P N X) (hn : noStars es = true) (hl : es.length ≤ 1000) (hs : PEs X es (tsOf B N P as)) : PE X (.Tuple es x1 pos) (LE B N (wpE P (.tup as))) := by
  refine PE.imp (pe_tup (pa_all hs hn)) fun σ H Q hw => ?_
  obtain ⟨S, env, F, K, st, w, p⟩ := hw
  have w' : wpEs P as env fun rs env1 => retains P.refs env1 rs fun ds env2 => K (.v (.tup ds)) env2 := w
  rw [g.refs] at w'
  have := nest_goL (Q := Q) (r := fun xs H1 Q => xs.length ≤ sizeLine ∧ ∀ p, H1 p = none → Q (.ref p) (upd H1 p (.tup xs))) hs st w' fun rs env1 vs S1 H1 F1 k e1 st1 rel1 hlen => ?_
  · rw [nest_eq] at this; exact this
  · obtain ⟨ds, env2, S2, F2, k2, e2, st2, rel2⟩ := retains_ok st1 rel1 k
    exact ⟨by rw [hlen, sizeLine_eq]; omega, fun a ha => (p.mono (e1.trans e2)).newTup st2 k2 rel2 ha⟩

theorem PostE.toS {σ : Sg} {S : Hp} {K : R → Ev → Prop} {Q : VK} (p : PostE B N σ S K Q) : PostS B N σ S K Q :=
  fun r env' v S' H' F' k e st rel => p r env' v S' H' F' [] k e st rel.toR
theorem view_blV {σ : Sg} {env : Ev} {S H : Hp} {F : Nat → List Addr} {r : R} {v : V} {K : D → Prop} (st : StOk B N σ env S H F) (rel : RelS B σ S r v) (p : peek env r K) : ∃ d, K d ∧ View B.K S H d v := peek_view st rel p

/-! and, or, not -/
theorem se_and {pos : Pos} : ∀ {as : Es} {es : List Expr}, PEs X es (tsOf B N P as) → PE X (.BoolOp .And es pos) (LE B N (wpAnd P as))
  | .nil, es, _ => ⟨fun _ _ _ _ _ _ ⟨_, _, _, _, _, w, _⟩ => w.elim⟩
  | .cons c .nil, es, h => by
    cases es with
    | nil => cases (show tsOf B N P (.cons c .nil) = [] from h)
    | cons e es =>
      obtain ⟨t, ts, h1, h2, h3⟩ := h
      have h1' : LSt B N (wpE P c) :: [] = t :: ts := h1
      injection h1' with h4 h5
      subst h4; subst h5
      cases es with
      | cons _ _ => obtain ⟨_, _, h6, _⟩ := h3; cases h6
      | nil => exact PE.imp (pe_one h2) fun σ H Q ⟨S, env, F, K, st, w, p⟩ => ⟨S, env, F, K, st, w, p.toS⟩
  | .cons c (.cons d ds), es, h => by
    cases es with
    | nil => cases (show tsOf B N P (.cons c (.cons d ds)) = [] from h)
    | cons e es =>
      obtain ⟨t, ts, h1, h2, h3⟩ := h
      have h1' : LSt B N (wpE P c) :: tsOf B N P (.cons d ds) = t :: ts := h1
      injection h1' with h4 h5
      subst h4; subst h5
      have ih := se_and (pos := pos) (as := .cons d ds) h3
      cases es with
      | nil => cases (show tsOf B N P (.cons d ds) = [] from h3)
      | cons e' es =>
        refine PE.imp (pe_and h2 ih) fun σ H Q hw => ?_
        obtain ⟨S, env, F, K, st, w, p⟩ := hw
        refine ⟨S, env, F, _, st, w, fun r env1 v S1 H1 F1 k e st1 rel => ?_⟩
        obtain ⟨dd, k1, hv⟩ := peek_view st1 rel k
        split at k1
        · exact ⟨true, view_bl hv, by rw [if_pos rfl]; exact ⟨S1, env1, F1, K, st1, k1, p.mono e⟩⟩
        · exact ⟨false, view_bl hv, by rw [if_neg (by simp)]; exact (p.mono e).giveV (d := .bl false) st1 k1 rfl⟩
        · exact k1.elim
theorem se_or {pos : Pos} : ∀ {as : Es} {es : List Expr}, PEs X es (tsOf B N P as) → PE X (.BoolOp .Or es pos) (LE B N (wpOr P as))
  | .nil, es, _ => ⟨fun _ _ _ _ _ _ ⟨_, _, _, _, _, w, _⟩ => w.elim⟩
  | .cons c .nil, es, h => by
    cases es with
    | nil => cases (show tsOf B N P (.cons c .nil) = [] from h)
    | cons e es =>
      obtain ⟨t, ts, h1, h2, h3⟩ := h
      have h1' : LSt B N (wpE P c) :: [] = t :: ts := h1
      injection h1' with h4 h5
      subst h4; subst h5
      cases es with
      | cons _ _ => obtain ⟨_, _, h6, _⟩ := h3; cases h6
      | nil => exact PE.imp (pe_one h2) fun σ H Q ⟨S, env, F, K, st, w, p⟩ => ⟨S, env, F, K, st, w, p.toS⟩
  | .cons c (.cons d ds), es, h => by
    cases es with
    | nil => cases (show tsOf B N P (.cons c (.cons d ds)) = [] from h)
    | cons e es =>
      obtain ⟨t, ts, h1, h2, h3⟩ := h
      have h1' : LSt B N (wpE P c) :: tsOf B N P (.cons d ds) = t :: ts := h1
      injection h1' with h4 h5
      subst h4; subst h5
      have ih := se_or (pos := pos) (as := .cons d ds) h3
      cases es with
      | nil => cases (show tsOf B N P (.cons d ds) = [] from h3)
      | cons e' es =>
        refine PE.imp (pe_or h2 ih) fun σ H Q hw => ?_
        obtain ⟨S, env, F, K, st, w, p⟩ := hw
        refine ⟨S, env, F, _, st, w, fun r env1 v S1 H1 F1 k e st1 rel => ?_⟩
        obtain ⟨dd, k1, hv⟩ := peek_view st1 rel k
        split at k1
        · exact ⟨false, view_bl hv, by rw [if_neg (by simp)]; exact ⟨S1, env1, F1, K, st1, k1, p.mono e⟩⟩
        · exact ⟨true, view_bl hv, by rw [if_pos rfl]; exact (p.mono e).giveV (d := .bl true) st1 k1 rfl⟩
        · exact k1.elim
theorem se_not {a : E} {e : Expr} {pos : Pos} (h : PE X e (LE B N (wpE P a))) : PE X (.UnaryOp .Not e pos) (LE B N (wpE P (.notv a))) := by
  refine PE.imp (pe_not h) fun σ H Q hw => ?_
  obtain ⟨S, env, F, K, st, w, p⟩ := hw
  refine ⟨S, env, F, _, st, w, fun r env1 v S1 H1 F1 fr k e st1 rel => ?_⟩
  obtain ⟨dd, k1, hv⟩ := peek_ok st1 rel k
  split at k1
  · exact ⟨_, view_bl hv, (p.mono e).giveV (d := .bl _) st1 k1 rfl⟩
  · exact k1.elim
theorem se_ite {c : T} {a b : E} {c' a' b' : Expr} {pos : Pos} (hc : PT X c' (LT B N (wpT P c))) (ha : PE X a' (LE B N (wpE P a))) (hb : PE X b' (LE B N (wpE P b))) : PE X (.IfExp c' a' b' pos) (LE B N (wpE P (.ite c a b))) := by
  refine PE.imp (pe_ifExp hc ha hb) fun σ H Q hw => ?_
  obtain ⟨S, env, F, K, st, w, p⟩ := hw
  refine ⟨S, env, F, _, st, w, fun t env1 S1 H1 F1 k e st1 => ?_⟩
  cases t with
  | true => exact ⟨S1, env1, F1, K, st1, k, p.mono e⟩
  | false => exact ⟨S1, env1, F1, K, st1, k, p.mono e⟩

/-! chains -/
theorem boolK_get {r : R} {Kt Kf : Prop} (h : boolK r Kt Kf) : (r = .v (.bl true) ∧ Kt) ∨ (r = .v (.bl false) ∧ Kf) := by
  unfold boolK at h
  split at h
  · exact .inl ⟨rfl, h⟩
  · exact .inr ⟨rfl, h⟩
  · exact h.elim
theorem cmp_op (g : GX B cf.N cf.sc X) {o : Op} {op : CmpOp} (h : cmpOf o = some op) : OpR X (compareOp op) (fun x y H Q => vr X.K X.prog X.w o [x, y] H Q) := by
  have hu' := g.unit
  have hu : X.A.units + 64 < cLine := by omega
  cases o <;> cases h
  · exact op_eqD hu
  · exact op_neD hu
  · exact o_lt
  · exact o_le
  · exact o_gt
  · exact o_ge
def e0 : Expr := .Constant .none 0 default
theorem cmp_args {sc : Scope} {o : Op} {op : CmpOp} (h : cmpOf o = some op) : opArgs sc o (.Compare e0 [op] [e0] default) = some [e0, e0] := by
  cases o <;> cases h <;> rfl
theorem cmp_marks {op op' : CmpOp} {b c : Expr} (h : notSet c = true) : lastMarks [op, op'] [b, c] = false := noMark h
theorem se_chain {o p : Op} {o' p' : CmpOp} {a b c : E} {a' b' c' : Expr} {pos : Pos} (g : GC B cf P N X) (ho : cmpOf o = some o') (hp : cmpOf p = some p') (hn : notSet c' = true)
    (ha : PE X a' (LE B N (wpE P a))) (hb : PE X b' (LE B N (wpE P b))) (hc : PE X c' (LE B N (wpE P c))) : PE X (.Compare a' [o', p'] [b', c'] pos) (LE B N (wpE P (.chain o p a b c))) := by
  refine PE.imp (pe_chain (cmp_op g.g ho) (cmp_op g.g hp) (PE.st ha) (PE.st hb) (PE.st hc) (cmp_marks hn)) fun σ H Q hw => ?_
  obtain ⟨S, env, F, K, st, w, q⟩ := hw
  refine ⟨S, env, F, _, st, w, fun ra env1 x S1 H1 F1 k e1 st1 rel1 => ?_⟩
  refine ⟨S1, env1, F1, _, st1, k, fun rb env2 y S2 H2 F2 k e2 st2 rel2 => ?_⟩
  obtain ⟨da, k, va⟩ := peek_view st2 (rel1.mono e2) k
  obtain ⟨db, k, vb⟩ := peek_view st2 rel2 k
  rw [g.g.hK]
  refine op_ok (K := fun r env2 => boolK r
    (wpE P c env2 fun rc env3 => settle env3 rc fun rc env3 => peek env3 rb fun db => peek env3 rc fun dc => osem p [db, dc] fun r => K r env3) (K (.v (.bl false)) env2)) (cmp_args (sc := cf.sc) ho) st2 (show ViewL B.K S2 H2 [da, db] [x, y] from ⟨x, [y], rfl, va, y, [], rfl, vb, rfl⟩) k fun r env' v S3 H3 F3 fr kk e3 st3 rel3 => ?_
  rcases boolK_get kk with ⟨rfl, kk⟩ | ⟨rfl, kk⟩
  · obtain ⟨hr, rfl⟩ := rel3
    cases (show v = .bl true from hr)
    refine ⟨true, rfl, ?_⟩
    rw [if_pos rfl]
    refine ⟨S3, env', F3, _, st3, kk, fun rc env3 z S4 H4 F4 k e4 st4 rel4 => ?_⟩
    obtain ⟨db, k, vb⟩ := peek_view st4 (rel2.mono (e3.trans e4)) k
    obtain ⟨dc, k, vc⟩ := peek_view st4 rel4 k
    exact op_ok (cmp_args (sc := cf.sc) hp) st4 (show ViewL B.K S4 H4 [db, dc] [y, z] from ⟨y, [z], rfl, vb, z, [], rfl, vc, rfl⟩) k (q.mono (e1.trans (e2.trans (e3.trans e4))))
  · obtain ⟨hr, rfl⟩ := rel3
    cases (show v = .bl false from hr)
    refine ⟨false, rfl, ?_⟩
    rw [if_neg (by simp)]
    exact (q.mono (e1.trans (e2.trans e3))).giveV (d := .bl false) st3 kk rfl

/-! tests -/
theorem tru_of {S H : Hp} {d : D} {v : V} {K : Bool → Prop} (hv : View B.K S H d v) (k : truthD d K) (e : Same S H) : ∃ b, TruV B.K v H b ∧ K b := by
  cases d with
  | non => cases view_non hv; exact ⟨false, rfl, k⟩
  | bl b => cases view_bl hv; exact ⟨b, rfl, k⟩
  | int i => cases view_int hv; exact ⟨_, rfl, k⟩
  | str s =>
    cases view_str hv
    refine ⟨_, ⟨by rw [str_len]; exact k.1, rfl⟩, ?_⟩
    rw [str_len]
    have : ((s.length : Int) != 0) = !s.isEmpty := by cases s <;> simp <;> omega
    rw [this]; exact k.2
  | lst ds =>
    obtain ⟨a, xs, rfl, h1, h2⟩ := hv
    refine ⟨_, .inl ⟨xs, SqL.of h1, rfl⟩, ?_⟩
    have : (!xs.isEmpty) = !ds.isEmpty := by have := h2.len; cases xs <;> cases ds <;> simp_all
    rw [this]; exact k
  | fz ds =>
    obtain ⟨a, xs, rfl, h1, h2⟩ := view_fz hv
    refine ⟨_, .inl ⟨xs, sqL_mono e h1, rfl⟩, ?_⟩
    have : (!xs.isEmpty) = !ds.isEmpty := by have := h2.len; cases xs <;> cases ds <;> simp_all
    rw [this]; exact k
  | tup ds =>
    obtain ⟨a, xs, rfl, h1, h2⟩ := view_tup hv
    refine ⟨_, .inr (.inl ⟨xs, sqT_mono e h1, rfl⟩), ?_⟩
    have : (!xs.isEmpty) = !ds.isEmpty := by have := h2.len; cases xs <;> cases ds <;> simp_all
    rw [this]; exact k
  | dic ks vs => exact k.elim
theorem lt_ex {a : E} {e : Expr} (g : GC B cf P N X) (h : PE X e (LE B N (wpE P a))) (he : ∀ whole, isTrue e X.env whole = (do let v ← whole; standAt e.pos; holding [v] (truthy v))) : PT X e (LT B N (wpT P (.ex a))) := by
  refine ⟨fun pins s σ H Q I hw => (pt_truth (PE.st h) he).run pins s σ H Q I ?_⟩
  obtain ⟨S, env, F, K, st, w, p⟩ := hw
  have w' : wpE P a env fun r env1 => settle env1 r fun r env1 => peek env1 r fun d => truthD d fun b => K b env1 := w
  refine ⟨S, env, F, _, st, w', fun r env1 v S1 H1 F1 k e st1 rel => ?_⟩
  obtain ⟨d, k, hv⟩ := peek_view st1 rel k
  obtain ⟨b, hb, k⟩ := tru_of hv k st1.sub
  rw [g.g.hK]
  exact ⟨b, hb, p b env1 S1 H1 F1 k e st1⟩
theorem op_pt (g : GC B cf P N X) {o : Op} {a b : Expr} {op : CmpOp} {pos : Pos} {es : List Expr} {ts : List TE} (h : opArgs cf.sc o (.Compare a [op] [b] pos) = some es) (hs : PEs X es ts) : PT X (.Compare a [op] [b] pos) (tTest (nest ts (vr X.K X.prog X.w o))) := by
  have hu' := g.g.unit
  have hu : X.A.units + 64 < cLine := by omega
  have go : ∀ {r : R2} {v : List V → Hp → VK → Prop} {op' : CmpOp}, OpR X (compareOp op') r → cmpArgs op' (.Compare a [op] [b] pos) = some es → (∀ x y H Q, v [x, y] H Q → r x y H Q) → PT X (.Compare a [op] [b] pos) (tTest (nest ts v)) := by
    intro r v op' ho h hv
    obtain ⟨a', b', pos', e1, rfl, hb⟩ := cmpArgs_some h
    cases e1
    obtain ⟨t, u, rfl, h1, h2⟩ := hs.two
    have ho' : OpR X (compareOp op) (fun x y H Q => v [x, y] H Q) := fun pins s σ H x y w u Q I rx ry q => ho pins s σ H x y w u Q I rx ry (hv _ _ _ _ q)
    exact pt_cmpR ho' h1 h2 (noMark hb)
  cases o with
  | eq => exact go (op_eqD hu) h fun _ _ _ _ q => q
  | ne => exact go (op_neD hu) h fun _ _ _ _ q => q
  | lt => exact go o_lt h fun _ _ _ _ q => q
  | le => exact go o_le h fun _ _ _ _ q => q
  | gt => exact go o_gt h fun _ _ _ _ q => q
  | ge => exact go o_ge h fun _ _ _ _ q => q
  | inn => exact go (o_inn (by omega)) h fun _ _ _ _ q => q
  | notin => exact go (o_notin (by omega)) h fun _ _ _ _ q => q
  | is => exact go o_is h fun _ _ _ _ q => q
  | isnot => exact go o_isnot h fun _ _ _ _ q => q
  | _ => cases h
theorem lt_cmp {o : Op} {as : Es} {a b : Expr} {op : CmpOp} {pos : Pos} {es : List Expr} (g : GC B cf P N X) (h : opArgs cf.sc o (.Compare a [op] [b] pos) = some es) (hs : PEs X es (tsOf B N P as)) : PT X (.Compare a [op] [b] pos) (LT B N (wpT P (.cmp o as))) := by
  refine ⟨fun pins s σ H Q I hw => (op_pt g h hs).run pins s σ H Q I ?_⟩
  obtain ⟨S, env, F, K, st, w, p⟩ := hw
  have w' : wpEs P as env fun rs env1 => peeks env1 rs fun ds => osem o ds fun r => settle env1 r fun r env1 => peek env1 r fun d => truthD d fun b => K b env1 := w
  refine nest_go st w' fun rs env' vs S' H' F' k e1 st' rel => ?_
  obtain ⟨ds, k2, hv⟩ := peeks_ok st' rel k
  rw [g.g.hK]
  -- a comparison gives a bool
  have hbl : ∀ {K : R → Prop}, osem o ds K → osem o ds fun r => K r ∧ ∃ b, r = .v (.bl b) := by
    intro K hk
    cases o <;> (try (cases h; done)) <;> simp only [osem] at hk ⊢ <;> (split at hk) <;> first
      | exact hk.elim
      | exact ⟨hk, _, rfl⟩
      | exact ⟨hk.1, hk.2, _, rfl⟩
      | exact ⟨hk.1, hk.2.1, hk.2.2, _, rfl⟩
  refine op_ok h st' hv (K := fun r env => (settle env r fun r env1 => peek env1 r fun d => truthD d fun b => K b env1) ∧ ∃ b, r = .v (.bl b)) (hbl k2) fun r env2 v S2 H2 F2 fr k3 e2 st2 rel2 => ?_
  obtain ⟨k3, b, rfl⟩ := k3
  cases (show v = .bl b from rel2.1)
  exact ⟨b, rfl, p b env2 S2 H2 F2 k3 (e1.trans e2) st2⟩
theorem lt_chn {o p : Op} {o' p' : CmpOp} {a b c : E} {a' b' c' : Expr} {pos : Pos} (g : GC B cf P N X) (ho : cmpOf o = some o') (hp : cmpOf p = some p') (hn : notSet c' = true)
    (ha : PE X a' (LE B N (wpE P a))) (hb : PE X b' (LE B N (wpE P b))) (hc : PE X c' (LE B N (wpE P c))) : PT X (.Compare a' [o', p'] [b', c'] pos) (LT B N (wpT P (.chn o p a b c))) := by
  refine ⟨fun pins s σ H Q I hw => (pt_chain (cmp_op g.g ho) (cmp_op g.g hp) (PE.st ha) (PE.st hb) (PE.st hc) (cmp_marks hn)).run pins s σ H Q I ?_⟩
  obtain ⟨S, env, F, K, st, w, q⟩ := hw
  have w' : wpE P a env fun ra env1 => settle env1 ra fun ra env1 => wpE P b env1 fun rb env2 => settle env2 rb fun rb env2 => peek env2 ra fun da => peek env2 rb fun db => osem o [da, db] fun r => boolK r
    (wpE P c env2 fun rc env3 => settle env3 rc fun rc env3 => peek env3 rb fun db => peek env3 rc fun dc => osem p [db, dc] fun r => boolK r (K true env3) (K false env3)) (K false env2) := w
  refine ⟨S, env, F, _, st, w', fun ra env1 x S1 H1 F1 k e1 st1 rel1 => ?_⟩
  refine ⟨S1, env1, F1, _, st1, k, fun rb env2 y S2 H2 F2 k e2 st2 rel2 => ?_⟩
  obtain ⟨da, k, va⟩ := peek_view st2 (rel1.mono e2) k
  obtain ⟨db, k, vb⟩ := peek_view st2 rel2 k
  rw [g.g.hK]
  refine op_ok (K := fun r env2 => boolK r
    (wpE P c env2 fun rc env3 => settle env3 rc fun rc env3 => peek env3 rb fun db => peek env3 rc fun dc => osem p [db, dc] fun r => boolK r (K true env3) (K false env3)) (K false env2)) (cmp_args (sc := cf.sc) ho) st2 (show ViewL B.K S2 H2 [da, db] [x, y] from ⟨x, [y], rfl, va, y, [], rfl, vb, rfl⟩) k fun r env' v S3 H3 F3 fr kk e3 st3 rel3 => ?_
  rcases boolK_get kk with ⟨rfl, kk⟩ | ⟨rfl, kk⟩
  · obtain ⟨hr, rfl⟩ := rel3
    cases (show v = .bl true from hr)
    refine ⟨true, rfl, ?_⟩
    rw [if_pos rfl]
    refine ⟨S3, env', F3, _, st3, kk, fun rc env3 z S4 H4 F4 k e4 st4 rel4 => ?_⟩
    obtain ⟨db, k, vb⟩ := peek_view st4 (rel2.mono (e3.trans e4)) k
    obtain ⟨dc, k, vc⟩ := peek_view st4 rel4 k
    refine op_ok (K := fun r env3 => boolK r (K true env3) (K false env3)) (cmp_args (sc := cf.sc) hp) st4 (show ViewL B.K S4 H4 [db, dc] [y, z] from ⟨y, [z], rfl, vb, z, [], rfl, vc, rfl⟩) k fun r env5 v S5 H5 F5 fr kk e5 st5 rel5 => ?_
    have e15 := e1.trans (e2.trans (e3.trans (e4.trans e5)))
    rcases boolK_get kk with ⟨rfl, kk⟩ | ⟨rfl, kk⟩
    · cases (show v = .bl true from rel5.1)
      exact ⟨true, rfl, q _ _ _ _ _ kk e15 st5⟩
    · cases (show v = .bl false from rel5.1)
      exact ⟨false, rfl, q _ _ _ _ _ kk e15 st5⟩
  · obtain ⟨hr, rfl⟩ := rel3
    cases (show v = .bl false from hr)
    refine ⟨false, rfl, ?_⟩
    rw [if_neg (by simp)]
    exact ⟨false, rfl, q _ _ _ _ _ kk (e1.trans (e2.trans e3)) st3⟩
theorem lt_not {t : T} {e : Expr} {pos : Pos} (h : PT X e (LT B N (wpT P t))) : PT X (.UnaryOp .Not e pos) (LT B N (wpT P (.notv t))) := by
  refine ⟨fun pins s σ H Q I hw => (pt_not h).run pins s σ H Q I ?_⟩
  obtain ⟨S, env, F, K, st, w, p⟩ := hw
  exact ⟨S, env, F, _, st, w, fun b env1 S1 H1 F1 k e st1 => p (!b) env1 S1 H1 F1 k e st1⟩
def ttsOf (B : Base) (N : Ent) (P : Prm) : Ts → List TT
  | .nil => []
  | .cons t ts => LT B N (wpT P t) :: ttsOf B N P ts
def PTs (X : Cx) : List Expr → List TT → Prop
  | [], ts => ts = []
  | e :: es, ts => ∃ t r, ts = t :: r ∧ PT X e t ∧ PTs X es r
theorem lt_and {pos : Pos} : ∀ {ts : Ts} {es : List Expr}, es ≠ [] → PTs X es (ttsOf B N P ts) → PW X (.BoolOp .And es pos) (LT B N (wpAndT P ts))
  | ts, [], h, _ => (h rfl).elim
  | .nil, e :: es, _, h => by obtain ⟨_, _, h1, _⟩ := h; cases h1
  | .cons c cs, [e], _, h => by
    obtain ⟨t, ts, h1, h2, h3⟩ := h
    have h1' : LT B N (wpT P c) :: ttsOf B N P cs = t :: ts := h1
    injection h1' with h4 h5
    subst h4; subst h5
    have h6 : ttsOf B N P cs = [] := h3
    cases cs with
    | cons _ _ => cases h6
    | nil =>
      refine ⟨fun wh pins s σ H Q I hw => (pw_and1 h2).run wh pins s σ H Q I ?_⟩
      obtain ⟨S, env, F, K, st, w, p⟩ := hw
      have w' : wpT P c env fun b env1 => if b = true then K true env1 else K false env1 := w
      refine ⟨S, env, F, _, st, w', fun b env1 S1 H1 F1 k e st1 => p b env1 S1 H1 F1 ?_ e st1⟩
      cases b <;> exact k
  | .cons c cs, e :: e' :: es, _, h => by
    obtain ⟨t, ts, h1, h2, h3⟩ := h
    have h1' : LT B N (wpT P c) :: ttsOf B N P cs = t :: ts := h1
    injection h1' with h4 h5
    subst h4; subst h5
    have ih := lt_and (pos := pos) (ts := cs) (by simp) h3
    refine ⟨fun wh pins s σ H Q I hw => (pw_and h2 ih).run wh pins s σ H Q I ?_⟩
    obtain ⟨S, env, F, K, st, w, p⟩ := hw
    refine ⟨S, env, F, _, st, w, fun b env1 S1 H1 F1 k e st1 => ?_⟩
    cases b with
    | true => exact ⟨S1, env1, F1, K, st1, k, fun b env2 S2 H2 F2 k2 e2 st2 => p b env2 S2 H2 F2 k2 (e.trans e2) st2⟩
    | false => exact p false env1 S1 H1 F1 k e st1
theorem lt_or {pos : Pos} : ∀ {ts : Ts} {es : List Expr}, es ≠ [] → PTs X es (ttsOf B N P ts) → PW X (.BoolOp .Or es pos) (LT B N (wpOrT P ts))
  | ts, [], h, _ => (h rfl).elim
  | .nil, e :: es, _, h => by obtain ⟨_, _, h1, _⟩ := h; cases h1
  | .cons c cs, [e], _, h => by
    obtain ⟨t, ts, h1, h2, h3⟩ := h
    have h1' : LT B N (wpT P c) :: ttsOf B N P cs = t :: ts := h1
    injection h1' with h4 h5
    subst h4; subst h5
    have h6 : ttsOf B N P cs = [] := h3
    cases cs with
    | cons _ _ => cases h6
    | nil =>
      refine ⟨fun wh pins s σ H Q I hw => (pw_or1 h2).run wh pins s σ H Q I ?_⟩
      obtain ⟨S, env, F, K, st, w, p⟩ := hw
      have w' : wpT P c env fun b env1 => if b = true then K true env1 else K false env1 := w
      refine ⟨S, env, F, _, st, w', fun b env1 S1 H1 F1 k e st1 => p b env1 S1 H1 F1 ?_ e st1⟩
      cases b <;> exact k
  | .cons c cs, e :: e' :: es, _, h => by
    obtain ⟨t, ts, h1, h2, h3⟩ := h
    have h1' : LT B N (wpT P c) :: ttsOf B N P cs = t :: ts := h1
    injection h1' with h4 h5
    subst h4; subst h5
    have ih := lt_or (pos := pos) (ts := cs) (by simp) h3
    refine ⟨fun wh pins s σ H Q I hw => (pw_or h2 ih).run wh pins s σ H Q I ?_⟩
    obtain ⟨S, env, F, K, st, w, p⟩ := hw
    refine ⟨S, env, F, _, st, w, fun b env1 S1 H1 F1 k e st1 => ?_⟩
    cases b with
    | false => exact ⟨S1, env1, F1, K, st1, k, fun b env2 S2 H2 F2 k2 e2 st2 => p b env2 S2 H2 F2 k2 (e.trans e2) st2⟩
    | true => exact p true env1 S1 H1 F1 k e st1

/-! pop -/
theorem vis_of (g : GC B cf P N X) {i : Nat} {x : Str} (h : slotB cf i x = true) : X.N[i]? = some x ∧ Vis X.env.scope x ∧ (x == ("__debug__" : Str)) = false ∧ (x == ("__classdict__" : Str)) = false := by
  unfold slotB at h
  rw [Bool.and_eq_true, decide_eq_true_eq] at h
  refine ⟨by rw [g.g.hN]; exact h.1, ?_, ?_⟩
  · have h2 := h.2
    unfold visB at h2
    unfold Vis
    rw [g.g.hsc]
    split at h2
    · exact .inl (by assumption)
    · exact .inr (.inl (by assumption))
    · exact .inr (.inr (by assumption))
    · cases h2
  · obtain ⟨d1, d2⟩ := g.g.dbg x (List.mem_of_getElem? h.1)
    exact ⟨beq_eq_false_iff_ne.mpr d1, beq_eq_false_iff_ne.mpr d2⟩
theorem se_pop {i : Nat} {x : Str} {p ap cp : Pos} (g : GC B cf P N X) (h : slotB cf i x = true) (hl : (ap.endLine == cp.line) = true) : PE X (.Call (.Attribute (.Name x p) (Str.ofString "pop") ap) [] [] cp) (LE B N (wpE P (.pop i))) := by
  obtain ⟨h1, h2, h3, h4⟩ := vis_of g h
  refine PE.imp (pe_bm0 PySem.F.plainAttrs_list PySem.F.slot_list_pop PySem.F.type_list_pop mt_pop (pe_var h1 h2 h3 h4) rfl hl) fun σ H Q hw => ?_
  obtain ⟨S, env, F, K, st, w, p⟩ := hw
  simp only [wpE] at w
  split at w
  · rename_i ds e
    obtain ⟨d, hd, k⟩ := optW_get w
    obtain ⟨a, e1, e2, xs, e3, e4⟩ := st.own i _ e
    refine ⟨.ref a, e1, .inl ⟨rfl, xs, SqL.of e3⟩, ?_⟩
    have hd' : ds[ds.length - 1]? = some d := by rw [← List.getLast?_eq_getElem?]; exact hd
    obtain ⟨y, hy, ry⟩ := e4.get hd'
    rw [← e4.len] at hy
    refine ⟨a, xs, y, rfl, rfl, e3, hy, ?_⟩
    refine p _ _ _ S _ F [] k (Same.refl _) (st.put e e1 ?_) ⟨ry, rfl⟩
    exact ⟨e2, xs.dropLast, upd_same, e4.dropLast⟩
  · exact w.elim
theorem se_popAt {i : Nat} {c : E} {x : Str} {e : Expr} {p ap cp : Pos} (g : GC B cf P N X) (h : slotB cf i x = true) (hl : (ap.endLine == cp.line) = true) (hn : notStar e = true) (he : PE X e (LE B N (wpE P c))) : PE X (.Call (.Attribute (.Name x p) (Str.ofString "pop") ap) [e] [] cp) (LE B N (wpE P (.popAt i c))) := by
  obtain ⟨h1, h2, h3, h4⟩ := vis_of g h
  refine PE.imp (pe_bm PySem.F.plainAttrs_list PySem.F.slot_list_pop PySem.F.type_list_pop mt_popAt (pe_var h1 h2 h3 h4) (pa_cons (PE.st he) pa_nil (star_cons _ hn)) rfl ?few hl (star_cons _ hn) (by rfl)) fun σ H Q hw => ?_
  case few =>
    have hs := no_stars (es := [e]) (by unfold noStars; rw [hn]; rfl) X.env
    rw [hs]; rfl
  obtain ⟨S, env, F, K, st, w, p⟩ := hw
  obtain ⟨⟨ds0, e0⟩, w⟩ := isLst_get w
  obtain ⟨a, e1, e2, xs, e3, e4⟩ := st.own i _ e0
  refine ⟨.ref a, e1, .inl ⟨rfl, xs, SqL.of e3⟩, ?_⟩
  refine ⟨S, env, F, _, st, w, fun r env1 v S1 H1 F1 k ee st1 rel => ?_⟩
  obtain ⟨d, k, hv⟩ := peek_view st1 rel k
  split at k
  · rename_i z ds e5
    cases view_int hv
    obtain ⟨k1, k2, k3⟩ := k
    obtain ⟨j, hj, k3⟩ := optW_get k3
    obtain ⟨d, hd, k3⟩ := optW_get k3
    obtain ⟨a', f1, f2, ys, f3, f4⟩ := st1.own i _ e5
    rw [e1] at f1; cases f1
    obtain ⟨y, hy, ry⟩ := f4.get hd
    refine ⟨a, ys, _, j, y, rfl, rfl, f3, k1, k2, ?_, hy, ?_⟩
    · rw [f4.len]; exact (ixN_seq hj).1
    · refine p _ _ _ S1 _ F1 [] k3 ee (st1.put e5 e1 ?_) ⟨ry, rfl⟩
      exact ⟨f2, ys.eraseIdx j, upd_same, f4.eraseIdx j⟩
  · exact k.elim
end
end Nf
/-! objects: attributes read, methods, new ones -/
namespace Nf
open PySem PySem.Spec L2
section
variable {B : Base} {cf : Cf} {P : Prm} {N : Ent} {X : Cx}
theorem setOws_ex : ∀ {is : List Nat} {os : List Own} {env : Ev} {K : Ev → Prop}, setOws is os env K → ∃ e, (setOws is os env fun x => x = e) ∧ K e
  | [], [], env, K, h => ⟨env, rfl, h⟩
  | i :: is, o :: os, env, K, h => by
    obtain ⟨e, h1, h2⟩ := setOws_ex (is := is) (os := os) (env := env.set i (.ow o)) (K := K) h
    exact ⟨e, h1, h2⟩
  | [], _ :: _, _, _, h => h.elim
  | _ :: _, [], _, _, h => h.elim
/-- a call: what comes out goes on -/
theorem call_core {rf : List Nat} {n : Nat} {con : Con} {mg : Str → Option Value} {σ : Sg} {env2 : Ev} {S2 H : Hp} {F2 : Nat → List Addr} {rs2 : List R} {vs : List V} {sl : List Slot} {OUT : Out → Prop} {WISH : R → Ev → Prop} {Q : VK} {E : XK}
    (hlen : ∀ as K, con as K → as.length = n) (st2 : StOk B N σ env2 S2 H F2) (args : ArgIs σ env2 S2 B rf 0 rs2 sl vs) (nd : nodupN (lentOf rf 0 rs2) = true) (ap : apartN (lentOf rf 0 rs2) (seenOf rf 0 rs2) = true) (hseen : seenOf rf 0 rs2 = []) (k3 : con sl OUT)
    (hset : ∀ r outs, OUT (.ret r outs) → ∃ e, (setOws (lentOf rf 0 rs2) outs env2 fun x => x = e) ∧ WISH r e)
    (hret : ∀ r e S3 H' F3 fr v, WISH r e → Same S2 S3 → StOk B N σ e S3 H' F3 → RelR B N σ S3 H' F3 r v fr → Q v H')
    (hexc : ∀ c, OUT (.exc c) → lentOf rf 0 rs2 = [] ∧ ∀ C S3 H' F3, mg (Str.ofString c) = some (.ref C) → Same S2 S3 → StOk B N σ env2 S3 H' F3 → E (.ref C) none H') : spCon B mg n con vs H Q E := by
  obtain ⟨l1, l2, get⟩ := args.get
  have hA : seenA env2 F2 (seenOf rf 0 rs2) = [] := by rw [hseen]; rfl
  have hobj : ∀ i ∈ seenOf rf 0 rs2, ∀ o, env2[i]? = some (.ow o) → o.data ≠ none := fun i hi => by rw [hseen] at hi; cases hi
  refine ⟨by rw [l2, ← l1]; exact hlen _ _ k3, _, sl, _, OUT, by rw [l1, l2], call_enter st2 args nd ap, k3, ?_, ?_⟩
  · intro r outs σ' env' S' H' F' fr v ko st' ho rel hnl
    obtain ⟨e, hs, hw⟩ := hset r outs ko
    obtain ⟨env3, S3, F3, e0, e3, st3, hrel⟩ := call_after st2 args nd ap st' ho (.inl hA) hobj hs
    subst e0
    exact hret r _ S3 H' F3 fr v hw e3 st3 (hrel r v fr rel hnl (.inl hA))
  · intro c σ' env' S' H' F' C ko st' hC
    obtain ⟨hl, hx⟩ := hexc c ko
    have hrefs : refsOf 0 sl = [] := List.eq_nil_iff_forall_not_mem.mpr fun q hq => by
      obtain ⟨_, o, e4⟩ := refsOf_mem.mp hq
      rw [Nat.sub_zero] at e4
      obtain ⟨r, v, g1, g2, g3⟩ := get q _ e4
      rcases g3 with ⟨hm, i, o', e5, _⟩ | ⟨_, _, d, z, _⟩
      · have := lentOf_mem (p := 0) (Nat.zero_le _) (by rw [Nat.sub_zero, g1, e5]) (by rw [Nat.zero_add] at hm; exact hm)
        rw [hl] at this; cases this
      · cases z
    obtain ⟨env3, S3, F3, e0, e3, st3, _⟩ := call_after (outs := []) (K := fun x => x = env2) st2 args nd ap st' (by rw [hrefs]; rfl) (.inl hA) hobj (by rw [hl]; rfl)
    subst e0
    exact hx C S3 H' F3 hC e3 st3
/-! attributes -/
abbrev nmsF (fs : List (Str × V)) : List D := fs.map fun q => D.str (tl q.1)
theorem tl_str (s : List Nat) : tl (⟨s.toArray⟩ : Str) = s := by simp [tl]
theorem tl_eq {f : Str} {s : List Nat} : tl f = s ↔ f = ⟨s.toArray⟩ := ⟨fun h => by subst h; exact Str.ext' (by simp [tl]), fun h => by rw [h]⟩
theorem keqs (s : List Nat) (f : Str) : keq (.str s) (.str (tl f)) = decide (f = ⟨s.toArray⟩) := by
  show decide (tl f = s) = _
  by_cases h : f = ⟨s.toArray⟩
  · rw [decide_eq_true h, decide_eq_true (tl_eq.mpr h)]
  · rw [decide_eq_false h, decide_eq_false fun z => h (tl_eq.mp z)]
theorem dAt_cons (s : List Nat) (f : Str) (x : V) (fs : List (Str × V)) (e : D) (vs : List D) : dAt (.str s) (nmsF ((f, x) :: fs)) (e :: vs) = if f = ⟨s.toArray⟩ then some e else dAt (.str s) (nmsF fs) vs := by
  show (if tl f = s then some e else dAt (.str s) (nmsF fs) vs) = _
  by_cases h : f = ⟨s.toArray⟩
  · rw [if_pos h, if_pos (tl_eq.mpr h)]
  · rw [if_neg h, if_neg fun z => h (tl_eq.mp z)]
theorem dRep_cons (s : List Nat) (y : D) (f : Str) (x : V) (fs : List (Str × V)) (e : D) (vs : List D) : dRep (.str s) y (nmsF ((f, x) :: fs)) (e :: vs) = (if f = ⟨s.toArray⟩ then y else e) :: dRep (.str s) y (nmsF fs) vs := by
  show (match keq (.str s) (.str (tl f)) with | true => y | false => e) :: dRep (.str s) y (nmsF fs) vs = _
  rw [keqs]
  by_cases h : f = ⟨s.toArray⟩
  · rw [if_pos h, decide_eq_true h]
  · rw [if_neg h, decide_eq_false h]
section
variable {K : PySem.W.Frag} {S S' H H' : Hp}
theorem AtR.len : ∀ {ds : List D} {vs : List V} {os : List Addr}, AtR K S H ds vs os → vs.length = ds.length
  | [], _, _, h => by rw [h.1]; rfl
  | d :: ds, vs, os, h => by
    cases q : isFz d with
    | false =>
      rw [atR_cons q] at h
      obtain ⟨v, r, e1, h1, h2⟩ := h
      subst e1; simp [h2.len]
    | true =>
      cases d with
      | fz es =>
        obtain ⟨v, r, b', os', xs, e1, e2, e3, h1, h2, h3⟩ := h
        subst e1; simp [h3.len]
      | _ => cases q
theorem dRep_no {s : List Nat} {y : D} : ∀ {fs : List (Str × V)} {vs : List D}, (∀ q ∈ fs, q.1 ≠ ⟨s.toArray⟩) → vs.length = fs.length → dRep (.str s) y (nmsF fs) vs = vs
  | [], [], _, _ => rfl
  | [], _ :: _, _, h => by cases h
  | (f, x) :: fs, [], _, h => by cases h
  | (f, x) :: fs, e :: vs, h, hl => by
    rw [dRep_cons, if_neg (h (f, x) (by simp)), dRep_no (fun q hq => h q (by simp [hq])) (by simpa using hl)]
theorem atR_get (s : List Nat) : ∀ {fs : List (Str × V)} {vs : List D} {os : List Addr} {d : D}, AtR K S H vs (fs.map (·.2)) os → dAt (.str s) (nmsF fs) vs = some d →
    ∃ v, fs.lookup (⟨s.toArray⟩ : Str) = some v ∧ (⟨s.toArray⟩ : Str) ∈ fs.map (·.1) ∧ ((isFz d = false ∧ Rep K S d v) ∨ ∃ es b xs, d = .fz es ∧ v = .ref b ∧ b ∈ os ∧ H b = some (.lst xs) ∧ RepL K S es xs)
  | [], vs, os, d, _, h => by cases vs <;> cases h
  | (f, x) :: fs, [], os, d, _, h => by cases h
  | (f, x) :: fs, e :: vs, os, d, hr, h => by
    rw [dAt_cons] at h
    cases q : isFz e with
    | false =>
      rw [atR_cons q] at hr
      obtain ⟨v, r, e1, h1, h2⟩ := hr
      obtain ⟨rfl, rfl⟩ := List.cons.inj e1
      by_cases c : f = ⟨s.toArray⟩
      · rw [if_pos c] at h; cases h; subst c
        exact ⟨x, by simp [List.lookup], by simp, .inl ⟨q, h1⟩⟩
      · rw [if_neg c] at h
        obtain ⟨v, g1, g2, g3⟩ := atR_get s h2 h
        have hb : ((⟨s.toArray⟩ : Str) == f) = false := beq_eq_false_iff_ne.mpr (Ne.symm c)
        exact ⟨v, by simp only [List.lookup, hb]; exact g1, List.mem_cons_of_mem _ g2, g3⟩
    | true =>
      cases e with
      | fz es =>
        obtain ⟨v, r, b, os', xs, e1, e2, e3, h1, h2, h3⟩ := hr
        obtain ⟨rfl, rfl⟩ := List.cons.inj e1
        by_cases c : f = ⟨s.toArray⟩
        · rw [if_pos c] at h; cases h; subst c
          exact ⟨x, by simp [List.lookup], by simp, .inr ⟨es, b, xs, rfl, e2, by rw [e3]; simp, h1, h2⟩⟩
        · rw [if_neg c] at h
          obtain ⟨v, g1, g2, g3⟩ := atR_get s h3 h
          have hb : ((⟨s.toArray⟩ : Str) == f) = false := beq_eq_false_iff_ne.mpr (Ne.symm c)
          refine ⟨v, by simp only [List.lookup, hb]; exact g1, List.mem_cons_of_mem _ g2, g3.imp id ?_⟩
          rintro ⟨es', b', xs', z1, z2, z3, z4⟩
          exact ⟨es', b', xs', z1, z2, by rw [e3]; exact List.mem_cons_of_mem _ z3, z4⟩
      | _ => cases q
/-- an own list is given up, or grows -/
theorem atR_rep (s : List Nat) {es : List D} {b : Addr} {y : D} (keep : Bool) (e : ∀ d v, Rep K S d v → Rep K S' d v) (new : ∀ ds r os', AtR K S' H' ds r os' → AtR K S' H' (y :: ds) (.ref b :: r) (if keep = true then b :: os' else os')) : ∀ {fs : List (Str × V)} {vs : List D} {os : List Addr}, (fs.map (·.1)).Nodup → os.Nodup →
    AtR K S H vs (fs.map (·.2)) os → dAt (.str s) (nmsF fs) vs = some (.fz es) → fs.lookup (⟨s.toArray⟩ : Str) = some (.ref b) → (∀ c ∈ os, c ≠ b → H' c = H c) → AtR K S' H' (dRep (.str s) y (nmsF fs) vs) (fs.map (·.2)) (if keep = true then os else os.erase b)
  | [], vs, os, _, _, _, h, _, _ => by cases vs <;> cases h
  | (f, x) :: fs, [], os, _, _, _, h, _, _ => by cases h
  | (f, x) :: fs, d :: vs, os, nd, no, hr, h, hl, hH => by
    rw [dAt_cons] at h
    rw [List.map_cons, List.nodup_cons] at nd
    rw [dRep_cons]
    have rest_no : f = ⟨s.toArray⟩ → ∀ q ∈ fs, q.1 ≠ ⟨s.toArray⟩ := fun c q hq z => nd.1 (List.mem_map.mpr ⟨q, hq, z.trans c.symm⟩)
    cases q : isFz d with
    | false =>
      rw [atR_cons q] at hr
      obtain ⟨v, r, e1, h1, h2⟩ := hr
      obtain ⟨rfl, rfl⟩ := List.cons.inj e1
      by_cases c : f = ⟨s.toArray⟩
      · rw [if_pos c] at h; cases h; cases q
      · rw [if_neg c] at h
        have hb : ((⟨s.toArray⟩ : Str) == f) = false := beq_eq_false_iff_ne.mpr (Ne.symm c)
        simp only [List.lookup, hb] at hl
        rw [if_neg c, atR_cons q]
        exact ⟨x, _, rfl, e d x h1, atR_rep s keep e new nd.2 no h2 h hl hH⟩
    | true =>
      cases d with
      | fz es0 =>
        obtain ⟨v, r, b0, os', xs, e1, e2, e3, h1, h2, h3⟩ := hr
        obtain ⟨rfl, rfl⟩ := List.cons.inj e1
        subst e3
        rw [List.nodup_cons] at no
        by_cases c : f = ⟨s.toArray⟩
        · rw [if_pos c] at h; cases h
          have hl' : x = .ref b := by subst c; simpa [List.lookup] using hl
          have eb : b0 = b := by rw [hl'] at e2; cases e2; rfl
          subst eb
          rw [if_pos c, dRep_no (rest_no c) (by have := h3.len; simpa using this.symm), List.map_cons, hl']
          have hrest : AtR K S' H' vs (fs.map (·.2)) os' := h3.map e fun c hc => hH c (by simp [hc]) (by rintro rfl; exact no.1 hc)
          have z := new vs _ os' hrest
          cases keep with
          | true => exact z
          | false =>
            show AtR K S' H' _ _ ((b0 :: os').erase b0)
            rw [List.erase_cons_head]
            exact z
        · rw [if_neg c] at h
          have hb : ((⟨s.toArray⟩ : Str) == f) = false := beq_eq_false_iff_ne.mpr (Ne.symm c)
          simp only [List.lookup, hb] at hl
          rw [if_neg c]
          obtain ⟨v2, g1, g2, g3⟩ := atR_get s h3 h
          have hbin : b ∈ os' := by
            rcases g3 with ⟨z, _⟩ | ⟨es', b', xs', z1, z2, z3, z4⟩
            · cases z
            · rw [hl] at g1; cases g1; cases z2; exact z3
          have hne : b0 ≠ b := by rintro rfl; exact no.1 hbin
          have ih := atR_rep s keep e new nd.2 no.2 h3 h hl fun c hc => hH c (by simp [hc])
          refine ⟨x, _, b0, if keep = true then os' else os'.erase b, xs, rfl, e2, ?_, by rw [hH b0 (by simp) hne]; exact h1, repL_map e h2, ih⟩
          cases keep with
          | true => rfl
          | false =>
            show (b0 :: os').erase b = b0 :: os'.erase b
            rw [List.erase_cons_tail (by simpa using hne)]
      | _ => cases q
end
theorem share_all {σ : Sg} {env : Ev} {H : Hp} {F : Nat → List Addr} : ∀ (os : List Addr) {S : Hp}, StOk B N σ env S H F → os.Nodup → (∀ b ∈ os, ∃ xs, H b = some (.lst xs)) → (∀ b ∈ os, S b = none ∧ (∀ i, b ∉ F i) ∧ N.H0 b = none) →
    ∃ S2, Same S S2 ∧ StOk B N σ env S2 H F ∧ (∀ b ∈ os, S2 b = H b) ∧ ∀ x, x ∉ os → S2 x = S x
  | [], S, st, _, _, _ => ⟨S, Same.refl _, st, fun b hb => (by cases hb), fun x _ => rfl⟩
  | b :: os, S, st, no, hl, hp => by
    rw [List.nodup_cons] at no
    obtain ⟨xs, hx⟩ := hl b (by simp)
    obtain ⟨p1, p2, p3⟩ := hp b (by simp)
    have st1 := st.share hx p1 p2 p3
    obtain ⟨S2, e, st2, g1, g2⟩ := share_all os st1 no.2 (fun c hc => hl c (by simp [hc])) (fun c hc => by
      have := hp c (by simp [hc])
      refine ⟨?_, this.2⟩
      rw [upd_ne (by rintro rfl; exact no.1 hc)]
      exact this.1)
    refine ⟨S2, (same_upd p1).trans e, st2, fun c hc => ?_, fun x hx2 => ?_⟩
    · rcases List.mem_cons.mp hc with rfl | hc
      · rw [g2 _ no.1, upd_same, hx]
      · exact g1 c hc
    · rw [g2 x fun z => hx2 (by simp [z]), upd_ne (by rintro rfl; exact hx2 (by simp))]
theorem AtR.unfz {K : PySem.W.Frag} {S S2 H : Hp} (e : Same S S2) : ∀ {ds : List D} {vs : List V} {os : List Addr}, AtR K S H ds vs os → (∀ b ∈ os, S2 b = H b) → AtR K S2 H (ds.map Nf.unfz) vs []
  | [], _, _, h, _ => ⟨h.1, rfl⟩
  | d :: ds, vs, os, h, k => by
    cases q : isFz d with
    | false =>
      rw [atR_cons q] at h
      obtain ⟨v, r, e1, h1, h2⟩ := h
      have hd : Nf.unfz d = d := by cases d <;> first | rfl | cases q
      rw [List.map_cons, hd, atR_cons q]
      exact ⟨v, r, e1, h1.mono e, h2.unfz e k⟩
    | true =>
      cases d with
      | fz es =>
        obtain ⟨v, r, b, os', xs, e1, e2, e3, h1, h2, h3⟩ := h
        subst e3
        rw [List.map_cons]
        have hl : isFz (Nf.unfz (.fz es)) = false := rfl
        rw [atR_cons hl]
        refine ⟨v, r, e1, ?_, h3.unfz e fun c hc => k c (by simp [hc])⟩
        show Rep K S2 (.lst es) v
        unfold Rep
        exact ⟨b, xs, e2, by rw [k b (by simp)]; exact h1, h2.mono e⟩
      | _ => cases q
theorem se_fld {i : Nat} {f : List Nat} {x : Str} {p pos : Pos} (g : GC B cf P N X) (h : slotB cf i x = true) : PE X (.Attribute (.Name x p) ⟨f.toArray⟩ pos) (LE B N (wpE P (.fld i f))) := by
  obtain ⟨h1, h2, h3, h4⟩ := vis_of g h
  refine PE.imp (pe_fld (pe_var h1 h2 h3 h4) rfl) fun σ H Q hw => ?_
  obtain ⟨S, env, F, K, st, w, pp⟩ := hw
  simp only [wpE] at w
  split at w
  · rename_i c ks vs e0
    obtain ⟨d, hd, k⟩ := optW_get w
    obtain ⟨a, q1, q2⟩ := st.own i _ e0
    split at k
    · exact k.elim
    · rename_i hne
      obtain ⟨C, dx, fs, ks', vs', os, e1, m1, m2, m3, m4, m5, m6, m7, m8, m9, m10⟩ := q2
      cases e1
      subst m6
      obtain ⟨v, v1, v2, v3⟩ := atR_get f m7 hd
      obtain ⟨q, hq, eq⟩ := List.mem_map.mp v2
      rcases v3 with ⟨_, v3⟩ | ⟨es', b, xs, z1, _⟩
      · refine ⟨.ref a, q1, a, C, dx, fs, v, rfl, m4, ?_, ?_, v1, pp.giveV st k v3⟩
        · rw [g.g.hK]; exact m2.c
        · rw [g.g.hK]; exact m2.n _ (by rw [← eq]; exact m8 q hq)
      · exact (hne _ z1).elim
  · exact w.elim
theorem lookup_none {α : Type} {m : Str} : ∀ {fs : List (Str × α)}, (∀ q ∈ fs, q.1 ≠ m) → fs.lookup m = none
  | [], _ => rfl
  | (f, x) :: fs, h => by
    have hb : (m == f) = false := beq_eq_false_iff_ne.mpr fun z => h (f, x) (by simp) z.symm
    simp only [List.lookup, hb]
    exact lookup_none fun q hq => h q (by simp [hq])
/-! methods -/
theorem all_not {l : List (Bool × Sem Value)} (h : l.any (·.1) = false) : l.all (fun x => !x.1) = true := by
  induction l with
  | nil => rfl
  | cons x l ih =>
    rw [List.any_cons, Bool.or_eq_false_iff] at h
    rw [List.all_cons, h.1, ih h.2]; rfl
theorem meth_tree {o : Expr} {name : Str} {apos pos : Pos} {es : List Expr} {env : PySem.Env} (hb : attributeBase o name env (eval o env) = eval o env) (hn : noStars es = true) (hlen : es.length < 30) (hl : (apos.endLine == pos.line) = true) :
    eval (.Call (.Attribute o name apos) es [] pos) env = (do
      let ov ← eval o env
      standAt apos.atName
      let (f, first) ← holding [ov] (getMethod ov name (do return (← importBound o env).getD true))
      callWith pos f first (backTo pos (starEach es env)) (backToKw pos (keywordEach [] env))) := by
  have hform : methodCallForm (es.length + ([] : List Keyword).length) (backTo pos (starEach es env)) (backToKw pos (keywordEach [] env)) = true := by
    unfold methodCallForm
    rw [all_not (star_any env pos hn)]
    show (true && true && decide (es.length + 0 + 0 < 30)) = true
    rw [decide_eq_true (by omega)]; rfl
  have hpos : methodCallPos true o env apos pos = pure pos := by unfold methodCallPos; simp [hl]
  rw [arm_eval_Call, hb]
  refine congrArg (fun k => eval o env >>= k) (funext fun ov => congrArg (fun k => standAt apos.atName >>= k) (funext fun _ => ?_))
  unfold methodCall
  rw [hform, hpos]
  rfl
theorem se_meth {i : Nat} {c : List Nat} {m : String} {as : Es} {es : List Expr} {x : Str} {mm cls : String} {p ap pos : Pos} (g : GC B cf P N X) (h : slotB cf i x = true) (hn : noStars es = true) (hlen : es.length < 30) (hfs : m ∈ cf.fs) (hl : (ap.endLine == pos.line) = true) (hmt : mtOf m = some (false, cls, mm)) (hcls : Str.ofString cls = ⟨c.toArray⟩)
    (hs : PEs X es (tsOf B N P as)) : PE X (.Call (.Attribute (.Name x p) (Str.ofString mm) ap) es [] pos) (LE B N (wpE P (.meth i c m as))) := by
  obtain ⟨h1, h2, h3, h4⟩ := vis_of g h
  refine ⟨fun pins s σ H Q I hw => ?_⟩
  obtain ⟨S, env, F, K, st, w, pp⟩ := hw
  simp only [wpE] at w
  obtain ⟨⟨st0, e0⟩, w⟩ := isObj_get w
  obtain ⟨k, hr, hany⟩ := g.fns m hfs
  obtain ⟨cls', mm', C, gf, fd, ps, n, hq, hm, hc, hmeth, hna, hb, hlen2, Fn⟩ := hany.mth hmt
  rw [hmt] at hq
  cases hq
  obtain ⟨a, q1, q2⟩ := st.own i _ e0
  obtain ⟨C', dx, fs, ks, vs0, os, e1, m1, m2, m3, m4, m5, m6, m7, m8, m9, m10⟩ := q2
  have eC : C' = C := by
    rw [g.bmg, ← hcls, hm] at m1
    cases m1; rfl
  subst eC
  have hnest : nest (tsOf B N P as) (fun vs H2 Q => spCon B X.mg n (P.cl m) (.ref a :: (vs ++ [])) H2 Q (EXw B P N X.mg)) σ H Q := by
    refine nest_go st w fun rs env1 vs S1 H1 F1 k1 e1 st1 rel1 => ?_
    rw [g.refs] at k1
    obtain ⟨rs2, env2, S2, F2, k2, e2, st2, rel2, hseen⟩ := keepArgs_ok (vs := .ref a :: vs) st1 (show RelSs B σ S1 (.l i :: rs) (.ref a :: vs) from ⟨.ref a, vs, rfl, q1, rel1⟩) k1
    split at k2
    · rename_i nd apd
      obtain ⟨sl, k3, args⟩ := argsOf_ok st2 rel2 k2
      rw [List.append_nil]
      have hlent : ∃ j l, lentOf [0] 0 rs2 = j :: l := by
        cases rs2 with
        | nil =>
          obtain ⟨e5, e6⟩ := args
          cases e6
        | cons r rs3 =>
          obtain ⟨s0, as', v0, vs', e5, e6, _, hh⟩ := args
          rcases hh with ⟨_, j, o, e7, _⟩ | ⟨z, _⟩
          · subst e7; exact ⟨j, _, rfl⟩
          · cases z
      refine call_core (WISH := fun r e => K r e) hlen2 st2 args nd apd (hseen rfl) k3 (fun r outs ho => ?_) (fun r e S3 H' F3 fr v hw e3 st3 rel3 => ?_) fun c' ho => ?_
      · have ho' : setOws (lentOf [0] 0 rs2) outs env2 fun env1 => outK [] outs K env1 r := ho
        obtain ⟨e, z1, z2⟩ := setOws_ex ho'
        refine ⟨e, z1, ?_⟩
        cases r with
        | l i => exact z2.elim
        | v d => exact z2
        | t o => exact z2
      · exact pp r e v S3 H' F3 fr hw (e1.trans (e2.trans e3)) st3 rel3
      · obtain ⟨j, l, hj⟩ := hlent
        have ho' : (match lentOf [0] 0 rs2 with
          | [] => P.ex c'
          | _ => False) := ho
        rw [hj] at ho'
        exact ho'.elim
    · exact k2.elim
  rw [nest_eq] at hnest
  have hno : fs.lookup (Str.ofString mm) = none := lookup_none fun q hq z => hna (by rw [← z]; exact m8 q hq)
  have hcX : Cls X.K C' := hc
  cases es with
  | nil =>
    have ht : tsOf B N P as = [] := hs
    rw [ht] at hnest
    exact (pe_meth0 (pe_var h1 h2 h3 h4) hcX hmeth Fn hr hb .nil g.pas (meth_tree rfl hn hlen hl)).run pins s σ H Q I ⟨.ref a, q1, a, dx, fs, rfl, m4, hno, hnest⟩
  | cons e es =>
    have hn' := hn
    unfold noStars at hn'
    rw [Bool.and_eq_true] at hn'
    exact (pe_meth (pe_var h1 h2 h3 h4) hcX hmeth Fn hr hb .nil g.pas (pa_all hs hn) (star_cons _ hn'.1) (star_any _ _ hn'.2) (meth_tree rfl hn hlen hl)).run pins s σ H Q I ⟨.ref a, q1, a, dx, fs, rfl, m4, hno, hnest⟩
/-! new objects -/
theorem ArgIs.plain {σ : Sg} {env : Ev} {S : Hp} : ∀ {rs : List R} {p : Nat} {sl : List Slot} {vs : List V}, 1 ≤ p → ArgIs σ env S B [0] p rs sl vs → seenOf [0] p rs = [] → sl.length = vs.length ∧ ∀ (q : Nat) (s : Slot), sl[q]? = some s → ∃ d v, s = .sh d ∧ vs[q]? = some v ∧ Rep B.K S d v
  | [], p, sl, vs, hp, ⟨e1, e2⟩, _ => by subst e1 e2; exact ⟨rfl, fun q s h => by simp at h⟩
  | r :: rs, p, sl, vs, hp, ⟨s0, as', v0, vs', e1, e2, h, hh⟩, hs => by
    subst e1 e2
    have hm : memN p [0] = false := by
      obtain ⟨m, rfl⟩ : ∃ m, p = m + 1 := ⟨p - 1, by omega⟩
      rfl
    rw [hm] at hh
    rcases hh with ⟨z, _⟩ | ⟨_, _, d, rfl, hr⟩
    · cases z
    have hnl : ∀ i, r ≠ .l i := fun i z => by
      subst z
      have : seenOf [0] p (.l i :: rs) = i :: seenOf [0] (p + 1) rs := by
        conv => lhs; unfold seenOf
        rw [hm]
      rw [this] at hs; cases hs
    have hs' : seenOf [0] (p + 1) rs = [] := by
      unfold seenOf at hs
      rw [hm] at hs
      cases r with
      | v d => exact hs
      | t o => exact hs
      | l i => exact (hnl i rfl).elim
    have hrep : Rep B.K S d v0 := by
      rcases hr with z | ⟨i, o, z, _⟩
      · exact z
      · exact (hnl i z).elim
    obtain ⟨g1, g2⟩ := ArgIs.plain (by omega) h hs'
    refine ⟨by simp [g1], fun q s e => ?_⟩
    cases q with
    | zero =>
      have : s = .sh d := by simpa using e.symm
      exact ⟨d, v0, this, rfl, hrep⟩
    | succ q => exact g2 q s (by simpa using e)
theorem refs_sh {p : Nat} : ∀ {sl : List Slot}, (∀ (q : Nat) (s : Slot), sl[q]? = some s → ∃ d, s = .sh d) → refsOf p sl = []
  | [], _ => rfl
  | s :: sl, h => by
    obtain ⟨d, rfl⟩ := h 0 s rfl
    have : refsOf p (.sh d :: sl) = refsOf (p + 1) sl := rfl
    rw [this]
    exact refs_sh fun q s' e => h (q + 1) s' (by simpa using e)
theorem se_mk {c : List Nat} {m : String} {as : Es} {es : List Expr} {mm cls : String} {p pos : Pos} (g : GC B cf P N X) (hg : glB cf.sc ⟨c.toArray⟩ = true) (hd : ((⟨c.toArray⟩ : Str) == ("__debug__" : Str)) = false) (hn : noStars es = true) (hfs : m ∈ cf.fs) (hmt : mtOf m = some (true, cls, mm)) (hcls : Str.ofString cls = ⟨c.toArray⟩)
    (hs : PEs X es (tsOf B N P as)) : PE X (.Call (.Name ⟨c.toArray⟩ p) es [] pos) (LE B N (wpE P (.mk c m as))) := by
  refine ⟨fun pins s σ H Q I hw => ?_⟩
  obtain ⟨S, env, F, K, st, w, pp⟩ := hw
  obtain ⟨k, hr, hany⟩ := g.fns m hfs
  obtain ⟨cls', mm', C, gf, fd, ps, n, j, hq, hm, hmk, hcf, hb, hlen, hj, Fn⟩ := hany.mk hmt
  rw [hmt] at hq
  cases hq
  subst hj
  have w' : wpEs P as env fun rs env1 => keepArgs P.refs [0] [] 1 env1 rs fun rs env2 => argsOf [0] env2 1 rs fun sl => P.cl m (.ow (.obj c (.dic [] [])) :: sl) (mkW env2 K) := by
    simpa only [wpE] using w
  have hnest : nest (tsOf B N P as) (fun vs H1 Q => ∀ x dx, H1 x = none → H1 dx = none → dx ≠ x → spCon B X.mg n (P.cl m) (.ref x :: (vs ++ [])) (upd (upd H1 dx (.own x)) x (.ins C dx [])) (fun v H2 => v = .non ∧ Q (.ref x) H2) (EXw B P N X.mg)) σ H Q := by
    refine nest_go st w' fun rs env1 vs S1 H1 F1 k1 e1 st1 rel1 => ?_
    intro x dx hx hdx hne
    rw [g.refs] at k1
    obtain ⟨rs2, env2, S2, F2, k2, e2, st2, rel2, hseen⟩ := keepArgs_ok st1 rel1 k1
    obtain ⟨sl, k3, args⟩ := argsOf_ok st2 rel2 k2
    obtain ⟨lsl, get⟩ := args.plain (Nat.le_refl _) (hseen rfl)
    rw [List.append_nil]
    have hH : ∀ {b : Addr} {o : HO}, H1 b = some o → upd (upd H1 dx (.own x)) x (.ins C dx []) b = some o := fun {b o} e => by
      rw [upd_ne (ne_of_none e hx), upd_ne (ne_of_none e hdx)]; exact e
    have hx2 : upd (upd H1 dx (.own x)) x (.ins C dx []) x = some (.ins C dx []) := upd_same
    have hdx2 : upd (upd H1 dx (.own x)) x (.ins C dx []) dx = some (.own x) := by rw [upd_ne hne, upd_same]
    have hrefs : refsOf 0 (.ow (.obj c (.dic [] [])) :: sl) = [0] := by
      have : refsOf 0 (.ow (.obj c (.dic [] [])) :: sl) = 0 :: refsOf 1 sl := rfl
      rw [this, refs_sh fun q s' e => (get q s' e).imp fun d h => h.choose_spec.1]
    have horel : B.orel c (.dic [] []) S2 (upd (upd H1 dx (.own x)) x (.ins C dx [])) x [x, dx] := ⟨C, dx, [], [], [], [], rfl, by rw [g.bmg, ← hcls]; exact hm, by rw [← g.g.hK]; exact hcf, rfl, hx2, hdx2, rfl, ⟨rfl, rfl⟩, fun q hq => (by cases hq), List.nodup_nil, List.nodup_nil⟩
    have hSn : ∀ {b : Addr}, H1 b = none → S2 b = none := fun {b} e => sub_none st2 e
    have memF : ∀ {q : Nat} {b : Addr}, b ∈ (if q = 0 then [x, dx] else ([] : List Addr)) → q = 0 ∧ (b = x ∨ b = dx) := fun {q b} hb => by
      by_cases z : q = 0
      · rw [if_pos z] at hb; exact ⟨z, by simpa using hb⟩
      · rw [if_neg z] at hb; cases hb
    have hlive : ∀ {q : Nat} {b : Addr}, b ∈ (if q = 0 then [x, dx] else ([] : List Addr)) → upd (upd H1 dx (.own x)) x (.ins C dx []) b ≠ none ∧ S2 b = none ∧ H1 b = none := fun {q b} hb => by
      obtain ⟨_, rfl | rfl⟩ := memF hb
      · exact ⟨(by rw [hx2]; exact fun z => nomatch z), hSn hx, hx⟩
      · exact ⟨(by rw [hdx2]; exact fun z => nomatch z), hSn hdx, hdx⟩
    have st0 : StOk B (entOf S2 (upd (upd H1 dx (.own x)) x (.ins C dx [])) (fun q => if q = 0 then [x, dx] else []) (.ref x :: vs) (.ow (.obj c (.dic [] [])) :: sl)) ((V.ref x :: vs).map some) (.ow (.obj c (.dic [] [])) :: sl) S2 (upd (upd H1 dx (.own x)) x (.ins C dx [])) (fun q => if q = 0 then [x, dx] else []) := by
      refine ⟨Same.refl _, fun b o q => hH (st2.sub _ _ q), fun b o e _ => e, fun b e _ => e, fun q d e => ?_, fun q o e => ?_, fun q b hb => ?_, fun q q' b h1 h2 => ?_, fun _ _ => rfl, by simp [lsl], fun q hq => ?_, fun q b hb => ?_⟩
      · cases q with
        | zero => cases e
        | succ q =>
          obtain ⟨d', v, z1, z2, z3⟩ := get q _ (by simpa using e)
          cases z1
          exact ⟨v, by simp [z2], z3⟩
      · cases q with
        | zero =>
          have : o = .obj c (.dic [] []) := by cases e; rfl
          subst this
          exact ⟨x, rfl, horel⟩
        | succ q =>
          obtain ⟨d', v, z1, _⟩ := get q _ (by simpa using e)
          cases z1
      · exact ⟨(hlive hb).2.1, (hlive hb).1, .inl hb⟩
      · have a := (memF h1).1
        have b := (memF h2).1
        omega
      · show (if q = 0 then [x, dx] else []) = []
        rw [if_neg]
        rintro rfl
        refine hq ?_
        show 0 ∈ refsOf 0 (.ow (.obj c (.dic [] [])) :: sl)
        rw [hrefs]; simp
      · exact (hlive hb).1
    refine ⟨by rw [← hlen _ _ k3]; simp [lsl], S2, _, _, _, by simp [lsl], st0, k3, ?_, fun c' _ _ _ _ _ _ ko => by cases ko⟩
    intro r outs σ' env' S' H' F' fr v ko st' ho rel hnl
    rw [hrefs] at ho
    obtain ⟨o', rest, eo, e0, hrest⟩ := ho
    cases (show rest = [] from hrest)
    subst eo
    have hv : ∃ c' ks vs, r = .v .non ∧ o' = .obj c' (.dic ks vs) ∧ K (.t (.obj c' (.dic ks (vs.map unfz)))) env2 := by
      cases r with
      | v d =>
        cases d with
        | non =>
          cases o' with
          | obj c' st =>
            cases st with
            | dic ks vs => exact ⟨c', ks, vs, rfl, rfl, ko⟩
            | _ => exact ko.elim
          | _ => exact ko.elim
        | _ => exact ko.elim
      | t o => exact ko.elim
      | l i => exact ko.elim
    obtain ⟨c', ks1, vs1, rfl, rfl, kk⟩ := hv
    refine ⟨rel.1, ?_⟩
    obtain ⟨a, p1, p2⟩ := st'.own 0 _ e0
    have ea : a = x := by
      have := st'.pin 0 (by show 0 ∈ refsOf 0 _; rw [hrefs]; simp)
      rw [p1] at this
      cases this; rfl
    subst ea
    have keep : ∀ {b : Addr} {o : HO}, H1 b = some o → H' b = some o := fun {b o} e => st'.frame b o (hH e) fun q hq => by
      have := (hlive hq).2.2
      rw [e] at this; cases this
    have some_of : ∀ {b : Addr}, H1 b ≠ none → ∃ o, H1 b = some o := fun {b} h => by
      cases e : H1 b with
      | none => exact (h e).elim
      | some o => exact ⟨o, rfl⟩
    have live1 : ∀ {b : Addr}, N.H0 b ≠ none → H1 b ≠ none := fun {b} h z => h (h0_none st2 z)
    have sfresh : ∀ {b : Addr}, S2 b = none → H1 b ≠ none → S' b = none := fun {b} h1 h2 => st'.fresh b h1 (by
      obtain ⟨o, e⟩ := some_of h2
      show upd (upd H1 dx (.own a)) a (.ins C dx []) b ≠ none
      rw [hH e]; exact fun z => by cases z)
    have st3 : StOk B N σ env2 S' H' F2 := by
      refine ⟨st2.s0.trans st'.s0, st'.sub, fun b o e nf => keep (st2.frame b o e nf), fun b e1 e2 => sfresh (st2.fresh b e1 e2) (live1 e2), fun i d e => ?_, fun i o e => ?_, fun i b hb => ?_, st2.dj, st2.pin, st2.len, st2.wf, fun i b hb => ?_⟩
      · obtain ⟨v, z1, z2⟩ := st2.val i d e
        exact ⟨v, z1, z2.mono st'.s0⟩
      · obtain ⟨a', z1, z2⟩ := st2.own i o e
        refine ⟨a', z1, z2.stab st'.s0 fun b hb => ?_⟩
        obtain ⟨o2, eo⟩ := some_of (st2.priv i b hb).2.1
        rw [keep eo, eo]
      · obtain ⟨z1, z2, z3⟩ := st2.priv i b hb
        obtain ⟨o2, eo⟩ := some_of z2
        exact ⟨sfresh z1 z2, (by rw [keep eo]; exact fun z => nomatch z), z3⟩
      · obtain ⟨o2, eo⟩ := some_of (st2.f0 i b hb)
        rw [keep eo]; exact fun z => by cases z
    have pv : ∀ b ∈ F' 0, S' b = none ∧ (∀ i, b ∉ F2 i) ∧ N.H0 b = none := fun b hb => by
      obtain ⟨z1, z2, z3⟩ := st'.priv 0 b hb
      have hb1 : H1 b = none := by
        rcases z3 with z | z
        · exact (hlive (q := 0) z).2.2
        · have z' : upd (upd H1 dx (.own a)) a (.ins C dx []) b = none := z
          cases e : H1 b with
          | none => rfl
          | some o => rw [hH e] at z'; cases z'
      exact ⟨z1, fun i => st2.notF hb1 i, h0_none st2 hb1⟩
    obtain ⟨C3, dx3, fs3, ks3, vs3, os3, e1', y1, y2, y3, y4, y5, y6, y7, y8, y9, y10⟩ := p2
    cases e1'
    obtain ⟨S4, e4, st4, g1, g2⟩ := share_all os3 st3 y10 y7.live fun b hb => pv b (by rw [y3]; simp [hb])
    refine pp _ env2 (.ref a) S4 H' F2 [a, dx3] kk (e1.trans (e2.trans (st'.s0.trans e4))) st4 ⟨a, rfl, ⟨C3, dx3, fs3, _, _, [], rfl, y1, y2, rfl, y4, y5, y6, y7.unfz e4 g1, y8, y9, List.nodup_nil⟩, fun b hb => ?_⟩
    have hbF : b ∈ F' 0 := by
      rw [y3]
      simp only [List.mem_cons, List.not_mem_nil, or_false] at hb ⊢
      rcases hb with z | z
      · exact .inl z
      · exact .inr (.inl z)
    have hno : b ∉ os3 := fun z => by
      obtain ⟨xs, ex⟩ := y7.live b z
      simp only [List.mem_cons, List.not_mem_nil, or_false] at hb
      rcases hb with rfl | rfl
      · rw [y4] at ex; cases ex
      · rw [y5] at ex; cases ex
    obtain ⟨z1, z2, z3⟩ := pv b hbF
    exact ⟨by rw [g2 b hno]; exact z1, z3, z2⟩
  rw [nest_eq] at hnest
  have hmX : X.mg (⟨c.toArray⟩ : Str) = some (.ref C) := by rw [← hcls]; exact hm
  cases es with
  | nil =>
    have ht : tsOf B N P as = [] := hs
    rw [ht] at hnest
    exact (pe_make0 hmk Fn hr (g.g.gl hg) hmX hb .nil g.pas hd).run pins s σ H Q I hnest
  | cons e es =>
    have hn' := hn
    unfold noStars at hn'
    rw [Bool.and_eq_true] at hn'
    exact (pe_make hmk Fn hr (g.g.gl hg) hmX hb .nil g.pas (pa_all hs hn) hd (star_cons _ hn'.1) (star_any _ _ hn'.2)).run pins s σ H Q I hnest
/-- C(..).m(x): made, asked, gone -/
theorem se_mkm {c : List Nat} {m0 m : String} {j : Nat} {as : Es} {es : List Expr} {mm0 mm cls : String} {y : Str} {p p2 cp ap pos : Pos} (g : GC B cf P N X) (hg : glB cf.sc ⟨c.toArray⟩ = true) (hd : ((⟨c.toArray⟩ : Str) == ("__debug__" : Str)) = false) (hn : noStars es = true) (hfs0 : m0 ∈ cf.fs) (hfs : m ∈ cf.fs) (hy : slotB cf j y = true) (hl : (ap.endLine == pos.line) = true)
    (hmt0 : mtOf m0 = some (true, cls, mm0)) (hmt : mtOf m = some (false, cls, mm)) (hcls : Str.ofString cls = ⟨c.toArray⟩) (hne : es.isEmpty = false)
    (hs : PEs X es (tsOf B N P as)) : PE X (.Call (.Attribute (.Call (.Name ⟨c.toArray⟩ p) es [] cp) (Str.ofString mm) ap) [.Name y p2] [] pos) (LE B N (wpE P (.mkm c m0 as m j))) := by
  obtain ⟨h1, h2, h3, h4⟩ := vis_of g hy
  have hbase : attributeBase (.Call (.Name ⟨c.toArray⟩ p) es [] cp) (Str.ofString mm) X.env (eval (.Call (.Name ⟨c.toArray⟩ p) es [] cp) X.env) = eval (.Call (.Name ⟨c.toArray⟩ p) es [] cp) X.env := by
    cases es with
    | nil => cases hne
    | cons _ _ => rfl
  have hmk := se_mk (pos := cp) (p := p) g hg hd hn hfs0 hmt0 hcls hs
  refine ⟨fun pins s σ H Q I hw => ?_⟩
  obtain ⟨S, env, F, K, st, w, pp⟩ := hw
  have w' : wpE P (.mk c m0 as) env (mkmW P.cl c m j K) := by
    simp only [wpE] at w ⊢
    exact w
  obtain ⟨k, hr, hany⟩ := g.fns m hfs
  obtain ⟨cls', mm', C, gf, fd, ps, n, hq, hm, hc, hmeth, hna, hb, hlen2, Fn⟩ := hany.mth hmt
  rw [hmt] at hq
  cases hq
  have hcX : Cls X.K C := hc
  have hno : ∀ fs : List (Str × V), (∀ q ∈ fs, q.1 ∈ attrNames) → fs.lookup (Str.ofString mm) = none := fun fs m8 => lookup_none fun q hq z => hna (by rw [← z]; exact m8 q hq)
  refine (pe_meth hmk hcX hmeth Fn hr hb .nil g.pas (pa_cons (pe_var (pos := p2) h1 h2 h3 h4) pa_nil (star_cons _ rfl)) (star_cons _ rfl) (by rfl) (meth_tree (es := [.Name y p2]) hbase rfl (show 1 < 30 by decide) hl)).run pins s σ H Q I ?_
  refine ⟨S, env, F, _, st, w', fun r env1 v S1 H1 F1 fr k1 e1 st1 rel => ?_⟩
  unfold mkmW at k1
  split at k1
  · rename_i c' st0 d hd2
    obtain ⟨rfl, k1⟩ := k1
    obtain ⟨a, rfl, q2, hfr⟩ := rel
    obtain ⟨vd, hv, hrep⟩ := st1.val j d hd2
    obtain ⟨C', dx, fs, ks, vs0, os, e2, m1, m2, m3, m4, m5, m6, m7, m8, m9, m10⟩ := id q2
    have eC : C' = C := by
      rw [g.bmg, ← hcls, hm] at m1
      cases m1; rfl
    subst eC
    refine ⟨a, dx, fs, rfl, m4, hno fs m8, vd, hv, ?_⟩
    show spCon B X.mg n (P.cl m) [.ref a, vd] H1 Q (EXw B P N X.mg)
    have memF : ∀ {q : Nat} {b : Addr}, b ∈ (if q = 0 then fr else ([] : List Addr)) → q = 0 ∧ b ∈ fr := fun {q b} hb => by
      by_cases z : q = 0
      · rw [if_pos z] at hb; exact ⟨z, hb⟩
      · rw [if_neg z] at hb; cases hb
    have hrefs : refsOf 0 [.ow (.obj c' st0), .sh d] = [0] := rfl
    have hlive : ∀ {b : Addr}, b ∈ fr → H1 b ≠ none := fun {b} hb => OwnRel.live q2 b hb
    have st2 : StOk B (entOf S1 H1 (fun q => if q = 0 then fr else []) [.ref a, vd] [.ow (.obj c' st0), .sh d]) ([V.ref a, vd].map some) [.ow (.obj c' st0), .sh d] S1 H1 (fun q => if q = 0 then fr else []) := by
      refine ⟨Same.refl _, st1.sub, fun b o e _ => e, fun b e _ => e, fun q d' e => ?_, fun q o e => ?_, fun q b hb => ?_, fun q q' b h1 h2 => ?_, fun _ _ => rfl, rfl, fun q hq => ?_, fun q b hb => ?_⟩
      · match q, e with
        | 0, e => cases e
        | 1, e => cases e; exact ⟨vd, rfl, hrep⟩
        | q + 2, e => simp at e
      · match q, e with
        | 0, e =>
          have : o = .obj c' st0 := by cases e; rfl
          subst this
          exact ⟨a, rfl, q2⟩
        | 1, e => cases e
        | q + 2, e => simp at e
      · exact ⟨(hfr b (memF hb).2).1, hlive (memF hb).2, .inl hb⟩
      · have a1 := (memF h1).1
        have b1 := (memF h2).1
        omega
      · show (if q = 0 then fr else []) = []
        rw [if_neg]
        rintro rfl
        exact hq (by show 0 ∈ refsOf 0 [.ow (.obj c' st0), .sh d]; rw [hrefs]; simp)
      · exact hlive (memF hb).2
    refine ⟨by rw [← hlen2 _ _ k1]; rfl, S1, _, _, _, rfl, st2, k1, ?_, fun c' _ _ _ _ _ _ ko => by cases ko⟩
    intro r outs σ' env' S' H' F' fr' v ko st' ho rel' hnl
    have hv : ∃ d', r = .v d' ∧ K (.v d') env1 := by
      cases r with
      | v d' => match outs, ko with
        | [_], ko => exact ⟨d', rfl, ko⟩
        | [], ko => exact ko.elim
        | _ :: _ :: _, ko => exact ko.elim
      | t o => exact ko.elim
      | l i => exact ko.elim
    obtain ⟨d', rfl, kk⟩ := hv
    have keep : ∀ {b : Addr} {o : HO}, H1 b = some o → b ∉ fr → H' b = some o := fun {b o} e hb => st'.frame b o e fun q hq => hb (memF hq).2
    have some_of : ∀ {b : Addr}, H1 b ≠ none → ∃ o, H1 b = some o := fun {b} h => by
      cases e : H1 b with
      | none => exact (h e).elim
      | some o => exact ⟨o, rfl⟩
    have notfr : ∀ {i : Nat} {b : Addr}, b ∈ F1 i → b ∉ fr := fun {i b} hb z => (hfr b z).2.2 i hb
    have n0 : ∀ {b : Addr}, N.H0 b ≠ none → b ∉ fr := fun {b} h z => h (hfr b z).2.1
    have live1 : ∀ {b : Addr}, N.H0 b ≠ none → H1 b ≠ none := fun {b} h z => h (h0_none st1 z)
    have sfresh : ∀ {b : Addr}, S1 b = none → H1 b ≠ none → S' b = none := fun {b} h1 h2 => st'.fresh b h1 h2
    have st3 : StOk B N σ env1 S' H' F1 := by
      refine ⟨st1.s0.trans st'.s0, st'.sub, fun b o e nf => keep (st1.frame b o e nf) (n0 (by rw [e]; exact fun z => nomatch z)), fun b e1 e2 => sfresh (st1.fresh b e1 e2) (live1 e2), fun i d e => ?_, fun i o e => ?_, fun i b hb => ?_, st1.dj, st1.pin, st1.len, st1.wf, fun i b hb => ?_⟩
      · obtain ⟨v, z1, z2⟩ := st1.val i d e
        exact ⟨v, z1, z2.mono st'.s0⟩
      · obtain ⟨a', z1, z2⟩ := st1.own i o e
        refine ⟨a', z1, z2.stab st'.s0 fun b hb => ?_⟩
        obtain ⟨o2, eo⟩ := some_of (st1.priv i b hb).2.1
        rw [keep eo (notfr hb), eo]
      · obtain ⟨z1, z2, z3⟩ := st1.priv i b hb
        obtain ⟨o2, eo⟩ := some_of z2
        exact ⟨sfresh z1 z2, (by rw [keep eo (notfr hb)]; exact fun z => nomatch z), z3⟩
      · have hH := st1.f0 i b hb
        obtain ⟨o2, eo⟩ := some_of hH
        by_cases nb : b ∈ fr
        · exact st'.f0 0 b (by show b ∈ (if (0 : Nat) = 0 then fr else []); rw [if_pos rfl]; exact nb)
        · rw [keep eo nb]; exact fun z => by cases z
    exact pp _ env1 v S' H' F1 [] kk (e1.trans st'.s0) st3 ⟨rel'.1, rfl⟩
  · exact k1.elim
end
end Nf
set_option maxHeartbeats 1000000
/-! zip of a tuple and a list -/
namespace Nf
open PySem PySem.Spec L2
section
variable {prog : Program} {w : World} {A : Around} {E : Value → Shared → Prop} {s : Shared}
/-- the iterator at i, ready by R, gives x and is then as R' says -/
def Src (prog : Program) (w : World) (A : Around) (i : Addr) (R R' : Heap → Prop) (x : Value) : Prop := ∀ (E : Value → Shared → Prop) (s : Shared) (Q : Value → Shared → Prop), R s.heap →
  (∀ h', R' h' → Heap.SameBut i s.heap h' → Q x { s with heap := h' }) → wpAny (model prog w) A (Builtin.SmallTypes.nextOf (.ref i)) Q E s
/-- the iterator at i, at its end by R -/
def Dry (prog : Program) (w : World) (A : Around) (i : Addr) (R : Heap → Prop) : Prop := ∀ (E : Value → Shared → Prop) (s : Shared) (Q : Value → Shared → Prop), R s.heap →
  (∀ h' e, Heap.ExtBut i s.heap h' → (∃ o, h'.get? e = some o ∧ o.cls = .type "StopIteration") → E (.ref e) { s with heap := h' }) → wpAny (model prog w) A (Builtin.SmallTypes.nextOf (.ref i)) Q E s
/-- what is apart -/
structure Far (zp tI tO ia ib : Addr) : Prop where
  a1 : tI ≠ zp
  a2 : tO ≠ zp
  a3 : ia ≠ zp
  a4 : ib ≠ zp
  a5 : tO ≠ ia
  a6 : tO ≠ ib
  a7 : ia ≠ ib
theorem zg_item {zp tI tO ia ib : Addr} {R1 R1' R2 R2' : Heap → Prop} {x y a b : Value} {Q : Value → Shared → Prop} (D : Far zp tI tO ia ib) (s1 : Src prog w A ia R1 R1' x) (s2 : Src prog w A ib R2 R2' y)
    (k1 : ∀ h h', R1 h → (∀ c o, c ≠ zp → h.get? c = some o → h'.get? c = some o) → R1 h') (k2 : ∀ h h', R2 h → (∀ c o, c ≠ zp → c ≠ tO → c ≠ ia → h.get? c = some o → h'.get? c = some o) → R2 h')
    (hz : IsZip s.heap zp tI tO .none) (hTI : IsPair s.heap tI (.ref ia) (.ref ib)) (hTO : IsPair s.heap tO a b) (r1 : R1 s.heap) (r2 : R2 s.heap)
    (hQ : ∀ h', IsZip h' zp tI tO (rawInt s.heap.objs.size) → IsPair h' tO x y → (∃ g, R1' g ∧ ∀ c o, c ≠ zp → c ≠ tO → c ≠ ib → g.get? c = some o → h'.get? c = some o) → (∃ g, R2' g ∧ ∀ c o, c ≠ zp → c ≠ tO → g.get? c = some o → h'.get? c = some o) →
      IsPair h' s.heap.objs.size x y → h'.objs.size = s.heap.objs.size + 1 → (∀ c o, c ≠ zp → c ≠ tO → c ≠ ia → c ≠ ib → s.heap.get? c = some o → h'.get? c = some o) → Q (.ref s.heap.objs.size) { s with heap := h' }) :
    wpAny (model prog w) A (Builtin.«zip.__next__» ⟨[.ref zp], []⟩) (fun fin s' => ∃ v, fin = .done (.ret v) ∧ Q v s') E s := by
  show wpAny _ _ (field (.ref zp) 2 >>= _) _ _ _
  refine wpAny_bind (wpAny_field hz rfl (x := .bool false) rfl (show wpAny _ _ (field (.ref zp) 3 >>= _) _ _ _ from wpAny_bind (wpAny_field hz rfl (x := .ref tI) rfl (wpAny_bind (wpAny_seqItems hTI rfl ?g1)))))
  show wpAny _ _ (Builtin.SmallTypes.ownedTupleIsFree (.ref zp) >>= _) _ _ _
  refine wpAny_bind ?g2
  unfold Builtin.SmallTypes.ownedTupleIsFree
  refine wpAny_bind (wpAny_field hz rfl (x := .none) rfl (wpAny_pure ?g3))
  rw [if_pos rfl]
  refine wpAny_bind (wpAny_rule (wpAny_bind (wpAny_field hz rfl (x := .ref tO) rfl (wpAny_bind (wpAny_setField_rec hz (by simp) fun g₁ z₁ u₁ => ?g4)))))
  replace z₁ : IsZip g₁ zp tI tO .ellipsis := z₁
  refine wpAny_bind ?g5
  simp only [List.forIn_cons, List.forIn_nil, List.zipIdx_cons, List.zipIdx_nil]
  refine wpAny_bind (wpAny_bind (wpAny_onRaise ?g6))
  show wpAny _ _ (Builtin.SmallTypes.nextOf (.ref ia) >>= _) _ _ _
  refine wpAny_bind (s1 _ _ _ (k1 _ _ r1 fun c o c1 e => u₁.extBut _ _ c1 e) fun g₂ q₂ u₂ => wpAny_pure ?g7)
  have t₂ : IsPair g₂ tO a b := u₂.extBut _ _ D.a5 (u₁.extBut _ _ D.a2 hTO)
  refine wpAny_bind (wpAny_seqItems t₂ rfl (wpAny_bind (wpAny_updateSeq_pair t₂ fun g₃ t₃ u₃ => wpAny_bind (wpAny_letGo (wpAny_pure ?g8)))))
  replace t₃ : IsPair g₃ tO x b := t₃
  refine wpAny_bind (wpAny_bind (wpAny_onRaise ?g9))
  show wpAny _ _ (Builtin.SmallTypes.nextOf (.ref ib) >>= _) _ _ _
  refine wpAny_bind (s2 _ _ _ (k2 _ _ r2 fun c o c1 c2 c3 e => u₃.extBut _ _ c2 (u₂.extBut _ _ c3 (u₁.extBut _ _ c1 e))) fun g₄ q₄ u₄ => wpAny_pure ?g10)
  have t₄ : IsPair g₄ tO x b := u₄.extBut _ _ D.a6 t₃
  refine wpAny_bind (wpAny_seqItems t₄ rfl (wpAny_bind (wpAny_updateSeq_pair t₄ fun g₅ t₅ u₅ => wpAny_bind (wpAny_letGo (wpAny_pure (wpAny_pure ?g11))))))
  replace t₅ : IsPair g₅ tO x y := t₅
  refine wpAny_bind (wpAny_seqItems t₅ rfl (wpAny_bind (wpAny_newTuple ?g12)))
  have hsz : g₅.objs.size = s.heap.objs.size := by rw [u₅.1, u₄.1, u₃.1, u₂.1, u₁.1]
  have z₅ : IsZip g₅ zp tI tO .ellipsis := u₅.extBut _ _ (Ne.symm D.a2) (u₄.extBut _ _ (Ne.symm D.a4) (u₃.extBut _ _ (Ne.symm D.a2) (u₂.extBut _ _ (Ne.symm D.a3) z₁)))
  have kk : ∀ c o, c ≠ zp → c ≠ tO → c ≠ ia → c ≠ ib → s.heap.get? c = some o → g₅.get? c = some o := fun c o c1 c2 c3 c4 e => u₅.extBut _ _ c2 (u₄.extBut _ _ c4 (u₃.extBut _ _ c2 (u₂.extBut _ _ c3 (u₁.extBut _ _ c1 e))))
  have lz : zp < g₅.objs.size := Heap.lt_size z₅
  show wpAny _ _ (Builtin.SmallTypes.ownedTupleHandOut (.ref zp) (.ref g₅.objs.size) >>= _) _ _ _
  refine wpAny_bind ?g13
  unfold Builtin.SmallTypes.ownedTupleHandOut
  have z₆ : IsZip (g₅.push { cls := .type "tuple", data := .seq #[x, y] }) zp tI tO .ellipsis := Heap.get?_push_of_some _ z₅
  refine wpAny_bind (wpAny_setField_rec z₆ (by simp) fun g₇ z₇ u₇ => ?g14)
  replace z₇ : IsZip g₇ zp tI tO (rawInt g₅.objs.size) := z₇
  refine wpAny_setField_rec z₇ (by simp) fun g₈ z₈ u₈ => ?g15
  replace z₈ : IsZip g₈ zp tI tO (rawInt g₅.objs.size) := z₈
  have up : ∀ c o, c ≠ zp → g₅.get? c = some o → g₈.get? c = some o := fun c o c1 e => u₈.extBut _ _ c1 (u₇.extBut _ _ c1 (Heap.get?_push_of_some _ e))
  have t₈ : IsPair g₈ g₅.objs.size x y := u₈.extBut _ _ (Nat.ne_of_gt lz) (u₇.extBut _ _ (Nat.ne_of_gt lz) (Heap.get?_push_size _ rfl))
  have n₈ : g₈.objs.size = g₅.objs.size + 1 := by rw [u₈.1, u₇.1, Heap.size_push]
  rw [hsz] at z₈ t₈ n₈
  refine wpAny_pure ⟨_, rfl, ?g16⟩
  show Q (.ref g₅.objs.size) _
  rw [hsz]
  exact hQ g₈ z₈ (up _ _ D.a2 t₅) ⟨g₂, q₂, fun c o c1 c2 c3 e => up _ _ c1 (u₅.extBut _ _ c2 (u₄.extBut _ _ c3 (u₃.extBut _ _ c2 e)))⟩ ⟨g₄, q₄, fun c o c1 c2 e => up _ _ c1 (u₅.extBut _ _ c2 e)⟩ t₈ n₈ fun c o c1 c2 c3 c4 e => up c o c1 (kk c o c1 c2 c3 c4 e)
theorem zg_end {zp tI tO ia ib : Addr} {R1 R1' R2 : Heap → Prop} {a b : Value} {Q : Fin → Shared → Prop} (D : Far zp tI tO ia ib) (s1 : Dry prog w A ia R1 ∨ ∃ x, Src prog w A ia R1 R1' x ∧ Dry prog w A ib R2)
    (k1 : ∀ h h', R1 h → (∀ c o, c ≠ zp → h.get? c = some o → h'.get? c = some o) → R1 h') (k2 : ∀ h h', R2 h → (∀ c o, c ≠ zp → c ≠ tO → c ≠ ia → h.get? c = some o → h'.get? c = some o) → R2 h')
    (hz : IsZip s.heap zp tI tO .none) (hTI : IsPair s.heap tI (.ref ia) (.ref ib)) (hTO : IsPair s.heap tO a b) (r1 : R1 s.heap) (r2 : R2 s.heap)
    (hE : ∀ h' e, (∀ c o, c ≠ zp → c ≠ tO → c ≠ ia → c ≠ ib → s.heap.get? c = some o → h'.get? c = some o) → (∃ o, h'.get? e = some o ∧ o.cls = .type "StopIteration") → E (.ref e) { s with heap := h' }) :
    wpAny (model prog w) A (Builtin.«zip.__next__» ⟨[.ref zp], []⟩) Q E s := by
  show wpAny _ _ (field (.ref zp) 2 >>= _) _ _ _
  refine wpAny_bind (wpAny_field hz rfl (x := .bool false) rfl (show wpAny _ _ (field (.ref zp) 3 >>= _) _ _ _ from wpAny_bind (wpAny_field hz rfl (x := .ref tI) rfl (wpAny_bind (wpAny_seqItems hTI rfl ?g1)))))
  show wpAny _ _ (Builtin.SmallTypes.ownedTupleIsFree (.ref zp) >>= _) _ _ _
  refine wpAny_bind ?g2
  unfold Builtin.SmallTypes.ownedTupleIsFree
  refine wpAny_bind (wpAny_field hz rfl (x := .none) rfl (wpAny_pure ?g3))
  rw [if_pos rfl]
  refine wpAny_bind (wpAny_rule (wpAny_bind (wpAny_field hz rfl (x := .ref tO) rfl (wpAny_bind (wpAny_setField_rec hz (by simp) fun g₁ z₁ u₁ => ?g4)))))
  replace z₁ : IsZip g₁ zp tI tO .ellipsis := z₁
  refine wpAny_bind ?g5
  simp only [List.forIn_cons, List.forIn_nil, List.zipIdx_cons, List.zipIdx_nil]
  refine wpAny_bind (wpAny_bind (wpAny_onRaise ?g6))
  show wpAny _ _ (Builtin.SmallTypes.nextOf (.ref ia) >>= _) _ _ _
  rcases s1 with d1 | ⟨x, s1, d2⟩
  · refine wpAny_bind (d1 _ _ _ (k1 _ _ r1 fun c o c1 e => u₁.extBut _ _ c1 e) fun g₂ e u₂ ⟨oe, ge, ce⟩ => ?g7)
    have z₂ : IsZip g₂ zp tI tO .ellipsis := u₂ _ _ (Ne.symm D.a3) z₁
    have ez : e ≠ zp := fun q => by subst q; rw [z₂] at ge; cases ge; simp at ce
    exact wpAny_setField_rec z₂ (by simp) fun g₃ _ u₃ => hE g₃ e (fun c o c1 _ c3 _ q => u₃.extBut _ _ c1 (u₂ _ _ c3 (u₁.extBut _ _ c1 q))) ⟨oe, u₃.extBut _ _ ez ge, ce⟩
  · refine wpAny_bind (s1 _ _ _ (k1 _ _ r1 fun c o c1 e => u₁.extBut _ _ c1 e) fun g₂ q₂ u₂ => wpAny_pure ?g8)
    have t₂ : IsPair g₂ tO a b := u₂.extBut _ _ D.a5 (u₁.extBut _ _ D.a2 hTO)
    refine wpAny_bind (wpAny_seqItems t₂ rfl (wpAny_bind (wpAny_updateSeq_pair t₂ fun g₃ t₃ u₃ => wpAny_bind (wpAny_letGo (wpAny_pure ?g9)))))
    refine wpAny_bind (wpAny_bind (wpAny_onRaise ?g10))
    show wpAny _ _ (Builtin.SmallTypes.nextOf (.ref ib) >>= _) _ _ _
    refine wpAny_bind (d2 _ _ _ (k2 _ _ r2 fun c o c1 c2 c3 e => u₃.extBut _ _ c2 (u₂.extBut _ _ c3 (u₁.extBut _ _ c1 e))) fun g₄ e u₄ ⟨oe, ge, ce⟩ => ?g11)
    have z₄ : IsZip g₄ zp tI tO .ellipsis := u₄ _ _ (Ne.symm D.a4) (u₃.extBut _ _ (Ne.symm D.a2) (u₂.extBut _ _ (Ne.symm D.a3) z₁))
    have ez : e ≠ zp := fun q => by subst q; rw [z₄] at ge; cases ge; simp at ce
    exact wpAny_setField_rec z₄ (by simp) fun g₅ _ u₅ => hE g₅ e (fun c o c1 c2 c3 c4 q => u₅.extBut _ _ c1 (u₄ _ _ c4 (u₃.extBut _ _ c2 (u₂.extBut _ _ c3 (u₁.extBut _ _ c1 q))))) ⟨oe, u₅.extBut _ _ ez ge, ce⟩

/-! a tuple and a list -/
theorem src_tup {i l : Addr} {k : Nat} {its : Array Value} {x : Value} (hx : its[k]? = some x) : Src prog w A i (fun h => h.IsTupleIter i l k ∧ h.IsTuple l its) (fun h => h.IsTupleIter i l (k + 1)) x := fun _ _ _ r q => RZ.nextOf_tuple_item r.1 r.2 hx q
theorem src_lst {i l : Addr} {k : Nat} {its : Array Value} {x : Value} (hx : its[k]? = some x) : Src prog w A i (fun h => h.IsListIter i l k ∧ h.IsList l its) (fun h => h.IsListIter i l (k + 1)) x := fun _ _ _ r q => wpAny_nextOf_list_item r.1 r.2 hx q
theorem dry_tup {i l : Addr} {k : Nat} {its : Array Value} (hh : A.handled = none) (hx : its[k]? = none) : Dry prog w A i (fun h => h.IsTupleIter i l k ∧ h.IsTuple l its) := fun _ _ _ r q => RZ.nextOf_tuple_end hh r.1 r.2 hx q
theorem dry_lst {i l : Addr} {k : Nat} {its : Array Value} (hh : A.handled = none) (hx : its[k]? = none) : Dry prog w A i (fun h => h.IsListIter i l k ∧ h.IsList l its) := fun _ _ _ r q => wpAny_nextOf_list_end hh r.1 r.2 hx q
theorem isTup_at {h h' : Heap} {l : Addr} {its : Array Value} (r : h.IsTuple l its) (k : ∀ o, h.get? l = some o → h'.get? l = some o) : h'.IsTuple l its := by
  obtain ⟨o, e, r⟩ := r
  exact ⟨o, k _ e, r⟩
theorem isLst_at {h h' : Heap} {l : Addr} {its : Array Value} (r : h.IsList l its) (k : ∀ o, h.get? l = some o → h'.get? l = some o) : h'.IsList l its := by
  obtain ⟨o, e, r⟩ := r
  exact ⟨o, k _ e, r⟩
theorem next_mixed {zp tI tO ia ib la lb : Addr} {k : Nat} {xs ys : Array Value} {x y a b : Value} {Q : Option Value → Shared → Prop} (D : ZipApart zp tI tO ia ib la lb)
    (hz : IsZip s.heap zp tI tO .none) (hTI : IsPair s.heap tI (.ref ia) (.ref ib)) (hTO : IsPair s.heap tO a b) (h1 : s.heap.IsTupleIter ia la k) (h2 : s.heap.IsListIter ib lb k) (l1 : s.heap.IsTuple la xs) (l2 : s.heap.IsList lb ys) (hx : xs[k]? = some x) (hy : ys[k]? = some y)
    (hQ : ∀ h', IsZip h' zp tI tO (rawInt s.heap.objs.size) → IsPair h' tO x y → h'.IsTupleIter ia la (k + 1) → h'.IsListIter ib lb (k + 1) → IsPair h' s.heap.objs.size x y → h'.objs.size = s.heap.objs.size + 1 →
      (∀ c o, c ≠ zp → c ≠ tO → c ≠ ia → c ≠ ib → s.heap.get? c = some o → h'.get? c = some o) → Q (some (.ref s.heap.objs.size)) { s with heap := h' }) : wpAny (model prog w) A (pyNext (.ref zp)) Q E s := by
  have ht : s.TypeIs (.ref zp) "zip" := ⟨_, hz, rfl⟩
  unfold pyNext
  refine wpAny_bind (wpAny_attempt (wpAny_callSpecial?_slot (name := Str.ofString "__next__") ht F.slot_zip_next (wpAny_call_entry F.slot_zip_next ht F.entry_zip_next ?_ (F.args_zip_next_1 _))))
  refine zg_item ⟨D.TIz, D.TOz, D.i1z, D.i2z, D.TOi1, D.TOi2, D.i12⟩ (src_tup (l := la) hx) (src_lst (l := lb) hy) (fun g g' r u => ⟨r.1.at fun o e => u _ _ D.i1z e, isTup_at r.2 fun o e => u _ _ D.l1z e⟩)
    (fun g g' r u => ⟨r.1.at fun o e => u _ _ D.i2z (Ne.symm D.TOi2) (Ne.symm D.i12) e, isLst_at r.2 fun o e => u _ _ D.l2z D.l2TO D.l2i1 e⟩) hz hTI hTO ⟨h1, l1⟩ ⟨h2, l2⟩ fun h' a1 a2 a3 a4 a5 a6 a7 => wpAny_pure ?_
  obtain ⟨g, b1, b2⟩ := a3
  obtain ⟨g', c1, c2⟩ := a4
  exact hQ h' a1 a2 (b1.at fun o e => b2 _ _ D.i1z (Ne.symm D.TOi1) D.i12 e) (c1.at fun o e => c2 _ _ D.i2z (Ne.symm D.TOi2) e) a5 a6 a7
theorem end_mixed {zp tI tO ia ib la lb : Addr} {k : Nat} {xs ys : Array Value} {a b : Value} {Q : Option Value → Shared → Prop} (hh : A.handled = none) (D : ZipApart zp tI tO ia ib la lb)
    (hz : IsZip s.heap zp tI tO .none) (hTI : IsPair s.heap tI (.ref ia) (.ref ib)) (hTO : IsPair s.heap tO a b) (h1 : s.heap.IsTupleIter ia la k) (h2 : s.heap.IsListIter ib lb k) (l1 : s.heap.IsTuple la xs) (l2 : s.heap.IsList lb ys) (he : xs[k]? = none ∨ ys[k]? = none)
    (hQ : ∀ h', (∀ c o, c ≠ zp → c ≠ tO → c ≠ ia → c ≠ ib → s.heap.get? c = some o → h'.get? c = some o) → Q none { s with heap := h' }) : wpAny (model prog w) A (pyNext (.ref zp)) Q E s := by
  have ht : s.TypeIs (.ref zp) "zip" := ⟨_, hz, rfl⟩
  have d : Dry prog w A.in1 ia (fun h => h.IsTupleIter ia la k ∧ h.IsTuple la xs) ∨ ∃ x, Src prog w A.in1 ia (fun h => h.IsTupleIter ia la k ∧ h.IsTuple la xs) (fun h => h.IsTupleIter ia la (k + 1)) x ∧ Dry prog w A.in1 ib (fun h => h.IsListIter ib lb k ∧ h.IsList lb ys) := by
    have hh' : A.in1.handled = none := hh
    cases hx : xs[k]? with
    | none => exact .inl (dry_tup hh' hx)
    | some x => exact .inr ⟨x, src_tup hx, dry_lst hh' (he.resolve_left (by rw [hx]; simp))⟩
  unfold pyNext
  refine wpAny_bind (wpAny_attempt (wpAny_callSpecial?_slot (name := Str.ofString "__next__") ht F.slot_zip_next (wpAny_call_entry F.slot_zip_next ht F.entry_zip_next ?_ (F.args_zip_next_1 _))))
  refine zg_end ⟨D.TIz, D.TOz, D.i1z, D.i2z, D.TOi1, D.TOi2, D.i12⟩ d (fun g g' r u => ⟨r.1.at fun o e => u _ _ D.i1z e, isTup_at r.2 fun o e => u _ _ D.l1z e⟩)
    (fun g g' r u => ⟨r.1.at fun o e => u _ _ D.i2z (Ne.symm D.TOi2) (Ne.symm D.i12) e, isLst_at r.2 fun o e => u _ _ D.l2z D.l2TO D.l2i1 e⟩) hz hTI hTO ⟨h1, l1⟩ ⟨h2, l2⟩ fun h' e hk he => ?_
  obtain ⟨o, ho, hc⟩ := he
  exact wpAny_bind (wpAny_isInstance (T := "StopIteration") (b := true) ⟨o, ho, hc⟩ isSubtype_stop (wpAny_pure (hQ _ hk)))

abbrev mz1 (h : Heap) (la : Addr) : Heap := h.push { cls := .type "tuple_iterator", data := .fields #[.ref la, .int 0 0] }
abbrev mz2 (h : Heap) (la lb : Addr) : Heap := (mz1 h la).push { cls := .type "list_iterator", data := .fields #[.ref lb, .int 0 0] }
abbrev mz3 (h : Heap) (la lb : Addr) : Heap := (mz2 h la lb).push { cls := .type "tuple", data := .seq #[.ref h.objs.size, .ref (mz1 h la).objs.size] }
abbrev mz4 (h : Heap) (la lb : Addr) : Heap := (mz3 h la lb).push { cls := .type "tuple", data := .seq #[.none, .none] }
abbrev mz5 (h : Heap) (la lb : Addr) : Heap := (mz4 h la lb).push { cls := .type "zip", data := .fields #[.none, .bool false, .bool false, .ref (mz2 h la lb).objs.size, .ref (mz3 h la lb).objs.size] }
theorem meets_mixed (la lb : Addr) (xs ys : Array Value) :
    Meets (Builtin.«zip.__new__» ⟨[.type "zip", .ref la, .ref lb], []⟩) (fun _ R s => s.heap.IsTuple la xs ∧ s.heap.IsList lb ys ∧ R (.ok (.ret (.ref (mz4 s.heap la lb).objs.size))) { s with heap := mz5 s.heap la lb }) :=
  .of_wp fun prog w A R s h => by
    obtain ⟨hp, g, d, tk, os⟩ := s
    obtain ⟨h1, h2, h⟩ := h
    have hsubz := sub_zip
    have q1 : Heap.IsTuple (Shared.heap ⟨hp, g, d, tk, os⟩) la xs := h1
    have q2 : Heap.IsList (Shared.heap ⟨hp.push { cls := .type "tuple_iterator", data := .fields #[.ref la, .int 0 0] }, g, d, tk, os⟩) lb ys := Heap.IsList.push h2 _
    wp_walk using wpAny_pyIter_tuple q1, wpAny_pyIter_list q2
    exact ⟨_, rfl, h⟩
theorem call_mixed {la lb : Addr} {xs ys : Array Value} {Q : Value → Shared → Prop} (h1 : s.heap.IsTuple la xs) (h2 : s.heap.IsList lb ys)
    (h : ∀ h', IsZip h' (s.heap.objs.size + 4) (s.heap.objs.size + 2) (s.heap.objs.size + 3) .none → IsPair h' (s.heap.objs.size + 2) (.ref s.heap.objs.size) (.ref (s.heap.objs.size + 1)) → IsPair h' (s.heap.objs.size + 3) .none .none →
      h'.IsTupleIter s.heap.objs.size la 0 → h'.IsListIter (s.heap.objs.size + 1) lb 0 → h'.objs.size = s.heap.objs.size + 5 → (∀ c o, s.heap.get? c = some o → h'.get? c = some o) → Q (.ref (s.heap.objs.size + 4)) { s with heap := h' }) :
    wpAny (model prog w) A (call (.type "zip") [.ref la, .ref lb]) Q E s := by
  refine callType_new F.called_zip (by decide) (F.typeCall_zip_2 _ _) (F.newCall_zip_2 _ _) (fun ob => F.args_object_init_3 ob _ _) F.entry_zip_new (meets_mixed la lb xs ys) ⟨h1, h2, ?_⟩
  have y1 : (mz1 s.heap la).objs.size = s.heap.objs.size + 1 := Heap.size_push ..
  have y2 : (mz2 s.heap la lb).objs.size = s.heap.objs.size + 2 := by rw [Heap.size_push, y1]
  have y3 : (mz3 s.heap la lb).objs.size = s.heap.objs.size + 3 := by rw [Heap.size_push, y2]
  have y4 : (mz4 s.heap la lb).objs.size = s.heap.objs.size + 4 := by rw [Heap.size_push, y3]
  have y5 : (mz5 s.heap la lb).objs.size = s.heap.objs.size + 5 := by rw [Heap.size_push, y4]
  have e5 : (mz5 s.heap la lb).get? (mz4 s.heap la lb).objs.size = some _ := Heap.get?_push_size _ rfl
  have e4 : (mz5 s.heap la lb).get? (mz3 s.heap la lb).objs.size = some _ := Heap.get?_push_of_some _ (Heap.get?_push_size _ rfl)
  have e3 : (mz5 s.heap la lb).get? (mz2 s.heap la lb).objs.size = some _ := Heap.get?_push_of_some _ (Heap.get?_push_of_some _ (Heap.get?_push_size _ rfl))
  have e2 : (mz5 s.heap la lb).get? (mz1 s.heap la).objs.size = some _ := Heap.get?_push_of_some _ (Heap.get?_push_of_some _ (Heap.get?_push_of_some _ (Heap.get?_push_size _ rfl)))
  have e1 : (mz5 s.heap la lb).get? s.heap.objs.size = some _ := Heap.get?_push_of_some _ (Heap.get?_push_of_some _ (Heap.get?_push_of_some _ (Heap.get?_push_of_some _ (Heap.get?_push_size _ rfl))))
  show _ ∧ _
  rw [y2, y3, y4] at e5
  rw [y1, y2] at e3
  rw [y3] at e4
  rw [y1] at e2
  rw [y4]
  exact ⟨⟨_, e5, rfl⟩, h _ e5 e3 e4 ⟨_, e1, rfl, rfl⟩ ⟨_, e2, rfl, rfl⟩ y5 fun c o q => Heap.get?_push_of_some _ (Heap.get?_push_of_some _ (Heap.get?_push_of_some _ (Heap.get?_push_of_some _ (Heap.get?_push_of_some _ q))))⟩
end
/-- the tuple at a and the list at b as they stand at each turn, the items in new pairs -/
def ItM (PK : PySem.W.Frag) (a b : Addr) : L2.It :=
  ⟨fun i H => ∃ (xs ys : List V) (x y : V), SqT PK H a xs ∧ SqL PK H b ys ∧ xs[i]? = some x ∧ ys[i]? = some y,
    fun i H v H' => ∃ T x y, v = .ref T ∧ H T = none ∧ H' = upd H T (.tup [x, y]) ∧ (∀ xs, SqT PK H a xs → xs[i]? = some x) ∧ ∀ ys, SqL PK H b ys → ys[i]? = some y,
    fun i H => ∃ xs ys : List V, SqT PK H a xs ∧ SqL PK H b ys ∧ (xs.length ≤ i ∨ ys.length ≤ i)⟩
theorem turn_mixed {P : Program} {w : World} {PK : PySem.W.Frag} {elts : List Expr} {kk : Nat} {tpos : Pos} {a b zp tI tO ia ib : Addr} (D : ZipApart zp tI tO ia ib a b) :
    Turn P w PK (.Tuple elts kk tpos) (ItM PK a b) [zp, tI, tO, ia, ib] zp (fun i h => IsZip h zp tI tO .none ∧ IsPair h tI (.ref ia) (.ref ib) ∧ (∃ x y, IsPair h tO x y) ∧ h.IsTupleIter ia a i ∧ h.IsListIter ib b i) where
  mem := by simp
  obj := fun i h st c hc => by
    obtain ⟨hz, hTI, ⟨x, y, hTO⟩, ⟨o1, e1, _, d1⟩, ⟨o2, e2, _, d2⟩⟩ := st
    have cs : c = zp ∨ c = tI ∨ c = tO ∨ c = ia ∨ c = ib := by simpa using hc
    rcases cs with rfl | rfl | rfl | rfl | rfl
    · exact ⟨_, hz, fun v q => nomatch q⟩
    · exact ⟨_, hTI, fun v q => nomatch q⟩
    · exact ⟨_, hTO, fun v q => nomatch q⟩
    · exact ⟨o1, e1, fun v q => by rw [d1] at q; cases q⟩
    · exact ⟨o2, e2, fun v q => by rw [d2] at q; cases q⟩
  keep := fun i h h' ⟨hz, hTI, ⟨x, y, hTO⟩, h1, h2⟩ k => ⟨k zp (by simp) _ hz, k tI (by simp) _ hTI, ⟨x, y, k tO (by simp) _ hTO⟩, h1.at fun o q => k ia (by simp) o q, h2.at fun o q => k ib (by simp) o q⟩
  item := by
    intro X eP eW eK hcalm i pins s σ H E I hf st hg
    subst eP eW eK
    obtain ⟨hz, hTI, ⟨x0, y0, hTO⟩, h1, h2⟩ := st
    obtain ⟨xs, ys, x, y, hqx, hqy, hx, hy⟩ := hg
    obtain ⟨its, rv, p1, _⟩ := I.tuple hqx
    obtain ⟨jts, rv2, p2, _⟩ := I.list hqy
    obtain ⟨u, hu, ru⟩ := rv.get hx
    obtain ⟨u2, hu2, ru2⟩ := rv2.get hy
    have zlt : zp < s.heap.objs.size := Heap.lt_size hz
    refine next_mixed D hz hTI hTO h1 h2 (show s.heap.IsTuple a its.toArray from p1) p2.isList (x := u) (y := u2) (by simpa using hu) (by simpa using hu2) fun g' z' to' f1 f2 hT hsz hk => ?_
    refine ⟨_, rfl, wpAny_letOwnedTupleGo_zip (s := { s with heap := g' }) z' fun g'' z'' sb => ?_⟩
    have hT2 : g''.get? s.heap.objs.size = some { cls := .type "tuple", data := .seq #[u, u2] } := (sb.2 _ (Nat.ne_of_gt zlt)).trans hT
    have fresh : ObjOk X.prog X.w (upd H s.heap.objs.size (.tup [x, y])) g'' s.heap.objs.size (.tup [x, y]) := ⟨by show 2 ≤ sizeLine; decide, [u, u2], .cons ru (.cons ru2 .nil), ⟨_, hT2, rfl, _, rfl⟩⟩
    have J : Inv X pins σ (upd H s.heap.objs.size (.tup [x, y])) { s with heap := g'' } :=
      I.turnedNew (t' := s.toks) (ch := [zp, tI, tO, ia, ib]) (fun c o hb q => (sb.2 c (fun r => hb (by simp [r]))).trans (hk c o (fun r => hb (by simp [r])) (fun r => hb (by simp [r])) (fun r => hb (by simp [r])) (fun r => hb (by simp [r])) q)) hf (Nat.le_refl _) fresh
    refine ⟨.ref s.heap.objs.size, _, J, rfl, ⟨_, x, y, rfl, I.hok.fresh (Nat.le_refl _), rfl, fun l hl => by rw [I.tuple_inj hl hqx]; exact hx, fun l hl => by rw [I.list_inj hl hqy]; exact hy⟩,
      ⟨z'', (sb.2 _ D.TIz).trans (hk _ _ D.TIz D.TITO D.TIi1 D.TIi2 hTI), ⟨u, u2, (sb.2 _ D.TOz).trans to'⟩, f1.at fun o q => (sb.2 _ D.i1z).trans q, f2.at fun o q => (sb.2 _ D.i2z).trans q⟩, fun c hcm => ?_⟩
    have lt : c < s.heap.objs.size := by
      have cs : c = zp ∨ c = tI ∨ c = tO ∨ c = ia ∨ c = ib := by simpa using hcm
      obtain ⟨_, e1, _⟩ := h1
      obtain ⟨_, e2, _⟩ := h2
      rcases cs with rfl | rfl | rfl | rfl | rfl
      · exact zlt
      · exact Heap.lt_size hTI
      · exact Heap.lt_size hTO
      · exact Heap.lt_size e1
      · exact Heap.lt_size e2
    rw [upd_ne (Nat.ne_of_lt lt)]
    exact (hf c hcm).1
  done := by
    intro X eP eW eK hcalm i pins s σ H E I hf st hg
    subst eP eW eK
    obtain ⟨hz, hTI, ⟨x0, y0, hTO⟩, h1, h2⟩ := st
    obtain ⟨xs, ys, hqx, hqy, hend⟩ := hg
    obtain ⟨its, rv, p1, _⟩ := I.tuple hqx
    obtain ⟨jts, rv2, p2, _⟩ := I.list hqy
    have n1 := rv.length
    have n2 := rv2.length
    have stop : its.toArray[i]? = none ∨ jts.toArray[i]? = none := hend.imp (fun q => by simp; omega) (fun q => by simp; omega)
    exact end_mixed (I.ok.hd hcalm) D hz hTI hTO h1 h2 (show s.heap.IsTuple a its.toArray from p1) p2.isList stop fun h' hk => ⟨rfl, I.turnedL (t' := s.toks) (ch := [zp, tI, tO, ia, ib]) (fun c o hb q =>
      hk c o (fun r => hb (by simp [r])) (fun r => hb (by simp [r])) (fun r => hb (by simp [r])) (fun r => hb (by simp [r])) q) hf⟩
  self := fun A i s Q E st h => wpAny_pyIter_zip st.1 h
def iZip3 (PK : PySem.W.Frag) (ta : TA) : TI := fun σ H R => ta σ H fun vs H1 => ∃ a b xs ys, vs = [.ref a, .ref b] ∧ ((SqL PK H1 a xs ∧ SqL PK H1 b ys ∧ R (Itz PK a b) H1) ∨ (SqT PK H1 a xs ∧ SqT PK H1 b ys ∧ R (RZ.ItzT PK a b) H1) ∨ SqT PK H1 a xs ∧ SqL PK H1 b ys ∧ R (ItM PK a b) H1)
theorem pi_zip3 {X : Cx} {e e2 : Expr} {ta : TA} {p pos tpos : Pos} {elts : List Expr} {kk : Nat} (hg : Gl X "zip") (hm : X.mg "zip" = none) (ha : PA X [e, e2] ta)
    (hs : starEach [e, e2] X.env = (false, eval e X.env) :: starEach [e2] X.env) (hpl : (backTo pos (starEach [e2] X.env)).any (·.1) = false) : PI X (.Tuple elts kk tpos) (.Call (.Name "zip" p) [e, e2] [] pos) (iZip3 X.K ta) := by
  refine ⟨fun pins s σ H R I h => PyProof.Rows.Call_ (ld_blt I hg hm PyProof.Rows.boot_zip (PyProof.Rows.callWith_type1 (thn (ha.run pos pins s σ H _ I h) fun us s1 ⟨vs, H1, I1, r1, q1⟩ => ?_) hs hpl))⟩
  obtain ⟨a, b, xs, ys, rfl, q1⟩ := q1
  obtain ⟨u, v, rfl, ru, rw'⟩ := r1.two
  cases ru
  cases rw'
  have hfr : ∀ c, c ∈ [s1.heap.objs.size + 4, s1.heap.objs.size + 2, s1.heap.objs.size + 3, s1.heap.objs.size, s1.heap.objs.size + 1] → FpOk X pins H1 c := fun c hcm => by
    have hle : s1.heap.objs.size ≤ c := by
      have cs : c = s1.heap.objs.size + 4 ∨ c = s1.heap.objs.size + 2 ∨ c = s1.heap.objs.size + 3 ∨ c = s1.heap.objs.size ∨ c = s1.heap.objs.size + 1 := by simpa using hcm
      omega
    exact I1.fpOk hle (I1.hok.fresh hle)
  have J : ∀ {h' : Heap}, (∀ c o, s1.heap.get? c = some o → h'.get? c = some o) → Inv X pins σ H1 { s1 with heap := h' } := fun hk => I1.kept (t' := s1.toks) hk
  rcases q1 with ⟨hqx, hqy, q⟩ | ⟨hqx, hqy, q⟩ | ⟨hqx, hqy, q⟩
  · obtain ⟨its, rv, p1, _⟩ := I1.list hqx
    obtain ⟨jts, rv2, p2, _⟩ := I1.list hqy
    refine call_zip_2 p1.isList p2.isList fun h' hz hTI hTO h1 h2 hsz hk => wpAny_pyIter_zip hz ⟨s1.heap.objs.size + 4, _, _, _, H1, rfl, J hk, turn_zip (PySem.W.ktu_apart s1.heap.objs.size a b p1.lt p2.lt), ⟨hz, hTI, ⟨_, _, hTO⟩, h1, h2⟩, hfr, q⟩
  · obtain ⟨its, rv, p1, _⟩ := I1.tuple hqx
    obtain ⟨jts, rv2, p2, _⟩ := I1.tuple hqy
    obtain ⟨o1, ho1, _⟩ := id p1
    obtain ⟨o2, ho2, _⟩ := id p2
    refine RZ.call_zipT (show s1.heap.IsTuple a its.toArray from p1) (show s1.heap.IsTuple b jts.toArray from p2) fun h' hz hTI hTO h1 h2 hsz hk => wpAny_pyIter_zip hz ⟨s1.heap.objs.size + 4, _, _, _, H1, rfl, J hk, RZ.turn_zipT (PySem.W.ktu_apart s1.heap.objs.size a b (Heap.lt_size ho1) (Heap.lt_size ho2)), ⟨hz, hTI, ⟨_, _, hTO⟩, h1, h2⟩, hfr, q⟩
  · obtain ⟨its, rv, p1, _⟩ := I1.tuple hqx
    obtain ⟨jts, rv2, p2, _⟩ := I1.list hqy
    obtain ⟨o1, ho1, _⟩ := id p1
    refine call_mixed (show s1.heap.IsTuple a its.toArray from p1) p2.isList fun h' hz hTI hTO h1 h2 hsz hk => wpAny_pyIter_zip hz ⟨s1.heap.objs.size + 4, _, _, _, H1, rfl, J hk, turn_mixed (PySem.W.ktu_apart s1.heap.objs.size a b (Heap.lt_size ho1) p2.lt), ⟨hz, hTI, ⟨_, _, hTO⟩, h1, h2⟩, hfr, q⟩
end Nf
/-! soundness: what is walked, targets -/
namespace Nf
open PySem PySem.Spec L2
section
variable {B : Base} {cf : Cf} {P : Prm} {N : Ent} {X : Cx}

/-! what a turn hands over -/
def Fed (PK : PySem.W.Frag) (S H : Hp) (d : D) (x : V) (H' : Hp) : Prop := (H' = H ∧ Rep PK S d x) ∨ ∃ T a b da db, x = .ref T ∧ H T = none ∧ H' = upd H T (.tup [a, b]) ∧ d = .tup [da, db] ∧ Rep PK S da a ∧ Rep PK S db b
def Feeds (PK : PySem.W.Frag) (S0 : Hp) (J : L2.It) (ds : List D) : Prop := ∀ S H, Same S0 S → Same S H → J.stop ds.length H ∧ ∀ i d, ds[i]? = some d → J.go i H ∧ ∀ x H', J.yld i H x H' → Fed PK S H d x H'
theorem fed_ok {σ : Sg} {env : Ev} {S H H' : Hp} {F : Nat → List Addr} {d : D} {x : V} (st : StOk B N σ env S H F) (h : Fed B.K S H d x H') : ∃ S', Same S S' ∧ StOk B N σ env S' H' F ∧ Rep B.K S' d x := by
  rcases h with ⟨rfl, h⟩ | ⟨T, a, b, da, db, rfl, hT, rfl, rfl, h1, h2⟩
  · exact ⟨S, Same.refl _, st, h⟩
  · have h0 := sub_none st hT
    refine ⟨upd S T (.tup [a, b]), same_upd h0, (st.laidH hT).share upd_same h0 (fun i => st.notF hT i) (h0_none st hT), ?_⟩
    unfold Rep
    exact ⟨T, [a, b], rfl, SqT.of upd_same, .cons (h1.mono (same_upd h0)) (.one (h2.mono (same_upd h0)))⟩
variable {PK : PySem.W.Frag} {S0 : Hp}
theorem feeds_list {a : Addr} {xs : List V} {ds : List D} (h : SqL PK S0 a xs) (r : RepL PK S0 ds xs) : Feeds PK S0 (Itl PK a) ds := fun S H e e2 => by
  have hq := sqL_mono e2 (sqL_mono e h)
  refine ⟨⟨xs, hq, by rw [r.len]; exact Nat.le_refl _⟩, fun i d hd => ?_⟩
  obtain ⟨v, hv, rv⟩ := r.get hd
  exact ⟨⟨xs, v, hq, hv⟩, fun x H' y => .inl ⟨y.1, by have := y.2 xs hq; rw [hv] at this; cases this; exact rv.mono e⟩⟩
theorem feeds_tup {a : Addr} {xs : List V} {ds : List D} (h : SqT PK S0 a xs) (r : RepL PK S0 ds xs) : Feeds PK S0 (Itt PK a) ds := fun S H e e2 => by
  have hq := sqT_mono e2 (sqT_mono e h)
  refine ⟨⟨xs, hq, by rw [r.len]; exact Nat.le_refl _⟩, fun i d hd => ?_⟩
  obtain ⟨v, hv, rv⟩ := r.get hd
  exact ⟨⟨xs, v, hq, hv⟩, fun x H' y => .inl ⟨y.1, by have := y.2 xs hq; rw [hv] at this; cases this; exact rv.mono e⟩⟩
theorem feeds_str {s : List Nat} : Feeds PK S0 (Its ⟨s.toArray⟩) (s.map fun c => .str [c]) := fun S H e e2 => by
  refine ⟨show s.toArray.size ≤ _ by simp, fun i d hd => ?_⟩
  rw [List.getElem?_map] at hd
  obtain ⟨c, hc, rfl⟩ := Option.map_eq_some_iff.mp hd
  have hi : i < s.length := (List.getElem?_eq_some_iff.mp hc).1
  refine ⟨show i < s.toArray.size by simpa using hi, fun x H' y => .inl ⟨y.1, ?_⟩⟩
  obtain ⟨c', h1, rfl⟩ := y.2
  have h1' : s.toArray[i]? = some c' := h1
  rw [List.getElem?_toArray, hc] at h1'
  cases h1'
  rfl
theorem feeds_range {lo : Int} {n : Nat} : Feeds PK S0 (Itr lo n) (rangeD lo n) := fun S H e e2 => by
  unfold rangeD
  refine ⟨show n ≤ _ by simp, fun i d hd => ?_⟩
  rw [List.getElem?_map] at hd
  obtain ⟨c, hc, rfl⟩ := Option.map_eq_some_iff.mp hd
  obtain ⟨hi, hc⟩ := List.getElem?_eq_some_iff.mp hc
  rw [List.getElem_range] at hc
  subst hc
  rw [List.length_range] at hi
  exact ⟨hi, fun x H' y => .inl ⟨y.1, y.2⟩⟩
theorem enumD_len : ∀ (n : Nat) (ds : List D), (enumD n ds).length = ds.length
  | _, [] => rfl
  | n, d :: ds => congrArg Nat.succ (enumD_len (n + 1) ds)
theorem enumD_get : ∀ (n : Nat) (ds : List D) (i : Nat) (d : D), (enumD n ds)[i]? = some d → ∃ e, ds[i]? = some e ∧ d = .tup [.int ((n + i : Nat) : Int), e]
  | _, [], _, _, h => by cases h
  | n, d :: ds, 0, e, h => by cases h; exact ⟨d, rfl, rfl⟩
  | n, d :: ds, i + 1, e, h => by
    obtain ⟨x, h1, h2⟩ := enumD_get (n + 1) ds i e h
    exact ⟨x, h1, by rw [h2, show n + 1 + i = n + (i + 1) by omega]⟩
theorem zipD_len : ∀ (xs ys : List D), (zipD xs ys).length = min xs.length ys.length
  | [], ys => by simp [zipD]
  | x :: xs, [] => by simp [zipD]
  | x :: xs, y :: ys => by simp [zipD, zipD_len xs ys]
theorem zipD_get : ∀ (xs ys : List D) (i : Nat) (d : D), (zipD xs ys)[i]? = some d → ∃ a b, xs[i]? = some a ∧ ys[i]? = some b ∧ d = .tup [a, b]
  | [], _, _, _, h => by cases h
  | _ :: _, [], _, _, h => by cases h
  | x :: xs, y :: ys, 0, d, h => by cases h; exact ⟨x, y, rfl, rfl, rfl⟩
  | x :: xs, y :: ys, i + 1, d, h => zipD_get xs ys i d h
theorem feeds_enum {a : Addr} {xs : List V} {ds : List D} (h : SqL PK S0 a xs) (r : RepL PK S0 ds xs) : Feeds PK S0 (Ite PK a) (enumD 0 ds) := fun S H e e2 => by
  have hq := sqL_mono e2 (sqL_mono e h)
  refine ⟨⟨xs, hq, by rw [enumD_len, r.len]; exact Nat.le_refl _⟩, fun i d hd => ?_⟩
  obtain ⟨c, hc, rfl⟩ := enumD_get 0 ds i d hd
  obtain ⟨v, hv, rv⟩ := r.get hc
  refine ⟨⟨xs, v, hq, hv⟩, fun x H' y => ?_⟩
  obtain ⟨T, z, h1, h2, h3, h4⟩ := y
  have := h4 xs hq
  rw [hv] at this; cases this
  exact .inr ⟨T, .int (i : Nat), v, .int ((0 + i : Nat) : Int), c, h1, h2, h3, rfl, by rw [Nat.zero_add]; rfl, rv.mono e⟩
theorem feeds_enumT {a : Addr} {xs : List V} {ds : List D} (h : SqT PK S0 a xs) (r : RepL PK S0 ds xs) : Feeds PK S0 (IteT PK a) (enumD 0 ds) := fun S H e e2 => by
  have hq := sqT_mono e2 (sqT_mono e h)
  refine ⟨⟨xs, hq, by rw [enumD_len, r.len]; exact Nat.le_refl _⟩, fun i d hd => ?_⟩
  obtain ⟨c, hc, rfl⟩ := enumD_get 0 ds i d hd
  obtain ⟨v, hv, rv⟩ := r.get hc
  refine ⟨⟨xs, v, hq, hv⟩, fun x H' y => ?_⟩
  obtain ⟨T, z, h1, h2, h3, h4⟩ := y
  have := h4 xs hq
  rw [hv] at this; cases this
  exact .inr ⟨T, .int (i : Nat), v, .int ((0 + i : Nat) : Int), c, h1, h2, h3, rfl, by rw [Nat.zero_add]; rfl, rv.mono e⟩
theorem feeds_zip {a b : Addr} {xs ys : List V} {ds es : List D} (h : SqL PK S0 a xs) (h' : SqL PK S0 b ys) (r : RepL PK S0 ds xs) (r' : RepL PK S0 es ys) : Feeds PK S0 (Itz PK a b) (zipD ds es) := fun S H e e2 => by
  have hq := sqL_mono e2 (sqL_mono e h)
  have hq' := sqL_mono e2 (sqL_mono e h')
  refine ⟨⟨xs, ys, hq, hq', by rw [zipD_len, r.len, r'.len]; omega⟩, fun i d hd => ?_⟩
  obtain ⟨c, c', hc, hc', rfl⟩ := zipD_get ds es i d hd
  obtain ⟨v, hv, rv⟩ := r.get hc
  obtain ⟨v', hv', rv'⟩ := r'.get hc'
  refine ⟨⟨xs, ys, v, v', hq, hq', hv, hv'⟩, fun x H' y => ?_⟩
  obtain ⟨T, z, z', h1, h2, h3, h4, h5⟩ := y
  have g1 := h4 xs hq
  have g2 := h5 ys hq'
  rw [hv] at g1; cases g1
  rw [hv'] at g2; cases g2
  exact .inr ⟨T, v, v', c, c', h1, h2, h3, rfl, rv.mono e, rv'.mono e⟩
theorem feeds_zipT {a b : Addr} {xs ys : List V} {ds es : List D} (h : SqT PK S0 a xs) (h' : SqT PK S0 b ys) (r : RepL PK S0 ds xs) (r' : RepL PK S0 es ys) : Feeds PK S0 (RZ.ItzT PK a b) (zipD ds es) := fun S H e e2 => by
  have hq := sqT_mono e2 (sqT_mono e h)
  have hq' := sqT_mono e2 (sqT_mono e h')
  refine ⟨⟨xs, ys, hq, hq', by rw [zipD_len, r.len, r'.len]; omega⟩, fun i d hd => ?_⟩
  obtain ⟨c, c', hc, hc', rfl⟩ := zipD_get ds es i d hd
  obtain ⟨v, hv, rv⟩ := r.get hc
  obtain ⟨v', hv', rv'⟩ := r'.get hc'
  refine ⟨⟨xs, ys, v, v', hq, hq', hv, hv'⟩, fun x H' y => ?_⟩
  obtain ⟨T, z, z', h1, h2, h3, h4, h5⟩ := y
  have g1 := h4 xs hq
  have g2 := h5 ys hq'
  rw [hv] at g1; cases g1
  rw [hv'] at g2; cases g2
  exact .inr ⟨T, v, v', c, c', h1, h2, h3, rfl, rv.mono e, rv'.mono e⟩

theorem feeds_zipM {a b : Addr} {xs ys : List V} {ds es : List D} (h : SqT PK S0 a xs) (h' : SqL PK S0 b ys) (r : RepL PK S0 ds xs) (r' : RepL PK S0 es ys) : Feeds PK S0 (ItM PK a b) (zipD ds es) := fun S H e e2 => by
  have hq := sqT_mono e2 (sqT_mono e h)
  have hq' := sqL_mono e2 (sqL_mono e h')
  refine ⟨⟨xs, ys, hq, hq', by rw [zipD_len, r.len, r'.len]; omega⟩, fun i d hd => ?_⟩
  obtain ⟨c, c', hc, hc', rfl⟩ := zipD_get ds es i d hd
  obtain ⟨v, hv, rv⟩ := r.get hc
  obtain ⟨v', hv', rv'⟩ := r'.get hc'
  refine ⟨⟨xs, ys, v, v', hq, hq', hv, hv'⟩, fun x H' y => ?_⟩
  obtain ⟨T, z, z', h1, h2, h3, h4, h5⟩ := y
  have g1 := h4 xs hq
  have g2 := h5 ys hq'
  rw [hv] at g1; cases g1
  rw [hv'] at g2; cases g2
  exact .inr ⟨T, v, v', c, c', h1, h2, h3, rfl, rv.mono e, rv'.mono e⟩

/-! iterables -/
def LI (B : Base) (N : Ent) (W : Ev → (List D → Ev → Prop) → Prop) : TI := fun σ H R => ∃ S env F K, StOk B N σ env S H F ∧ W env K ∧ ∀ ds env' S' H' F' J, K ds env' → Same S S' → StOk B N σ env' S' H' F' → Feeds B.K S' J ds → R J H'
theorem PI.imp {tg e : Expr} {t t' : TI} (h : PI X tg e t) (i : ∀ σ H R, t' σ H R → t σ H R) : PI X tg e t' := ⟨fun pins s σ H R I hw => h.run pins s σ H R I (i σ H R hw)⟩
def iAny (PK : PySem.W.Frag) (te : TE) : TI := fun σ H R => te σ H fun x H1 => (∃ a, x = .ref a ∧ (∃ xs, SqL PK H1 a xs) ∧ R (Itl PK a) H1) ∨ (∃ a, x = .ref a ∧ (∃ xs, SqT PK H1 a xs) ∧ R (Itt PK a) H1) ∨ ∃ z, x = .str z ∧ R (Its z) H1
theorem pi_any {tg e : Expr} {te : TE} (he : PE X e te) : PI X tg e (iAny X.K te) := by
  refine ⟨fun pins s σ H R I h => ?_⟩
  refine thn (he.run pins s σ H _ I h) fun v s1 ⟨x, H1, I1, r1, q1⟩ => ?_
  rcases q1 with ⟨a, rfl, ⟨xs, hq⟩, q⟩ | ⟨a, rfl, ⟨xs, hq⟩, q⟩ | ⟨z, rfl, q⟩
  · cases r1
    obtain ⟨its, rv, p, hz⟩ := I1.list hq
    exact wpAny_pyIter_list p.isList (pi_one (tk := s1.toks) I1 _ (turn_list a _) ⟨_, Heap.get?_push_size _ rfl, rfl, rfl⟩ q)
  · cases r1
    obtain ⟨its, rv, p, hz⟩ := I1.tuple hq
    exact wpAny_pyIter_tuple (show s1.heap.IsTuple a its.toArray from p) (pi_one (tk := s1.toks) I1 _ (turn_tuple a _) ⟨_, Heap.get?_push_size _ rfl, rfl, rfl⟩ q)
  · obtain ⟨t, rfl⟩ := r1
    cases ha : z.cps.all (· < 128)
    · exact wpAny_pyIter_wide ha (pi_one (tk := s1.toks) I1 _ (turn_str _ z t "str_iterator" (.inr rfl)) ⟨_, Heap.get?_push_size _ rfl, rfl, rfl⟩ q)
    · exact wpAny_pyIter_ascii ha (pi_one (tk := s1.toks) I1 _ (turn_str _ z t "str_ascii_iterator" (.inl rfl)) ⟨_, Heap.get?_push_size _ rfl, rfl, rfl⟩ q)
theorem si_ex {c : E} {tg e : Expr} (g : GC B cf P N X) (h : PE X e (LE B N (wpE P c))) : PI X tg e (LI B N (wpIt P (.ex c))) := by
  refine PI.imp (pi_any h) fun σ H R hw => ?_
  obtain ⟨S, env, F, K, st, w, p⟩ := hw
  have w' : wpE P c env fun r env1 => retain P.refs env1 r fun d env2 => match d with
    | .lst ds => K ds env2
    | .fz ds => K ds env2
    | .tup ds => K ds env2
    | .str s => K (s.map fun c => .str [c]) env2
    | _ => False := w
  rw [g.refs] at w'
  refine ⟨S, env, F, _, st, w', fun r env1 v S1 H1 F1 fr k e1 st1 rel => ?_⟩
  obtain ⟨d, env2, S2, F2, k2, e2, st2, rep⟩ := retain_ok st1 rel k
  rw [g.g.hK]
  split at k2
  · unfold Rep at rep
    obtain ⟨a, xs, rfl, h1, h2⟩ := rep
    exact .inl ⟨a, rfl, ⟨xs, sqL_mono st2.sub (SqL.of h1)⟩, p _ _ _ _ _ _ k2 (e1.trans e2) st2 (feeds_list (SqL.of h1) h2)⟩
  · unfold Rep at rep
    obtain ⟨a, xs, rfl, h1, h2⟩ := rep
    exact .inl ⟨a, rfl, ⟨xs, sqL_mono st2.sub h1⟩, p _ _ _ _ _ _ k2 (e1.trans e2) st2 (feeds_list h1 h2)⟩
  · unfold Rep at rep
    obtain ⟨a, xs, rfl, h1, h2⟩ := rep
    exact .inr (.inl ⟨a, rfl, ⟨xs, sqT_mono st2.sub h1⟩, p _ _ _ _ _ _ k2 (e1.trans e2) st2 (feeds_tup h1 h2)⟩)
  · unfold Rep at rep
    exact .inr (.inr ⟨_, rep, p _ _ _ _ _ _ k2 (e1.trans e2) st2 feeds_str⟩)
  · exact k2.elim
theorem si_range {as : Es} {es : List Expr} {tg : Expr} {q pos : Pos} (g : GC B cf P N X) (hg : glB cf.sc (Str.ofString "range") = true) (hn : noStars es = true) (hl : es.length = 1 ∨ es.length = 2) (hs : PEs X es (tsOf B N P as)) : PI X tg (.Call (.Name (Str.ofString "range") q) es [] pos) (LI B N (wpIt P (.range as))) := by
  have hm := g.g.blt "range" (by decide)
  have ha := pa_all hs hn
  have key : ∀ {σ : Sg} {H : Hp} {R : L2.It → Hp → Prop}, LI B N (wpIt P (.range as)) σ H R → nest (tsOf B N P as) (fun vs H1 _ => (∃ j : Int, vs = [.int j] ∧ -(2 ^ 62) ≤ j ∧ j < 2 ^ 62 ∧ R (Itr 0 j.toNat) H1) ∨ ∃ i j : Int, vs = [.int i, .int j] ∧ (-(2 ^ 62) ≤ i ∧ i < 2 ^ 62 ∧ -(2 ^ 62) ≤ j ∧ j < 2 ^ 62) ∧ R (Itr i (j - i).toNat) H1) σ H (fun _ _ => True) := by
    intro σ H R hw
    obtain ⟨S, env, F, K, st, w, p⟩ := hw
    have w' : wpEs P as env fun rs env1 => peeks env1 rs fun ds => match ds with
      | [.int j] => (-(2 ^ 62) ≤ j ∧ j < 2 ^ 62) ∧ K (rangeD 0 j.toNat) env1
      | [.int i, .int j] => (-(2 ^ 62) ≤ i ∧ i < 2 ^ 62 ∧ -(2 ^ 62) ≤ j ∧ j < 2 ^ 62) ∧ K (rangeD i (j - i).toNat) env1
      | _ => False := w
    refine nest_go st w' fun rs env1 vs S1 H1 F1 k e1 st1 rel => ?_
    obtain ⟨ds, k, hv⟩ := peeks_ok st1 rel k
    split at k
    · obtain ⟨v1, rfl, h1⟩ := viewL1 hv
      cases view_int h1
      exact .inl ⟨_, rfl, k.1.1, k.1.2, p _ _ _ _ _ _ k.2 e1 st1 feeds_range⟩
    · obtain ⟨v1, v2, rfl, h1, h2⟩ := viewL2 hv
      cases view_int h1; cases view_int h2
      exact .inr ⟨_, _, rfl, k.1, p _ _ _ _ _ _ k.2 e1 st1 feeds_range⟩
    · exact k.elim
  match es, hl, hn, hs, ha with
  | [e], _, hn, hs, ha =>
    unfold noStars at hn
    rw [Bool.and_eq_true] at hn
    obtain ⟨t, ht, h1⟩ := hs.one
    refine PI.imp (pi_range1 (g.g.gl hg) hm ha (by rw [star_cons _ hn.1]; rfl)) fun σ H R hw => ?_
    have := key hw
    rw [ht] at this ⊢
    refine cast ?_ this
    show (t σ H fun x H1 => _) = (t σ H fun x H1 => _)
    congr 1
    funext x H1
    refine propext ⟨fun z => ?_, fun z => .inl z⟩
    rcases z with z | ⟨_, _, z, _⟩
    · exact z
    · cases z
  | [e, e'], _, hn, hs, ha =>
    unfold noStars at hn
    rw [Bool.and_eq_true] at hn
    have hn2 := hn.2
    unfold noStars at hn2
    rw [Bool.and_eq_true] at hn2
    obtain ⟨t, u, ht, h1, h2⟩ := hs.two
    refine PI.imp (pi_range2 (g.g.gl hg) hm ha (by rw [star_cons _ hn.1, star_cons _ hn2.1]; rfl) (by rw [star_cons _ hn2.1]; rfl)) fun σ H R hw => ?_
    have := key hw
    rw [ht] at this ⊢
    refine cast ?_ this
    show (t σ H fun x H1 => u σ H1 fun y H2 => _) = (t σ H fun x H1 => u σ H1 fun y H2 => _)
    congr 1
    funext x H1
    congr 1
    funext y H2
    refine propext ⟨fun z => ?_, fun z => .inr z⟩
    rcases z with ⟨_, z, _⟩ | z
    · cases z
    · exact z
theorem si_enum {a : E} {e : Expr} {elts : List Expr} {kk : Nat} {tpos q pos : Pos} (g : GC B cf P N X) (hg : glB cf.sc (Str.ofString "enumerate") = true) (hn : notStar e = true) (h : PE X e (LE B N (wpE P a))) :
    PI X (.Tuple elts kk tpos) (.Call (.Name (Str.ofString "enumerate") q) [e] [] pos) (LI B N (wpIt P (.enum a))) := by
  refine PI.imp (pi_enumA (g.g.gl hg) (g.g.blt "enumerate" (by decide)) (pa_cons h pa_nil (star_cons _ hn)) (by rw [star_cons _ hn]; rfl)) fun σ H R hw => ?_
  obtain ⟨S, env, F, K, st, w, p⟩ := hw
  have w' : wpE P a env fun r env1 => retain P.refs env1 r fun d env2 => match d with
    | .lst ds => K (enumD 0 ds) env2
    | .tup ds => K (enumD 0 ds) env2
    | _ => False := w
  rw [g.refs] at w'
  refine ⟨S, env, F, _, st, w', fun r env1 v S1 H1 F1 fr k e1 st1 rel => ?_⟩
  obtain ⟨d, env2, S2, F2, k2, e2, st2, rep⟩ := retain_ok st1 rel k
  rw [g.g.hK]
  split at k2
  · unfold Rep at rep
    obtain ⟨a, xs, rfl, h1, h2⟩ := rep
    exact ⟨a, xs, rfl, .inl ⟨sqL_mono st2.sub (SqL.of h1), p _ _ _ _ _ _ k2 (e1.trans e2) st2 (feeds_enum (SqL.of h1) h2)⟩⟩
  · unfold Rep at rep
    obtain ⟨a, xs, rfl, h1, h2⟩ := rep
    exact ⟨a, xs, rfl, .inr ⟨sqT_mono st2.sub h1, p _ _ _ _ _ _ k2 (e1.trans e2) st2 (feeds_enumT h1 h2)⟩⟩
  · exact k2.elim
theorem si_zip {as : Es} {e e2 : Expr} {elts : List Expr} {kk : Nat} {tpos q pos : Pos} (g : GC B cf P N X) (hg : glB cf.sc (Str.ofString "zip") = true) (hn : noStars [e, e2] = true) (hs : PEs X [e, e2] (tsOf B N P as)) :
    PI X (.Tuple elts kk tpos) (.Call (.Name (Str.ofString "zip") q) [e, e2] [] pos) (LI B N (wpIt P (.zip as))) := by
  have hn' := hn
  unfold noStars at hn'
  rw [Bool.and_eq_true] at hn'
  refine PI.imp (pi_zip3 (g.g.gl hg) (g.g.blt "zip" (by decide)) (pa_all hs hn) (star_cons _ hn'.1) (star_any _ _ hn'.2)) fun σ H R hw => ?_
  obtain ⟨S, env, F, K, st, w, p⟩ := hw
  have w' : wpEs P as env fun rs env1 => retains P.refs env1 rs fun ds env2 => match ds with
    | [.lst xs, .lst ys] => K (zipD xs ys) env2
    | [.tup xs, .tup ys] => K (zipD xs ys) env2
    | [.tup xs, .lst ys] => K (zipD xs ys) env2
    | _ => False := w
  rw [g.refs] at w'
  have key := nest_go (r := fun vs H1 _ => ∃ a b xs ys, vs = [.ref a, .ref b] ∧ ((SqL X.K H1 a xs ∧ SqL X.K H1 b ys ∧ R (Itz X.K a b) H1) ∨ (SqT X.K H1 a xs ∧ SqT X.K H1 b ys ∧ R (RZ.ItzT X.K a b) H1) ∨ SqT X.K H1 a xs ∧ SqL X.K H1 b ys ∧ R (ItM X.K a b) H1)) (Q := fun _ _ => True) st w' fun rs env1 vs S1 H1 F1 k e1 st1 rel => ?_
  · rw [nest_eq] at key
    exact key
  · obtain ⟨ds, env2, S2, F2, k2, e2, st2, rep⟩ := retains_ok st1 rel k
    rw [g.g.hK]
    split at k2
    · obtain ⟨v1, r1, rfl, p1, v2, r2, rfl, p2, p3⟩ := rep
      cases (show r2 = [] from p3)
      unfold Rep at p1 p2
      obtain ⟨a, xs, rfl, h1, h2⟩ := p1
      obtain ⟨b, ys, rfl, h3, h4⟩ := p2
      exact ⟨a, b, xs, ys, rfl, .inl ⟨sqL_mono st2.sub (SqL.of h1), sqL_mono st2.sub (SqL.of h3), p _ _ _ _ _ _ k2 (e1.trans e2) st2 (feeds_zip (SqL.of h1) (SqL.of h3) h2 h4)⟩⟩
    · obtain ⟨v1, r1, rfl, p1, v2, r2, rfl, p2, p3⟩ := rep
      cases (show r2 = [] from p3)
      unfold Rep at p1 p2
      obtain ⟨a, xs, rfl, h1, h2⟩ := p1
      obtain ⟨b, ys, rfl, h3, h4⟩ := p2
      exact ⟨a, b, xs, ys, rfl, .inr (.inl ⟨sqT_mono st2.sub h1, sqT_mono st2.sub h3, p _ _ _ _ _ _ k2 (e1.trans e2) st2 (feeds_zipT h1 h3 h2 h4)⟩)⟩
    · obtain ⟨v1, r1, rfl, p1, v2, r2, rfl, p2, p3⟩ := rep
      cases (show r2 = [] from p3)
      unfold Rep at p1 p2
      obtain ⟨a, xs, rfl, h1, h2⟩ := p1
      obtain ⟨b, ys, rfl, h3, h4⟩ := p2
      exact ⟨a, b, xs, ys, rfl, .inr (.inr ⟨sqT_mono st2.sub h1, sqL_mono st2.sub (SqL.of h3), p _ _ _ _ _ _ k2 (e1.trans e2) st2 (feeds_zipM h1 (SqL.of h3) h2 h4)⟩)⟩
    · exact k2.elim
end
end Nf
/-! soundness: written dicts of the module -/
namespace Nf
open PySem PySem.Spec L2
section
variable {B : Base} {cf : Cf} {P : Prm} {N : Ent} {X : Cx}
theorem se_kget {x : String} {a : E} {b : Expr} {p pos : Pos} (g : GC B cf P N X) (hg : glB cf.sc (Str.ofString x) = true) (hd : (Str.ofString x == ("__debug__" : Str)) = false) (hs : PlainIx b) (ha : PE X b (LE B N (wpE P a))) :
    PE X (.Subscript (.Name (Str.ofString x) p) b pos) (LE B N (wpE P (.kget x a))) := by
  refine ⟨fun pins s σ H Q I hw => ?_⟩
  obtain ⟨S, env, F, K, st, w, pk⟩ := hw
  simp only [wpE] at w
  obtain ⟨c, hc, w⟩ := optW_get w
  split at w
  · rename_i ks vs
    rcases g.gcs x _ hc with ⟨hn, _⟩ | ⟨kvs, ad, es, n, he, hm, D, hk, hmiss, hval⟩
    · cases hn
    · cases he
      rw [← g.g.hK] at D hval hmiss
      refine (pe_ix ix_kdict (pe_glob (v := .ref ad) (g.g.gl hg) hm rfl hd) (PE.st ha) hs).run pins s σ H Q I ?_
      refine ⟨S, env, F, _, st, w, fun r env1 v S1 H1 F1 k e1 st1 rel => ?_⟩
      obtain ⟨d, k1, hv⟩ := peek_view st1 rel k
      split at k1
      · rename_i z
        obtain ⟨e, he, k2⟩ := optW_get k1
        obtain ⟨q, hq, q1, q2⟩ := (dAt_kvs z kvs).2 e he
        obtain ⟨u, v0, h1, h2, h3⟩ := hval q hq
        cases view_str hv
        refine ⟨ad, ⟨z.toArray⟩, v0, rfl, rfl, ⟨es, n, u, D.at_, D.lit, by rw [← q1]; exact h1, h2⟩, ?_⟩
        rw [g.g.hK, q2] at h3
        exact (pk.mono e1).giveV st1 k2 (h3 S1)
      · exact k1.elim
  · exact w.elim
theorem lt_kin {neg : Bool} {x : String} {a : E} {a' : Expr} {p pos : Pos} (g : GC B cf P N X) (hg : glB cf.sc (Str.ofString x) = true) (hd : (Str.ofString x == ("__debug__" : Str)) = false) (ha : PE X a' (LE B N (wpE P a))) :
    PT X (.Compare a' [if neg = true then .NotIn else .In] [.Name (Str.ofString x) p] pos) (LT B N (wpT P (.kin neg x a))) := by
  refine ⟨fun pins s σ H Q I hw => ?_⟩
  obtain ⟨S, env, F, K, st, w, pk⟩ := hw
  simp only [wpT] at w
  obtain ⟨c, hc, w⟩ := optW_get w
  split at w
  · rename_i ks vs
    rcases g.gcs x _ hc with ⟨hn, _⟩ | ⟨kvs, ad, es, n, he, hm, D, hk, hmiss, hval⟩
    · cases hn
    · cases he
      rw [← g.g.hK] at D hval hmiss
      have find : ∀ z : List Nat, ∃ r : Option Value, PySem.W.nsIn X.K ad ⟨z.toArray⟩ = some r ∧ r.isSome = (dAt (.str z) (kvs.map fun q => .str (tl q.1)) (kvs.map (·.2))).isSome := fun z => by
        cases hz : dAt (.str z) (kvs.map fun q => .str (tl q.1)) (kvs.map (·.2)) with
        | none => exact ⟨none, hmiss _ ((dAt_kvs z kvs).1 hz), rfl⟩
        | some e =>
          obtain ⟨q, hq, q1, q2⟩ := (dAt_kvs z kvs).2 e hz
          obtain ⟨u, v0, h1, h2, h3⟩ := hval q hq
          exact ⟨some u, by rw [← q1]; exact h1, rfl⟩
      cases neg with
      | false =>
        refine (pt_cmpR (op := .In) (op_in_kd D) (PE.st ha) (pe_glob (v := .ref ad) (g.g.gl hg) hm rfl hd) (noMark rfl)).run pins s σ H Q I ?_
        refine ⟨S, env, F, _, st, w, fun r env1 v S1 H1 F1 k e1 st1 rel => ?_⟩
        obtain ⟨d, k1, hv⟩ := peek_view st1 rel k
        split at k1
        · rename_i z
          obtain ⟨r, h1, h2⟩ := find z
          cases view_str hv
          refine ⟨⟨z.toArray⟩, r, rfl, rfl, h1, r.isSome, rfl, ?_⟩
          rw [h2]
          exact pk _ _ _ _ _ k1 e1 st1
        · exact k1.elim
      | true =>
        refine (pt_cmpR (op := .NotIn) (op_notIn_kd D) (PE.st ha) (pe_glob (v := .ref ad) (g.g.gl hg) hm rfl hd) (noMark rfl)).run pins s σ H Q I ?_
        refine ⟨S, env, F, _, st, w, fun r env1 v S1 H1 F1 k e1 st1 rel => ?_⟩
        obtain ⟨d, k1, hv⟩ := peek_view st1 rel k
        split at k1
        · rename_i z
          obtain ⟨r, h1, h2⟩ := find z
          cases view_str hv
          refine ⟨⟨z.toArray⟩, r, rfl, rfl, h1, !r.isSome, rfl, ?_⟩
          rw [h2]
          exact pk _ _ _ _ _ k1 e1 st1
        · exact k1.elim
  · exact w.elim
theorem si_kk {x : String} {tg : Expr} {p : Pos} (g : GC B cf P N X) (hg : glB cf.sc (Str.ofString x) = true) (hd : (Str.ofString x == ("__debug__" : Str)) = false) : PI X tg (.Name (Str.ofString x) p) (LI B N (wpIt P (.kk x))) := by
  refine ⟨fun pins s σ H R I hw => ?_⟩
  obtain ⟨S, env, F, K, st, w, pk⟩ := hw
  simp only [wpIt] at w
  obtain ⟨c, hc, w⟩ := optW_get w
  split at w
  · rename_i ks vs
    rcases g.gcs x _ hc with ⟨hn, _⟩ | ⟨kvs, ad, es, n, he, hm, D, hk, hmiss, hval⟩
    · cases hn
    · cases he
      rw [← g.g.hK] at D
      refine (pi_kd (pe_glob (v := .ref ad) (g.g.gl hg) hm rfl hd) D hk).run pins s σ H R I ⟨rfl, pk _ env S H F _ w (Same.refl _) st fun S' H' _ _ => ?_⟩
      refine ⟨show (kvs.map (·.1)).length ≤ _ by simp, fun i d hd => ?_⟩
      rw [List.getElem?_map] at hd
      obtain ⟨q, h1, rfl⟩ := Option.map_eq_some_iff.mp hd
      refine ⟨show i < (kvs.map (·.1)).length by rw [List.length_map]; exact (List.getElem?_eq_some_iff.mp h1).1, fun y H2 hy => ?_⟩
      obtain ⟨rfl, k, g1, rfl⟩ := hy
      rw [List.getElem?_map, h1] at g1
      cases g1
      exact .inl ⟨rfl, rfl⟩
  · exact w.elim
end
end Nf
/-! soundness: targets, comprehensions -/
namespace Nf
open PySem PySem.Spec L2
section
variable {B : Base} {cf : Cf} {P : Prm} {N : Ent} {X : Cx}

theorem store_of (g : GC B cf P N X) {i : Nat} {x : Str} (h : storeB cf i x = true) : X.N.Nodup ∧ X.N[i]? = some x ∧ L2.Loc X.env.scope x ∧ (X.fn x = true ∨ X.env.scope.names.lookup x = some .local) := by
  unfold storeB at h
  rw [Bool.and_eq_true, Bool.and_eq_true, decide_eq_true_eq, Bool.or_eq_true] at h
  obtain ⟨⟨h1, h2⟩, h3⟩ := h
  refine ⟨by rw [g.g.hN]; exact g.g.nd, by rw [g.g.hN]; exact h1, ?_, ?_⟩
  · unfold locB at h2
    unfold L2.Loc
    rw [g.g.hsc]
    split at h2
    · exact .inl (by assumption)
    · exact .inr (by assumption)
    · cases h2
  · rw [g.g.hsc]
    rcases h3 with h3 | h3
    · exact .inl (g.fb x h3)
    · refine .inr ?_
      split at h3
      · assumption
      · cases h3
def LG (B : Base) (N : Ent) (W : D → Ev → (Ev → Prop) → Prop) (is : List Nat) : TG := fun v σ H Q => ∃ S env F d K, StOk B N σ env S H F ∧ Rep B.K S d v ∧ W d env K ∧
  ∀ σ' env' F', K env' → StOk B N σ' env' S H F' → (∀ j, j ∉ is → σ'[j]? = σ[j]?) → σ'.length = σ.length → Q σ' H
def LGs (B : Base) (N : Ent) (W : List D → Ev → (Ev → Prop) → Prop) (is : List Nat) : TGs := fun vs σ H Q => ∃ S env F ds K, StOk B N σ env S H F ∧ RepL B.K S ds vs ∧ W ds env K ∧
  ∀ σ' env' F', K env' → StOk B N σ' env' S H F' → (∀ j, j ∉ is → σ'[j]? = σ[j]?) → σ'.length = σ.length → Q σ' H
theorem PG.imp {e : Expr} {t t' : TG} (h : PG X e t) (i : ∀ v σ H Q, t' v σ H Q → t v σ H Q) : PG X e t' := ⟨fun pins s σ H v u Q I r hw => h.run pins s σ H v u Q I r (i v σ H Q hw)⟩
theorem PGs.imp {es : List Expr} {t t' : TGs} (h : PGs X es t) (i : ∀ v σ H Q, t' v σ H Q → t v σ H Q) : PGs X es t' := ⟨fun pins s σ H v u Q I r hw => h.run pins s σ H v u Q I r (i v σ H Q hw)⟩
theorem sg_name {i : Nat} {x : Str} {pos : Pos} (g : GC B cf P N X) (h : storeB cf i x = true) : PG X (.Name x pos) (LG B N (wpTg P.refs (.name i)) [i]) := by
  obtain ⟨h1, h2, h3, h4⟩ := store_of g h
  refine PG.imp (pg_name h1 h2 h3 h4) fun v σ H Q hw => ?_
  obtain ⟨S, env, F, d, K, st, rep, w, p⟩ := hw
  have w' : free P.refs i (K (env.set i (.sh d))) := w
  rw [g.refs] at w'
  obtain ⟨hi, k⟩ := free_ok w'
  exact p _ _ _ k (st.setV hi rep) (fun j hj => List.getElem?_set_ne (by rintro rfl; exact hj (by simp))) (by simp)
theorem assign_names {is : List Nat} {es : List Expr} (h : chkTgs cf is es = true) (env : PySem.Env) : (assignEach es env).length = is.length ∧ (assignEach es env).findIdx? (·.1) = none ∧ ∀ e r, es = e :: r → (assignEach (e :: r) env).map (·.2) = assign e env :: (assignEach r env).map (·.2) := by
  induction is generalizing es with
  | nil =>
    cases es with
    | nil => exact ⟨rfl, rfl, fun _ _ e => by cases e⟩
    | cons e es => cases e <;> cases h
  | cons i is ih =>
    cases es with
    | nil => cases h
    | cons e es =>
      cases e <;> try (cases h; done)
      rename_i x p
      unfold chkTgs at h
      rw [Bool.and_eq_true] at h
      obtain ⟨a, b, _⟩ := ih h.2
      have e1 : assignEach (Expr.Name x p :: es) env = (false, assign (.Name x p) env) :: assignEach es env := rfl
      refine ⟨by rw [e1]; simp [a], by rw [e1, List.findIdx?_cons]; simp [b], fun e r e2 => ?_⟩
      cases e2
      rw [e1]
      rfl
theorem sgs_names (g : GC B cf P N X) : ∀ {is : List Nat} {es : List Expr}, chkTgs cf is es = true → PGs X es (LGs B N (setSh P.refs is) is)
  | [], [], _ => PGs.imp pgs_nil fun vs σ H Q ⟨S, env, F, ds, K, st, rep, w, p⟩ => by
    cases ds with
    | nil => exact ⟨by unfold RepL at rep; exact rep, p σ env F w st (fun _ _ => rfl) rfl⟩
    | cons _ _ => exact w.elim
  | i :: is, e :: es, h => by
    have hs := (assign_names h X.env).2.2
    cases e <;> try (cases h; done)
    rename_i x pos
    unfold chkTgs at h
    rw [Bool.and_eq_true] at h
    refine PGs.imp (pgs_cons (sg_name (pos := pos) g h.1) (sgs_names g h.2) (hs _ _ rfl)) fun vs σ H Q ⟨S, env, F, ds, K, st, rep, w, p⟩ => ?_
    cases ds with
    | nil => exact w.elim
    | cons d ds =>
      unfold RepL at rep
      obtain ⟨v, r, rfl, r1, r2⟩ := rep
      refine ⟨v, r, rfl, S, env, F, d, fun env' => setSh P.refs is ds env' K, st, r1, w, fun σ' env' F' k st' hj hl => ?_⟩
      refine ⟨S, env', F', ds, K, st', r2, k, fun σ2 env2 F2 k2 st2 hj2 hl2 => p σ2 env2 F2 k2 st2 (fun j hn => ?_) (hl2.trans hl)⟩
      rw [hj2 j (fun z => hn (List.mem_cons_of_mem _ z)), hj j (fun z => hn (by have := List.mem_singleton.mp z; subst this; exact List.mem_cons_self))]
  | [], e :: es, h => by cases e <;> cases h
  | i :: is, [], h => by cases h
theorem pg_seq {es : List Expr} {k : Nat} {t : TGs} {n : Nat} {pos : Pos} (hc : X.calm = true) (h : PGs X es t) (hn : (assignEach es X.env).length = n) (hst : (assignEach es X.env).findIdx? (·.1) = none) : PG X (.Tuple es k pos) (fun v σ H Q => gTup X.K n t v σ H Q ∨ gUnl X.K n t v σ H Q) :=
  ⟨fun pins s σ H v u Q I r hw => hw.elim ((pg_tup hc h hn hst).run pins s σ H v u Q I r) ((pg_unl hc h hn hst).run pins s σ H v u Q I r)⟩
theorem setSh_len {refs : List Nat} : ∀ {is : List Nat} {ds : List D} {env : Ev} {K : Ev → Prop}, setSh refs is ds env K → ds.length = is.length
  | [], [], _, _, _ => rfl
  | i :: is, d :: ds, env, K, h => by
    unfold setSh at h
    obtain ⟨_, h⟩ := free_ok h
    simp [setSh_len h]
  | [], _ :: _, _, _, h => h.elim
  | _ :: _, [], _, _, h => h.elim
theorem sg_tg {tg : Tg} {e : Expr} (g : GC B cf P N X) (h : chkTg cf tg e = true) : PG X e (LG B N (wpTg P.refs tg) (tgIs tg)) := by
  cases tg with
  | name i =>
    cases e <;> try (cases h; done)
    exact sg_name g h
  | tup is =>
    cases e <;> try (cases h; done)
    have h' : chkTgs cf is _ = true := h
    obtain ⟨a, b, _⟩ := assign_names h' X.env
    refine PG.imp (pg_seq g.g.calm (sgs_names g h') a b) fun v σ H Q hw => ?_
    obtain ⟨S, env, F, d, K, st, rep, w, p⟩ := hw
    simp only [wpTg] at w
    split at w
    · unfold Rep at rep
      obtain ⟨a, xs, rfl, h1, h2⟩ := rep
      refine .inl ⟨a, xs, rfl, by rw [g.g.hK]; exact sqT_mono st.sub h1, ?_, S, env, F, _, K, st, h2, w, p⟩
      rw [h2.len]; exact setSh_len w
    · unfold Rep at rep
      obtain ⟨a, xs, rfl, h1, h2⟩ := rep
      refine .inr ⟨a, xs, rfl, by rw [g.g.hK]; exact SqL.of (st.sub _ _ h1), ?_, S, env, F, _, K, st, h2, w, p⟩
      rw [h2.len]; exact setSh_len w
    · exact w.elim

/-! ### comprehensions -/
theorem StOk.unset {σ : Sg} {env : Ev} {S H : Hp} {F : Nat → List Addr} {i : Nat} (st : StOk B N σ env S H F) (hi : i ∉ N.refs) : StOk B N (σ.set i none) (env.set i .no) S H F := by
  refine ⟨st.s0, st.sub, st.frame, st.fresh, fun j d q => ?_, fun j o q => ?_, st.priv, st.dj, fun j hj => ?_, by simpa using st.len, st.wf, st.f0⟩
  · by_cases hj : j = i
    · subst hj
      by_cases hl : j < env.length
      · rw [List.getElem?_set_self hl] at q; cases q
      · rw [List.getElem?_eq_none (by simpa using hl)] at q; cases q
    · rw [List.getElem?_set_ne (Ne.symm hj)] at q ⊢
      exact st.val j d q
  · by_cases hj : j = i
    · subst hj
      by_cases hl : j < env.length
      · rw [List.getElem?_set_self hl] at q; cases q
      · rw [List.getElem?_eq_none (by simpa using hl)] at q; cases q
    · rw [List.getElem?_set_ne (Ne.symm hj)] at q ⊢
      exact st.own j o q
  · have hne : j ≠ i := by rintro rfl; exact hi hj
    rw [List.getElem?_set_ne (Ne.symm hne)]
    exact st.pin j hj
theorem StOk.wipes {σ : Sg} {env : Ev} {S H : Hp} {F : Nat → List Addr} (st : StOk B N σ env S H F) : ∀ {is : List Nat}, (∀ i ∈ is, i ∉ N.refs) → StOk B N (wipe σ is) (wipeE is env) S H F
  | [], _ => st
  | i :: is, h => (st.wipes (is := is) fun j hj => h j (List.mem_cons_of_mem _ hj)).unset (h i List.mem_cons_self)
theorem frees_ok {refs : List Nat} : ∀ {is : List Nat} {K : Prop}, frees refs is K → (∀ i ∈ is, i ∉ refs) ∧ K
  | [], K, h => ⟨fun _ h => (by cases h), h⟩
  | i :: is, K, h => by
    unfold frees at h
    obtain ⟨h1, h2⟩ := free_ok h
    obtain ⟨h3, h4⟩ := frees_ok h2
    exact ⟨fun j hj => (List.mem_cons.mp hj).elim (fun z => by rw [z]; exact h1) (h3 j), h4⟩
theorem wipe_get {σ : Sg} {i : Nat} : ∀ {vs : List Nat}, i ∉ vs → (wipe σ vs)[i]? = σ[i]?
  | [], _ => rfl
  | v :: vs, h => by
    unfold wipe
    rw [List.getElem?_set_ne (by rintro rfl; exact h List.mem_cons_self)]
    exact wipe_get fun z => h (List.mem_cons_of_mem _ z)
theorem wipe_in {σ : Sg} {i : Nat} : ∀ {vs : List Nat}, i ∈ vs → i < σ.length → (wipe σ vs)[i]? = some none
  | v :: vs, h, hl => by
    unfold wipe
    by_cases e : i = v
    · subst e
      rw [List.getElem?_set_self (by rw [wipe_length]; exact hl)]
    · rw [List.getElem?_set_ne (Ne.symm e)]
      rcases List.mem_cons.mp h with h | h
      · exact (e h).elim
      · exact wipe_in h hl
theorem wipe_eq {σ σ' : Sg} {vs is : List Nat} (hs : ∀ i ∈ is, i ∈ vs) (hl : σ'.length = σ.length) (h : ∀ j, j ∉ is → σ'[j]? = (wipe σ vs)[j]?) : wipe σ' vs = wipe σ vs := by
  apply List.ext_getElem?
  intro j
  by_cases hj : j ∈ vs
  · by_cases hb : j < σ.length
    · rw [wipe_in hj (by rw [hl]; exact hb), wipe_in hj hb]
    · rw [List.getElem?_eq_none (by rw [wipe_length, hl]; omega), List.getElem?_eq_none (by rw [wipe_length]; omega)]
  · rw [wipe_get hj, h j fun z => hj (hs j z)]
theorem backE_len {old : Ev} : ∀ {is : List Nat} {env : Ev}, (backE old is env).length = env.length
  | [], env => rfl
  | i :: is, env => by
    unfold backE
    split <;> rw [List.length_set, backE_len]
theorem backE_get {old env : Ev} {j : Nat} : ∀ {is : List Nat} {s : Slot}, (backE old is env)[j]? = some s → s ≠ .no → (j ∈ is ∧ old[j]? = some s ∧ ∃ d, s = .sh d) ∨ (j ∉ is ∧ env[j]? = some s)
  | [], s, h, _ => .inr ⟨by simp, h⟩
  | i :: is, s, h, hs => by
    unfold backE at h
    have next : (backE old is env)[j]? = some s → j ≠ i → (j ∈ i :: is ∧ old[j]? = some s ∧ ∃ d, s = .sh d) ∨ (j ∉ i :: is ∧ env[j]? = some s) := fun h hj => by
      rcases backE_get h hs with ⟨a, b⟩ | ⟨a, b⟩
      · exact .inl ⟨List.mem_cons_of_mem _ a, b⟩
      · exact .inr ⟨fun z => (List.mem_cons.mp z).elim hj a, b⟩
    split at h
    · rename_i d e
      by_cases hj : j = i
      · subst hj
        by_cases hl : j < (backE old is env).length
        · rw [List.getElem?_set_self hl] at h
          cases h
          exact .inl ⟨List.mem_cons_self, e, d, rfl⟩
        · rw [List.getElem?_eq_none (by rw [List.length_set]; omega)] at h; cases h
      · rw [List.getElem?_set_ne (Ne.symm hj)] at h
        exact next h hj
    · by_cases hj : j = i
      · subst hj
        by_cases hl : j < (backE old is env).length
        · rw [List.getElem?_set_self hl] at h
          cases h
          exact (hs rfl).elim
        · rw [List.getElem?_eq_none (by rw [List.length_set]; omega)] at h; cases h
      · rw [List.getElem?_set_ne (Ne.symm hj)] at h
        exact next h hj
/-- out of the comprehension's own block -/
theorem StOk.back {σ : Sg} {old env : Ev} {S S' H H0 : Hp} {F F0 : Nat → List Addr} {is : List Nat} (st0 : StOk B N σ old S H0 F0) (e : Same S S') (st : StOk B N (wipe σ is) env S' H F) (hi : ∀ i ∈ is, i ∉ N.refs) : StOk B N σ (backE old is env) S' H F := by
  refine ⟨st.s0, st.sub, st.frame, st.fresh, fun j d q => ?_, fun j o q => ?_, st.priv, st.dj, st0.pin, by rw [backE_len, st.len, wipe_length], st.wf, st.f0⟩
  · rcases backE_get q (by simp) with ⟨a, b, _⟩ | ⟨a, b⟩
    · obtain ⟨v, h1, h2⟩ := st0.val j d b
      exact ⟨v, h1, h2.mono e⟩
    · obtain ⟨v, h1, h2⟩ := st.val j d b
      exact ⟨v, by rw [wipe_get a] at h1; exact h1, h2⟩
  · rcases backE_get q (by simp) with ⟨a, b, d, z⟩ | ⟨a, b⟩
    · cases z
    · obtain ⟨v, h1, h2⟩ := st.own j o b
      exact ⟨v, by rw [wipe_get a] at h1; exact h1, h2⟩

/-- the new list is none of ours while the turn runs -/
def Ent.with (N : Ent) (D : Addr) (xs : List V) : Ent := { N with H0 := upd N.H0 D (.lst xs) }
theorem StOk.hush {σ : Sg} {env : Ev} {S H : Hp} {F : Nat → List Addr} {D : Addr} {xs : List V} (st : StOk B N σ env S H F) (hD : H D = some (.lst xs)) (hS : S D = none) (hF : ∀ i, D ∉ F i) (h0 : N.H0 D = none) : StOk B (N.with D xs) σ env S H F := by
  refine ⟨st.s0, st.sub, fun b o q nf => ?_, fun b q1 q2 => ?_, st.val, st.own, fun i b hb => ?_, st.dj, st.pin, st.len, st.wf, st.f0⟩
  · by_cases e : b = D
    · subst e
      have q : upd N.H0 b (.lst xs) b = some o := q
      rw [upd_same] at q; cases q
      exact hD
    · have q : upd N.H0 D (.lst xs) b = some o := q
      rw [upd_ne e] at q
      exact st.frame b o q nf
  · by_cases e : b = D
    · subst e; exact hS
    · have q2 : upd N.H0 D (.lst xs) b ≠ none := q2
      rw [upd_ne e] at q2
      exact st.fresh b q1 q2
  · obtain ⟨a, c, d⟩ := st.priv i b hb
    refine ⟨a, c, ?_⟩
    have e : b ≠ D := by rintro rfl; exact hF i hb
    show b ∈ N.F0 i ∨ upd N.H0 D (.lst xs) b = none
    rw [upd_ne e]
    exact d
theorem StOk.unhush {σ : Sg} {env : Ev} {S H : Hp} {F : Nat → List Addr} {D : Addr} {xs : List V} (st : StOk B (N.with D xs) σ env S H F) (hN : N.S0 D = none) (h0 : N.H0 D = none) (hf : ∀ i, D ∉ N.F0 i) :
    StOk B N σ env S H F ∧ H D = some (.lst xs) ∧ S D = none ∧ ∀ i, D ∉ F i := by
  have eD : (N.with D xs).H0 D = some (.lst xs) := upd_same
  refine ⟨⟨st.s0, st.sub, fun b o q nf => ?_, fun b q1 q2 => ?_, st.val, st.own, fun i b hb => ?_, st.dj, st.pin, st.len, st.wf, st.f0⟩, st.frame D _ eD hf, st.fresh D hN (by rw [eD]; simp), fun i hb => ?_⟩
  · have e : b ≠ D := by rintro rfl; rw [h0] at q; cases q
    exact st.frame b o (show upd N.H0 D (.lst xs) b = some o by rw [upd_ne e]; exact q) nf
  · have e : b ≠ D := by rintro rfl; exact q2 h0
    exact st.fresh b q1 (show upd N.H0 D (.lst xs) b ≠ none by rw [upd_ne e]; exact q2)
  · obtain ⟨a, c, d⟩ := st.priv i b hb
    refine ⟨a, c, d.imp id fun z => ?_⟩
    by_cases e : b = D
    · subst e; exact h0
    · have z : upd N.H0 D (.lst xs) b = none := z
      rwa [upd_ne e] at z
  · obtain ⟨a, c, d⟩ := st.priv i D hb
    rcases d with d | d
    · exact hf i d
    · rw [eD] at d; cases d
end
end Nf
/-! soundness: comprehensions -/
namespace Nf
open PySem PySem.Spec L2
section
variable {B : Base} {cf : Cf} {P : Prm} {N : Ent} {X : Cx}
/-- within a comprehension nothing is raised -/
def Prm.inn (P : Prm) : Prm := { P with ex := fun _ => False }
theorem GC.blk {s : Shared} {H : Hp} {scope : Scope} {cl : List (Str × Addr)} {C : Addr} {fp : List Addr} (g : GC B cf P N X) {N' : Ent} (hr : N'.refs = N.refs) : GC B (inCf cf scope) P.inn N' (X.blk s H scope (compEnvC scope cl C X.env) fp) where
  g := ⟨g.g.hK, g.g.hN, g.g.nd, (by show relS scope X.env.scope = relS scope cf.sc; rw [g.g.hsc]), g.g.calm, g.g.unit, g.g.blt, g.g.dbg⟩
  fb := fun x h => h
  refs := g.refs.trans hr.symm
  fns := g.fns
  bmg := g.bmg
  bpw := g.bpw
  gcs := g.gcs
  pas := fun _ _ _ _ _ _ _ h => by
    obtain ⟨_, _, _, _, _, _, _, _, _, _, _, _, _, _, z, _⟩ := h
    exact z.elim
def LR (B : Base) (N : Ent) (W : Ev → (D → Ev → Prop) → Prop) : TE := fun σ H Q => ∃ S env F K, StOk B N σ env S H F ∧ W env K ∧ ∀ d env' v S' H' F', K d env' → Same S S' → StOk B N σ env' S' H' F' → Rep B.K S' d v → Q v H'
theorem PE.lr {c : E} {e : Expr} (h : PE X e (LE B N (wpE P c))) (hr : P.refs = N.refs) : PE X e (LR B N fun env k => wpE P c env fun r e1 => retain P.refs e1 r k) := PE.imp h fun σ H Q ⟨S, env, F, K, st, w, p⟩ => by
  refine ⟨S, env, F, _, st, w, fun r env1 v S1 H1 F1 fr k e1 st1 rel => ?_⟩
  rw [hr] at k
  obtain ⟨d, env2, S2, F2, k2, e2, st2, rep⟩ := retain_ok st1 rel k
  exact p d env2 v S2 H1 F2 k2 (e1.trans e2) st2 rep
theorem noFold {e : Expr} (h : notSet e = true) (env : PySem.Env) : ∀ x, foldedSetIterable e env x = pure x := by
  intro x
  cases e <;> first
    | rfl
    | cases h
/-- the turns of a comprehension -/
theorem comp_body {elt : E} {tg : Tg} {cond : To} {own : List Nat} {ds : List D} {J : L2.It} {σ : Sg} {env1 : Ev} {S1 H1 : Hp} {F1 : Nat → List Addr} {Kc : List D → Ev → Prop} {Q : VK} {N0 : Ent} (hr : P.refs = N.refs) (hr0 : N.refs = N0.refs) (hsub : ∀ i ∈ tgIs tg, i ∈ own)
    (st1 : StOk B N σ env1 S1 H1 F1) (fd : Feeds B.K S1 J ds) (k : frees P.refs own (compW own (wpTg P.refs tg) (wpCond P.inn cond) (fun e k => wpE P.inn elt e fun r e1 => retain P.refs e1 r k) ds [] (wipeE own env1) Kc))
    (p : ∀ acc env2 S2 H2 F2 D, Kc acc env2 → Same S1 S2 → StOk B N σ (backE env1 own env2) S2 H2 F2 → RelR B N σ S2 H2 F2 (.t (.lst acc)) (.ref D) [D] → Q (.ref D) H2) :
    ∀ D, H1 D = none → ∃ W : Nat → Nat → Hp → Prop, (∃ m, W 0 m (upd H1 D (.lst []))) ∧ ∀ i m H, W i m H →
      (J.stop i H ∧ Q (.ref D) H) ∨ (J.go i H ∧ ∃ Nx : Hp → Prop, (∀ H', Nx H' → ∃ m', m' < m ∧ W (i + 1) m' H') ∧ ∀ x H', J.yld i H x H' → (∃ N', N'.refs = N0.refs ∧ LG B N' (wpTg P.refs tg) (tgIs tg) x (wipe σ own) H' fun σ2 H2 => wipe σ2 own = wipe σ own ∧ (∃ N', N'.refs = N0.refs ∧ LT B N' (wpCond P.inn cond) σ2 H2 fun b H3 =>
        if b = true then (∃ N', N'.refs = N0.refs ∧ LR B N' (fun env k => wpE P.inn elt env fun r e1 => retain P.refs e1 r k) σ2 H3 fun y H4 => ∃ acc, H4 D = some (.lst acc) ∧ acc.length < sizeLine ∧ Nx (upd H4 D (.lst (acc ++ [y])))) else Nx H3))) := by
  intro D hD
  obtain ⟨hfree, k⟩ := frees_ok k
  rw [hr] at hfree
  have hS1 : S1 D = none := sub_none st1 hD
  have h0 : N.H0 D = none := h0_none st1 hD
  have hF0 : ∀ i, D ∉ N.F0 i := fun i z => st1.f0 i D z hD
  have hN : N.S0 D = none := st1.s0.free hS1
  let Iv : Nat → Hp → Prop := fun i H => ∃ acc accV env' S' F', i ≤ ds.length ∧ Same S1 S' ∧ StOk B N (wipe σ own) env' S' H F' ∧ H D = some (.lst accV) ∧ S' D = none ∧ (∀ j, D ∉ F' j) ∧ RepL B.K S' acc accV ∧
    compW own (wpTg P.refs tg) (wpCond P.inn cond) (fun e k => wpE P.inn elt e fun r e1 => retain P.refs e1 r k) (ds.drop i) acc env' Kc
  refine ⟨fun i m H => m = ds.length - i ∧ Iv i H, ⟨ds.length, rfl, [], [], wipeE own env1, S1, F1, Nat.zero_le _, Same.refl _, (st1.wipes hfree).grow hS1 (fun i => st1.notF hD i) h0, upd_same, hS1, fun i => st1.notF hD i, .nil, k⟩, ?_⟩
  rintro i m H2 ⟨rfl, acc, accV, env2, S2, F2, hle, e2, st2, hD2, hS2, hF2, racc, k2⟩
  obtain ⟨fs, fg⟩ := fd S2 H2 e2 st2.sub
  by_cases hlt : i < ds.length
  · right
    have hd : ds.drop i = ds[i] :: ds.drop (i + 1) := List.drop_eq_getElem_cons hlt
    rw [hd, compW_cons] at k2
    obtain ⟨go, yl⟩ := fg i ds[i] (List.getElem?_eq_getElem hlt)
    refine ⟨go, Iv (i + 1), fun H' h => ⟨ds.length - (i + 1), by omega, rfl, h⟩, fun x H' y => ?_⟩
    obtain ⟨S3, e3, st3, rep3⟩ := fed_ok (st2.hush hD2 hS2 hF2 h0) (yl x H' y)
    have k3 : wpTg P.refs tg ds[i] env2 fun env1' => wpCond P.inn cond env1' fun b env2' =>
        if b = true then wpE P.inn elt env2' fun r e1 => retain P.refs e1 r fun x env3 => acc.length < sizeLine ∧ compW own (wpTg P.refs tg) (wpCond P.inn cond) (fun e k => wpE P.inn elt e fun r e1 => retain P.refs e1 r k) (ds.drop (i + 1)) (acc ++ [x]) (wipeE own env3) Kc
        else compW own (wpTg P.refs tg) (wpCond P.inn cond) (fun e k => wpE P.inn elt e fun r e1 => retain P.refs e1 r k) (ds.drop (i + 1)) acc (wipeE own env2') Kc := k2
    refine ⟨N.with D accV, hr0, S3, env2, F2, ds[i], _, st3, rep3, k3, fun σ4 env4 F4 k4 st4 hj hl => ?_⟩
    have hwe : wipe σ4 own = wipe σ own := wipe_eq hsub (by rw [hl, wipe_length]) hj
    refine ⟨hwe, N.with D accV, hr0, S3, env4, F4, _, st4, k4, fun b env5 S5 H5 F5 k5 e5 st5 => ?_⟩
    cases b with
    | true =>
      rw [if_pos rfl] at k5 ⊢
      refine ⟨N.with D accV, hr0, S5, env5, F5, _, st5, k5, fun d6 env6 v6 S6 H6 F6 k6 e6 st6 rep6 => ?_⟩
      obtain ⟨st7, hD7, hS7, hF7⟩ := st6.unhush hN h0 hF0
      have e26 : Same S2 S6 := e3.trans (e5.trans e6)
      refine ⟨accV, hD7, by rw [racc.len]; exact k6.1, acc ++ [d6], accV ++ [v6], wipeE own env6, S6, F6, hlt, e2.trans e26, ?_, upd_same, hS7, hF7, (racc.mono e26).append (.one rep6), k6.2⟩
      have := (st7.wipes hfree).grow (o := .lst (accV ++ [v6])) hS7 hF7 h0
      rwa [hwe] at this
    | false =>
      rw [if_neg (by simp)] at k5 ⊢
      obtain ⟨st7, hD7, hS7, hF7⟩ := st5.unhush hN h0 hF0
      have e26 : Same S2 S5 := e3.trans e5
      refine ⟨acc, accV, wipeE own env5, S5, F5, hlt, e2.trans e26, ?_, hD7, hS7, hF7, racc.mono e26, k5⟩
      have := st7.wipes hfree
      rwa [hwe] at this
  · left
    have hi : i = ds.length := by omega
    subst hi
    rw [List.drop_length, compW_nil] at k2
    refine ⟨fs, p acc env2 S2 H2 F2 D k2 e2 (StOk.back st1 e2 st2 hfree) ⟨D, rfl, ⟨rfl, accV, hD2, racc⟩, fun b hb => ?_⟩⟩
    have : b = D := by simpa using hb
    subst this
    exact ⟨hS2, h0, hF2⟩
theorem se_comp {elt : E} {tg : Tg} {it : It} {cond : To} {own : List Nat} {elt' tg' it' : Expr} {ifs : List Expr} {scope : Scope} {ow : List (Str × Nat)} {pos : Pos} (g : GC B cf P N X)
    (how : ow.map (·.2) = own) (ok : BlkOk X.N X.env.scope scope ow) (hsub : ∀ i ∈ tgIs tg, i ∈ own) (hns : notSet it' = true)
    (hi : PI X tg' it' (LI B N (wpIt P it)))
    (hg : ∀ (s : Shared) (H : Hp) (C : Addr) (cl : List (Str × Addr)) (fp : List Addr) (N' : Ent), N'.refs = N.refs → PG (X.blk s H scope (compEnvC scope cl C X.env) fp) tg' (LG B N' (wpTg P.refs tg) (tgIs tg)))
    (ht : ∀ (s : Shared) (H : Hp) (C : Addr) (cl : List (Str × Addr)) (fp : List Addr) (N' : Ent), N'.refs = N.refs → L2.PTs (X.blk s H scope (compEnvC scope cl C X.env) fp) ifs (LT B N' (wpCond P.inn cond)))
    (he : ∀ (s : Shared) (H : Hp) (C : Addr) (cl : List (Str × Addr)) (fp : List Addr) (N' : Ent), N'.refs = N.refs → PE (X.blk s H scope (compEnvC scope cl C X.env) fp) elt' (LE B N' (wpE P.inn elt))) :
    PI X tg' it' (LI B N (wpIt P it)) ∧
    (∀ (s : Shared) (H : Hp) (C : Addr) (cl : List (Str × Addr)) (fp : List Addr), PG (X.blk s H scope (compEnvC scope cl C X.env) fp) tg' (fun v σ H Q => ∃ N', N'.refs = N.refs ∧ LG B N' (wpTg P.refs tg) (tgIs tg) v σ H Q)) ∧
    (∀ (s : Shared) (H : Hp) (C : Addr) (cl : List (Str × Addr)) (fp : List Addr), L2.PTs (X.blk s H scope (compEnvC scope cl C X.env) fp) ifs (fun σ H Q => ∃ N', N'.refs = N.refs ∧ LT B N' (wpCond P.inn cond) σ H Q)) ∧
    (∀ (s : Shared) (H : Hp) (C : Addr) (cl : List (Str × Addr)) (fp : List Addr), PE (X.blk s H scope (compEnvC scope cl C X.env) fp) elt' (fun σ H Q => ∃ N', N'.refs = N.refs ∧ LR B N' (fun env k => wpE P.inn elt env fun r e1 => retain P.refs e1 r k) σ H Q)) ∧
    ∀ σ H Q, LE B N (wpE P (.comp elt tg it cond own)) σ H Q → tLc (LI B N (wpIt P it)) (fun v σ H Q => ∃ N', N'.refs = N.refs ∧ LG B N' (wpTg P.refs tg) (tgIs tg) v σ H Q)
      (fun σ H Q => ∃ N', N'.refs = N.refs ∧ LT B N' (wpCond P.inn cond) σ H Q) (fun σ H Q => ∃ N', N'.refs = N.refs ∧ LR B N' (fun env k => wpE P.inn elt env fun r e1 => retain P.refs e1 r k) σ H Q) (ow.map (·.2)) σ H Q := by
  refine ⟨hi, fun s H C cl fp => ⟨fun pins s1 σ H1 v u Q I r ⟨N', hr, hw⟩ => (hg s H C cl fp N' hr).run pins s1 σ H1 v u Q I r hw⟩, fun s H C cl fp => ⟨fun pins s1 σ H1 Q I ⟨N', hr, hw⟩ => (ht s H C cl fp N' hr).run pins s1 σ H1 Q I hw⟩,
    fun s H C cl fp => ⟨fun pins s1 σ H1 Q I ⟨N', hr, hw⟩ => (PE.lr (he s H C cl fp N' hr) (g.refs.trans hr.symm)).run pins s1 σ H1 Q I hw⟩, fun σ H Q hw => ?_⟩
  rw [how]
  obtain ⟨S, env, F, K, st, w, p⟩ := hw
  have w' : wpIt P it env fun ds env1 => frees P.refs own <|
      compW own (wpTg P.refs tg) (wpCond P.inn cond) (fun e k => wpE P.inn elt e fun r e1 => retain P.refs e1 r k) ds [] (wipeE own env1) fun xs env2 => K (.t (.lst xs)) (backE env1 own env2) := w
  refine ⟨S, env, F, _, st, w', fun ds env1 S1 H1 F1 J k e1 st1 fd => ?_⟩
  exact comp_body g.refs rfl hsub st1 fd k fun acc env2 S2 H2 F2 D kc e2 st2 rel => p (.t (.lst acc)) (backE env1 own env2) (.ref D) S2 H2 F2 [D] kc (e1.trans e2) st2 rel
/-! a dict is walked: it is locked meanwhile -/
theorem rep_kD {PK : PySem.W.Frag} {S : Hp} (k : Key) : Rep PK S (kD k) (kV k) := by
  cases k with
  | inl i => rfl
  | inr x => rfl
theorem feeds_items {PK : PySem.W.Frag} {S0 : Hp} {a : Addr} {o : Obj} {kvs : List (Key × V)} {vs : List D} (hd : S0 a = some (.frz o (.dK kvs))) (r : RepL PK S0 vs (kvs.map (·.2))) : Feeds PK S0 (Iti a o kvs) (zipD (kvs.map fun p => kD p.1) vs) := fun S H e e2 => by
  have hq := e2 _ _ (e _ _ hd)
  have hl := r.len
  rw [List.length_map] at hl
  refine ⟨⟨hq, by rw [zipD_len, List.length_map]; omega⟩, fun i d hd => ?_⟩
  obtain ⟨c, c', hc, hc', rfl⟩ := zipD_get _ _ i d hd
  obtain ⟨v, hv, rv⟩ := r.get hc'
  rw [List.getElem?_map] at hc hv
  obtain ⟨⟨k, w⟩, h1, rfl⟩ := Option.map_eq_some_iff.mp hc
  rw [h1] at hv
  cases hv
  refine ⟨⟨hq, (List.getElem?_eq_some_iff.mp h1).1⟩, fun x H' y => ?_⟩
  obtain ⟨T, k', v', g1, g2, g3, g4⟩ := y
  rw [h1] at g1; cases g1
  exact .inr ⟨T, kV k, w, kD k, c', g2, g3, g4, rfl, rep_kD k, rv.mono e⟩
theorem feeds_keys {PK : PySem.W.Frag} {S0 : Hp} {a : Addr} {o : Obj} {kvs : List (Key × V)} (hd : S0 a = some (.frz o (.dK kvs))) : Feeds PK S0 (Itk a o kvs) (kvs.map fun p => kD p.1) := fun S H e e2 => by
  have hq := e2 _ _ (e _ _ hd)
  refine ⟨⟨hq, by rw [List.length_map]; exact Nat.le_refl _⟩, fun i d hd => ?_⟩
  rw [List.getElem?_map] at hd
  obtain ⟨⟨k, w⟩, h1, rfl⟩ := Option.map_eq_some_iff.mp hd
  refine ⟨⟨hq, (List.getElem?_eq_some_iff.mp h1).1⟩, fun x H' y => ?_⟩
  obtain ⟨rfl, k', v', g1, g2⟩ := y
  rw [h1] at g1; cases g1
  exact .inl ⟨rfl, by rw [g2]; exact rep_kD k⟩
/-- the locked dict in a slot, its turns -/
def iDk (J : Addr → Obj → List (Key × V) → L2.It) (i : Nat) : TI := fun σ H R => ∃ a o kvs, σ[i]? = some (some (.ref a)) ∧ H a = some (.frz o (.dK kvs)) ∧ R (J a o kvs) H
theorem comp_dict {elt : E} {tg : Tg} {cond : To} {own : List Nat} {i : Nat} {elt' tg' it' : Expr} {ifs : List Expr} {scope : Scope} {ow : List (Str × Nat)} {pos : Pos} (it : It) (g : GC B cf P N X)
    (how : ow.map (·.2) = own) (ok : BlkOk X.N X.env.scope scope ow) (hsub : ∀ i ∈ tgIs tg, i ∈ own) (hns : notSet it' = true)
    (J : Addr → Obj → List (Key × V) → L2.It) (L : List D → List D → List D) (hi : PI X tg' it' (iDk J i))
    (hJ : ∀ {S0 : Hp} {a : Addr} {o : Obj} {kvs : List (Key × V)} {vs : List D}, S0 a = some (.frz o (.dK kvs)) → RepL B.K S0 vs (kvs.map (·.2)) → Feeds B.K S0 (J a o kvs) (L (kvs.map fun p => kD p.1) vs))
    (hw : ∀ env K, wpIt P it env K → wpE P (.var i) env fun r env1 => retain P.refs env1 r fun d env2 => match d with | .dic ks vs => K (L ks vs) env2 | _ => False)
    (hg : ∀ (s : Shared) (H : Hp) (C : Addr) (cl : List (Str × Addr)) (fp : List Addr) (N' : Ent), N'.refs = N.refs → PG (X.blk s H scope (compEnvC scope cl C X.env) fp) tg' (LG B N' (wpTg P.refs tg) (tgIs tg)))
    (ht : ∀ (s : Shared) (H : Hp) (C : Addr) (cl : List (Str × Addr)) (fp : List Addr) (N' : Ent), N'.refs = N.refs → L2.PTs (X.blk s H scope (compEnvC scope cl C X.env) fp) ifs (LT B N' (wpCond P.inn cond)))
    (he : ∀ (s : Shared) (H : Hp) (C : Addr) (cl : List (Str × Addr)) (fp : List Addr) (N' : Ent), N'.refs = N.refs → PE (X.blk s H scope (compEnvC scope cl C X.env) fp) elt' (LE B N' (wpE P.inn elt))) :
    PE X (.ListComp elt' [⟨tg', it', ifs, 0⟩] scope pos) (LE B N (wpE P (.comp elt tg it cond own))) := by
  have pg : ∀ (s : Shared) (H : Hp) (C : Addr) (cl : List (Str × Addr)) (fp : List Addr), PG (X.blk s H scope (compEnvC scope cl C X.env) fp) tg' (fun v σ H Q => ∃ N', N'.refs = N.refs ∧ LG B N' (wpTg P.refs tg) (tgIs tg) v σ H Q) :=
    fun s H C cl fp => ⟨fun pins s1 σ H1 v u Q I r ⟨N', hr, hw⟩ => (hg s H C cl fp N' hr).run pins s1 σ H1 v u Q I r hw⟩
  have pt : ∀ (s : Shared) (H : Hp) (C : Addr) (cl : List (Str × Addr)) (fp : List Addr), L2.PTs (X.blk s H scope (compEnvC scope cl C X.env) fp) ifs (fun σ H Q => ∃ N', N'.refs = N.refs ∧ LT B N' (wpCond P.inn cond) σ H Q) :=
    fun s H C cl fp => ⟨fun pins s1 σ H1 Q I ⟨N', hr, hw⟩ => (ht s H C cl fp N' hr).run pins s1 σ H1 Q I hw⟩
  have pe : ∀ (s : Shared) (H : Hp) (C : Addr) (cl : List (Str × Addr)) (fp : List Addr), PE (X.blk s H scope (compEnvC scope cl C X.env) fp) elt' (fun σ H Q => ∃ N', N'.refs = N.refs ∧ LR B N' (fun env k => wpE P.inn elt env fun r e1 => retain P.refs e1 r k) σ H Q) :=
    fun s H C cl fp => ⟨fun pins s1 σ H1 Q I ⟨N', hr, hw⟩ => (PE.lr (he s H C cl fp N' hr) (g.refs.trans hr.symm)).run pins s1 σ H1 Q I hw⟩
  have core := pe_lc (pos := pos) g.g.calm (by rw [g.g.hN]; exact g.g.nd) hi ok pg pt pe (noFold hns _)
  rw [how] at core
  refine ⟨fun pins s σ H Q I hwp => ?_⟩
  obtain ⟨S, env, F, K, st, w, p⟩ := hwp
  have w' := hw env _ (show wpIt P it env fun ds env1 => frees P.refs own <|
      compW own (wpTg P.refs tg) (wpCond P.inn cond) (fun e k => wpE P.inn elt e fun r e1 => retain P.refs e1 r k) ds [] (wipeE own env1) fun xs env2 => K (.t (.lst xs)) (backE env1 own env2) from w)
  simp only [wpE] at w'
  obtain ⟨r, v, fr, hv, rel, w2⟩ : ∃ r v, ∃ fr : List Addr, σ[i]? = some (some v) ∧ RelR B N σ S H F r v fr ∧ retain P.refs env r fun d env2 => match d with | .dic ks vs => (frees P.refs own <|
      compW own (wpTg P.refs tg) (wpCond P.inn cond) (fun e k => wpE P.inn elt e fun r e1 => retain P.refs e1 r k) (L ks vs) [] (wipeE own env2) fun xs env3 => K (.t (.lst xs)) (backE env2 own env3)) | _ => False := by
    split at w'
    · rename_i d e
      obtain ⟨v, h1, h2⟩ := st.val i d e
      exact ⟨.v d, v, [], h1, ⟨h2, rfl⟩, w'⟩
    · rename_i o e
      obtain ⟨a, h1, h2⟩ := st.own i o e
      exact ⟨.l i, .ref a, [], h1, ⟨h1, rfl⟩, w'⟩
    · exact w'.elim
  rw [g.refs] at w2
  obtain ⟨d, env2, S2, F2, k2, e2, st2, rep⟩ := retain_ok st rel w2
  rw [← g.refs] at k2
  split at k2
  · rename_i ks vs
    unfold Rep at rep
    obtain ⟨a, kvs, rfl, hrd, rfl, hvs⟩ := rep
    rcases hrd with hrd | ⟨o, hrd⟩
    · have hH := st2.sub _ _ hrd
      refine (pe_lock core).run pins s σ H Q I ⟨a, .dK kvs, hH, trivial, fun od => ⟨a, od, kvs, hv, upd_same, ?_⟩⟩
      have d1 : DL kvs (.dK kvs) := .inl rfl
      have d2 : DL kvs (.frz od (.dK kvs)) := .inr ⟨od, rfl⟩
      have st3 := st2.lock hrd d1 d2
      rw [← lk_upd (o := .frz od (.dK kvs)) hH]
      have hrefs : P.refs = (N.lk a (.frz od (.dK kvs))).refs := g.refs
      refine comp_body (N := N.lk a (.frz od (.dK kvs))) (N0 := N) (Q := fun v H' => H' a = some (.frz od (.dK kvs)) ∧ Q v (upd H' a (.dK kvs))) hrefs rfl hsub st3 (hJ (lk_at hrd) (repL_lk hrd d1 d2 hvs)) k2 fun acc env3 S3 H3 F3 D kc e3 st4 rel4 => ?_
      obtain ⟨st5, e5, hd5⟩ := st2.unlock hrd d1 d2 st4 e3
      have hH3 := st4.sub _ _ hd5
      refine ⟨hH3, ?_⟩
      rw [← lk_upd (o := .dK kvs) hH3]
      obtain ⟨b, hb, ho, hp⟩ := rel4
      cases hb
      have nD : a ∉ [D] := fun z => by
        have z' : a = D := by simpa using z
        subst z'
        have := (hp a (by simp)).1
        rw [hd5] at this; cases this
      refine p (.t (.lst acc)) _ (.ref D) (lk a (.dK kvs) S3) (lk a (.dK kvs) H3) F3 [D] kc (e2.trans e5) st5 ⟨D, rfl, own_lk hd5 d2 d1 nD ho, fun b hb => ?_⟩
      obtain ⟨p1, p2, p3⟩ := hp b hb
      exact ⟨lk_none.mpr p1, lk_none.mp p2, p3⟩
    · exact core.run pins s σ H Q I ⟨a, o, kvs, hv, st2.sub _ _ hrd, comp_body g.refs rfl hsub st2 (hJ hrd hvs) k2 fun acc env3 S3 H3 F3 D kc e3 st4 rel4 => p (.t (.lst acc)) _ (.ref D) S3 H3 F3 [D] kc (e2.trans e3) st4 rel4⟩
  · exact k2.elim
theorem vis_slot {i : Nat} {x : Str} {pos : Pos} (g : GC B cf P N X) (h : slotB cf i x = true) : PE X (.Name x pos) (L2.tVar i) := by
  unfold slotB at h
  rw [Bool.and_eq_true, decide_eq_true_eq] at h
  have hN : X.N[i]? = some x := by rw [g.g.hN]; exact h.1
  have hv : Vis X.env.scope x := by
    have h2 := h.2
    unfold visB at h2
    unfold Vis
    rw [g.g.hsc]
    split at h2
    · exact .inl (by assumption)
    · exact .inr (.inl (by assumption))
    · exact .inr (.inr (by assumption))
    · cases h2
  obtain ⟨d1, d2⟩ := g.g.dbg x (List.mem_of_getElem? h.1)
  exact pe_var hN hv (beq_eq_false_iff_ne.mpr d1) (beq_eq_false_iff_ne.mpr d2)
theorem se_compD {elt : E} {tg : Tg} {it : It} {cond : To} {own : List Nat} {elt' tg' it' : Expr} {ifs : List Expr} {scope : Scope} {ow : List (Str × Nat)} {pos : Pos} (g : GC B cf P N X)
    (how : ow.map (·.2) = own) (ok : BlkOk X.N X.env.scope scope ow) (hsub : ∀ i ∈ tgIs tg, i ∈ own) (hns : notSet it' = true) (hdk : chkDk cf it tg' it' = true)
    (hg : ∀ (s : Shared) (H : Hp) (C : Addr) (cl : List (Str × Addr)) (fp : List Addr) (N' : Ent), N'.refs = N.refs → PG (X.blk s H scope (compEnvC scope cl C X.env) fp) tg' (LG B N' (wpTg P.refs tg) (tgIs tg)))
    (ht : ∀ (s : Shared) (H : Hp) (C : Addr) (cl : List (Str × Addr)) (fp : List Addr) (N' : Ent), N'.refs = N.refs → L2.PTs (X.blk s H scope (compEnvC scope cl C X.env) fp) ifs (LT B N' (wpCond P.inn cond)))
    (he : ∀ (s : Shared) (H : Hp) (C : Addr) (cl : List (Str × Addr)) (fp : List Addr) (N' : Ent), N'.refs = N.refs → PE (X.blk s H scope (compEnvC scope cl C X.env) fp) elt' (LE B N' (wpE P.inn elt))) :
    PE X (.ListComp elt' [⟨tg', it', ifs, 0⟩] scope pos) (LE B N (wpE P (.comp elt tg it cond own))) := by
  unfold chkDk at hdk
  split at hdk
  · rename_i a1 a2 i
    rw [Bool.and_eq_true] at hdk
    obtain ⟨htg, h⟩ := hdk
    cases tg' <;> try (cases htg; done)
    split at h
    · rename_i x p1 m ap cp
      simp only [Bool.and_eq_true, decide_eq_true_eq] at h
      obtain ⟨⟨rfl, h2⟩, h3⟩ := h
      refine comp_dict (i := i) (.items (.var i)) g how ok hsub hns Iti zipD (PI.imp (pi_items (vis_slot g h2) rfl h3) ?_) feeds_items (fun env K h => h) hg ht he
      intro σ H R ⟨a, o, kvs, hv, hd, hR⟩
      exact ⟨.ref a, hv, a, o, kvs, rfl, hd, hR⟩
    · cases h
  · rename_i a1 a2 i
    split at hdk
    · rename_i x p1
      refine comp_dict (i := i) (.keys (.var i)) g how ok hsub hns Itk (fun ks _ => ks) (PI.imp (pi_keys (vis_slot g hdk)) ?_) (fun h _ => feeds_keys h) (fun env K h => h) hg ht he
      intro σ H R ⟨a, o, kvs, hv, hd, hR⟩
      exact ⟨.ref a, hv, a, o, rfl, .inl ⟨kvs, hd, hR⟩⟩
    · cases hdk
  · cases hdk
end
end Nf
/-! soundness: displays of a dict with pairs -/
namespace Nf
open PySem PySem.Spec L2
def Ent.dk (N : Ent) (p : Addr) : Ent := { N with H0 := upd N.H0 p (.dK []) }
section
variable {B : Base} {cf : Cf} {P : Prm} {N : Ent} {X : Cx}
theorem GC.inn (g : GC B cf P N X) {N' : Ent} (hr : N'.refs = N.refs) : GC B cf P.inn N' X where
  g := g.g
  fb := g.fb
  refs := g.refs.trans hr.symm
  fns := g.fns
  bmg := g.bmg
  bpw := g.bpw
  gcs := g.gcs
  pas := fun _ _ _ _ _ _ _ h => by
    obtain ⟨_, _, _, _, _, _, _, _, _, _, _, _, _, _, z, _⟩ := h
    exact z.elim
section
variable {σ : Sg} {env env2 : Ev} {S H S2 H2 : Hp} {F F2 : Nat → List Addr} {p : Addr}
theorem StOk.dkIn (st : StOk B N σ env S H F) (h : H p = none) : StOk B (N.dk p) σ env S (upd H p (.dK [])) F where
  s0 := st.s0
  sub := st.sub.trans (same_upd h)
  frame := fun b x e nf => by
    by_cases hb : b = p
    · subst hb
      have e1 : upd N.H0 b (.dK []) b = some x := e
      rw [upd_same] at e1 ⊢
      exact e1
    · have e1 : upd N.H0 p (.dK []) b = some x := e
      rw [upd_ne hb] at e1 ⊢
      exact st.frame b x e1 nf
  fresh := fun b e1 e2 => by
    by_cases hb : b = p
    · subst hb; exact sub_none st h
    · exact st.fresh b e1 fun z => e2 (by
        show upd N.H0 p (.dK []) b = none
        rw [upd_ne hb]; exact z)
  val := st.val
  own := fun i o e => by
    obtain ⟨a, h1, h2⟩ := st.own i o e
    refine ⟨a, h1, h2.stab (Same.refl _) fun b hb => upd_ne ?_⟩
    rintro rfl
    exact (st.priv i _ hb).2.1 h
  priv := fun i b hb => by
    obtain ⟨h1, h2, h3⟩ := st.priv i b hb
    have hb' : b ≠ p := by rintro rfl; exact h2 h
    refine ⟨h1, by rw [upd_ne hb']; exact h2, h3.imp id fun z => ?_⟩
    show upd N.H0 p (.dK []) b = none
    rw [upd_ne hb']; exact z
  dj := st.dj
  pin := st.pin
  len := st.len
  wf := st.wf
  f0 := fun i b hb => by
    by_cases e : b = p
    · subst e; rw [upd_same]; exact fun z => by cases z
    · rw [upd_ne e]; exact st.f0 i b hb
theorem StOk.dkOut (st : StOk B N σ env S H F) (h : H p = none) (st2 : StOk B (N.dk p) σ env2 S2 H2 F2) :
    H2 p = some (.dK []) ∧ S2 p = none ∧ (∀ i, p ∉ F2 i) ∧ ∀ ho : HO, StOk B N σ env2 S2 (upd H2 p ho) F2 := by
  have n0 : N.H0 p = none := h0_none st h
  have nF0 : ∀ i, p ∉ N.F0 i := fun i hi => st.f0 i p hi h
  have e1 : H2 p = some (.dK []) := st2.frame p (.dK []) (show upd N.H0 p (.dK []) p = _ by rw [upd_same]) nF0
  have e2 : S2 p = none := st2.fresh p (st.s0.free (sub_none st h)) (by
    show upd N.H0 p (.dK []) p ≠ none
    rw [upd_same]; exact fun z => by cases z)
  have e3 : ∀ i, p ∉ F2 i := fun i hi => by
    rcases (st2.priv i p hi).2.2 with z | z
    · exact nF0 i z
    · have z1 : upd N.H0 p (.dK []) p = none := z
      rw [upd_same] at z1; cases z1
  refine ⟨e1, e2, e3, fun kvs => ⟨st2.s0, fun b x e => ?_, fun b x e nf => ?_, fun b z1 z2 => ?_, st2.val, fun i o e => ?_, fun i b hb => ?_, st2.dj, st2.pin, st2.len, st2.wf, fun i b hb => ?_⟩⟩
  · have hb : b ≠ p := by rintro rfl; rw [e2] at e; cases e
    rw [upd_ne hb]; exact st2.sub _ _ e
  · have hb : b ≠ p := by rintro rfl; rw [n0] at e; cases e
    rw [upd_ne hb]
    exact st2.frame b x (show upd N.H0 p (.dK []) b = _ by rw [upd_ne hb]; exact e) nf
  · by_cases hb : b = p
    · subst hb; exact e2
    · exact st2.fresh b z1 (by
        show upd N.H0 p (.dK []) b ≠ none
        rw [upd_ne hb]; exact z2)
  · obtain ⟨a, h1, h2⟩ := st2.own i o e
    refine ⟨a, h1, h2.stab (Same.refl _) fun b hb => upd_ne ?_⟩
    rintro rfl
    exact e3 i hb
  · obtain ⟨h1, h2, h3⟩ := st2.priv i b hb
    have hb' : b ≠ p := by rintro rfl; exact e3 i hb
    refine ⟨h1, by rw [upd_ne hb']; exact h2, h3.imp id fun z => ?_⟩
    have z1 : upd N.H0 p (.dK []) b = none := z
    rw [upd_ne hb'] at z1
    exact z1
  · by_cases e : b = p
    · subst e; rw [upd_same]; exact fun z => by cases z
    · rw [upd_ne e]; exact st2.f0 i b hb
end
/-- the pairs' meanings -/
def trsOf (B : Base) (N : Ent) (P : Prm) : Es → Es → List (TE × TE)
  | .cons k ks, .cons c cs => (tC (.str ⟨(keyE k).toArray⟩), fun σ H Q => ∃ N' : Ent, N'.refs = N.refs ∧ LSt B N' (wpE P c) σ H Q) :: trsOf B N P ks cs
  | _, _ => []
theorem peFam {v : Expr} {P : Prm} {c : E} (h : ∀ N' : Ent, N'.refs = N.refs → PE X v (LSt B N' (wpE P c))) : PE X v (fun σ H Q => ∃ N' : Ent, N'.refs = N.refs ∧ LSt B N' (wpE P c) σ H Q) :=
  ⟨fun pins s σ H Q I ⟨N', hr, hw⟩ => (h N' hr).run pins s σ H Q I hw⟩
theorem pesCons {N' : Ent} {v : Expr} {values : List Expr} {c : E} {cs : Es} (h : PEs X (v :: values) (tsOf B N' P (.cons c cs))) : PE X v (LSt B N' (wpE P c)) ∧ PEs X values (tsOf B N' P cs) := by
  obtain ⟨t, r, e1, h1, h2⟩ := h
  have e2 : LSt B N' (wpE P c) :: tsOf B N' P cs = t :: r := e1
  injection e2 with e3 e4
  subst e3 e4
  exact ⟨h1, h2⟩
theorem constB_str {s : List Nat} {e : Expr} (h : constB (.str s) e = true) : PE X e (tC (.str ⟨s.toArray⟩)) := by
  unfold constB at h
  split at h
  · rename_i e1; cases e1
  · rename_i e1; cases e1
  · rename_i e1; cases e1
  · rename_i e1
    cases e1
    cases of_decide_eq_true h
    exact pe_str
  · cases h
theorem pps_of {pos : Pos} : ∀ {ks vs : Es} {keys : List (Option Expr)} {values : List Expr}, chkKs ks keys = true → (∀ N' : Ent, N'.refs = N.refs → PEs X values (tsOf B N' P vs)) → keys.length = values.length → PPs X pos keys values (trsOf B N P ks vs)
  | .nil, vs, keys, values, h, hs, hl => by
    cases keys with
    | nil =>
      cases values with
      | nil => exact pps_nil
      | cons _ _ => cases hl
    | cons _ _ => unfold chkKs at h; cases h
  | .cons k ks, vs, keys, values, h, hs, hl => by
    cases keys with
    | nil => unfold chkKs at h; cases h
    | cons q keys =>
      cases q with
      | none => unfold chkKs at h; cases h
      | some e =>
        have h' : (constB (.str (keyE k)) e && chkKs ks keys) = true := h
        rw [Bool.and_eq_true] at h'
        cases values with
        | nil => cases hl
        | cons v values =>
          cases vs with
          | nil =>
            obtain ⟨t, r, e1, _, _⟩ := hs N rfl
            cases (show [] = t :: r from e1)
          | cons c cs => exact pps_cons (constB_str h'.1) (peFam fun N' hr => (pesCons (hs N' hr)).1) (pps_of h'.2 (fun N' hr => (pesCons (hs N' hr)).2) (by simpa using hl))
def lenEs : Es → Nat
  | .nil => 0
  | .cons _ r => lenEs r + 1
theorem keysE_len : ∀ {ks : Es} {keys : List (Option Expr)}, chkKs ks keys = true → (keysE ks).length = keys.length
  | .nil, [], _ => rfl
  | .nil, _ :: _, h => by unfold chkKs at h; cases h
  | .cons k ks, [], h => by unfold chkKs at h; cases h
  | .cons k ks, none :: keys, h => by unfold chkKs at h; cases h
  | .cons k ks, some e :: keys, h => by
    have h' : (constB (.str (keyE k)) e && chkKs ks keys) = true := h
    rw [Bool.and_eq_true] at h'
    show (keyE k :: keysE ks).length = _
    simp [keysE_len h'.2]
theorem pairs_go {N' : Ent} (hr : N'.refs = N.refs) {σ : Sg} : ∀ {Q : List (V × V) → Hp → Prop} {ks cs : Es} {env : Ev} {S H : Hp} {F : Nat → List Addr} {K : List R → Ev → Prop}, (keysE ks).length = lenEs cs → StOk B N' σ env S H F → wpEs P cs env K →
    (∀ rs env' vs S' H' F', K rs env' → Same S S' → StOk B N' σ env' S' H' F' → RelSs B σ S' rs vs → vs.length = (keysE ks).length → Q (((keysE ks).map fun k => V.str ⟨k.toArray⟩).zip vs) H') → tPairs (trsOf B N P ks cs) σ H Q
  | Q, .nil, .nil, env, S, H, F, K, _, st, w, p => p [] env [] S H F w (Same.refl _) st rfl rfl
  | _, .nil, .cons _ _, _, _, _, _, _, h, _, _, _ => by cases h
  | _, .cons _ _, .nil, _, _, _, _, _, h, _, _, _ => by cases h
  | Q, .cons k ks, .cons c cs, env, S, H, F, K, hl, st, w, p => by
    have w' : wpE P c env fun r1 env1 => settle env1 r1 fun r1 env1 => wpEs P cs env1 fun rs env2 => K (r1 :: rs) env2 := w
    show ∃ N' : Ent, N'.refs = N.refs ∧ LSt B N' (wpE P c) σ H fun y H2 => tPairs (trsOf B N P ks cs) σ H2 fun ps H3 => Q ((V.str ⟨(keyE k).toArray⟩, y) :: ps) H3
    refine ⟨N', hr, S, env, F, _, st, w', fun r1 env1 v S1 H1 F1 kk e st1 rel => ?_⟩
    exact pairs_go hr (Q := fun ps H3 => Q ((V.str ⟨(keyE k).toArray⟩, v) :: ps) H3) (by simpa [keysE, lenEs] using hl) st1 kk fun rs env2 vs S2 H2 F2 k2 e2 st2 rel2 hn => p (r1 :: rs) env2 (v :: vs) S2 H2 F2 k2 (e.trans e2) st2 ⟨v, vs, rfl, rel.mono e2, rel2⟩ (by simp [keysE, hn])
theorem lenEs_of {ts : List TE} : ∀ {vs : Es} {values : List Expr}, PEs X values (tsOf B N P vs) → lenEs vs = values.length
  | .nil, [], _ => rfl
  | .nil, _ :: _, h => by obtain ⟨t, r, e1, _, _⟩ := h; cases (show [] = t :: r from e1)
  | .cons c cs, [], h => by cases (show LSt B N (wpE P c) :: tsOf B N P cs = [] from h)
  | .cons c cs, v :: values, h => by
    obtain ⟨t, r, e1, h1, h2⟩ := h
    have e2 : LSt B N (wpE P c) :: tsOf B N P cs = t :: r := e1
    injection e2 with e3 e4
    subst e3 e4
    simp [lenEs, lenEs_of (ts := ts) h2]
theorem mergeK_nodup : ∀ (more kvs : List (Key × V)), (kvs.map (·.1) ++ more.map (·.1)).Nodup → mergeK kvs more = kvs ++ more
  | [], kvs, _ => by show kvs = kvs ++ []; simp
  | p :: r, kvs, h => by
    have hn : ∀ q ∈ kvs, q.1 ≠ p.1 := by
      intro q hq e
      have := (List.nodup_append.mp h).2.2 q.1 (List.mem_map_of_mem hq) p.1 (by simp)
      exact this e
    have hp : putK kvs p.1 p.2 = kvs ++ [p] := by
      unfold putK
      rw [if_neg]
      intro z
      obtain ⟨q, hq, hz⟩ := List.any_eq_true.mp z
      exact hn q hq (of_decide_eq_true hz)
    show mergeK (putK kvs p.1 p.2) r = _
    rw [hp, mergeK_nodup r (kvs ++ [p]) (by simpa using h)]
    simp
theorem se_dct {vs : Es} {keys : List (Option Expr)} {values : List Expr} {pos : Pos} {k0 : E} {kr : Es} (g : GC B cf P N X) (h1 : chkKs (.cons k0 kr) keys = true) (h15 : keys.length ≤ 15) (hl : keys.length = values.length) (hn : (keysE (.cons k0 kr)).Nodup) (h0 : keys ≠ [])
    (hs : ∀ N' : Ent, N'.refs = N.refs → PEs X values (tsOf B N' P.inn vs)) : PE X (.Dict keys values pos) (LE B N (wpE P (.dct (.cons k0 kr) vs))) := by
  have hall : ∀ {ks : Es} {keys : List (Option Expr)}, chkKs ks keys = true → keys.all (·.isSome) = true := by
    intro ks keys
    induction keys generalizing ks with
    | nil => intro _; rfl
    | cons q r ih =>
      intro h
      cases ks with
      | nil => unfold chkKs at h; cases h
      | cons c cs =>
        cases q with
        | none => unfold chkKs at h; cases h
        | some e =>
          have h' : (constB (.str (keyE c)) e && chkKs cs r) = true := h
          rw [Bool.and_eq_true] at h'
          simp only [List.all_cons, Option.isSome_some, Bool.true_and]
          exact ih h'.2
  refine PE.imp (pe_disp (pps_of h1 hs hl) (hall h1) hl h0 h15) fun σ H Q ⟨S, env, F, K, st, w, pk⟩ p hp => ?_
  have w' : wpEs P.inn vs env fun rs env1 => retains P.refs env1 rs fun ds env2 => K (.t (.dic ((keysE (.cons k0 kr)).map D.str) ds)) env2 := w
  have hlen : (keysE (.cons k0 kr)).length = lenEs vs := by rw [keysE_len h1, lenEs_of (ts := []) (hs N rfl), hl]
  refine pairs_go (N := N) (N' := N.dk p) rfl hlen (st.dkIn hp) w' fun rs env1 vs1 S1 H1 F1 k e1 st1 rel hvl => ?_
  rw [g.refs] at k
  obtain ⟨ds, env2, S2, F2, k2, e2, st2, rep⟩ := retains_ok (N := N.dk p) st1 rel k
  obtain ⟨q1, q2, q3, q4⟩ := st.dkOut hp st2
  have hkv : ∀ (l : List (List Nat)) (xs : List V), xs.length = l.length → (l.map fun k => V.str ⟨k.toArray⟩).zip xs = (l.zip xs).map fun kv => (kV (.inr ⟨kv.1.toArray⟩ : Key), kv.2) := by
    intro l
    induction l with
    | nil => intro xs _; rfl
    | cons a l ih =>
      intro xs hx
      cases xs with
      | nil => cases hx
      | cons x xs =>
        simp only [List.map_cons, List.zip_cons_cons]
        rw [ih xs (by simpa using hx)]
        rfl
  refine ⟨q1, ((keysE (.cons k0 kr)).zip vs1).map fun kv => ((.inr ⟨kv.1.toArray⟩ : Key), kv.2), ?_, ?_, ?_⟩
  · rw [hkv _ _ hvl, List.map_map]
    rfl
  · rw [List.length_map, List.length_zip, keysE_len h1]
    omega
  · have m1 : (((keysE (.cons k0 kr)).zip vs1).map fun kv => ((.inr ⟨kv.1.toArray⟩ : Key), kv.2)).map (·.1) = (keysE (.cons k0 kr)).map fun k => (.inr ⟨k.toArray⟩ : Key) := by
      rw [List.map_map]
      have : ((keysE (.cons k0 kr)).zip vs1).map (fun kv => kv.1) = keysE (.cons k0 kr) := List.map_fst_zip (by omega)
      conv => rhs; rw [← this, List.map_map]
      rfl
    have m2 : (((keysE (.cons k0 kr)).zip vs1).map fun kv => ((.inr ⟨kv.1.toArray⟩ : Key), kv.2)).map (·.2) = vs1 := by
      rw [List.map_map]
      exact List.map_snd_zip (by omega)
    have hnd : ((keysE (.cons k0 kr)).map fun k => (.inr ⟨k.toArray⟩ : Key)).Nodup := by
      refine List.Pairwise.map _ (fun a b hab z => hab ?_) hn
      injection z with z
      have z2 := congrArg (fun s : Str => s.cps.toList) z
      simpa using z2
    rw [mergeK_nodup _ [] (by simpa [m1] using hnd), List.nil_append]
    refine pk _ env2 _ S2 _ F2 [p] k2 (e1.trans e2) (q4 _) ⟨p, rfl, ⟨rfl, _, upd_same, ?_, ?_⟩, fun b hb => ?_⟩
    · have m3 := congrArg (List.map kD) m1
      have m4 : ((keysE (.cons k0 kr)).map fun k => (.inr ⟨k.toArray⟩ : Key)).map kD = (keysE (.cons k0 kr)).map D.str := by
        rw [List.map_map]
        refine List.map_congr_left fun k _ => ?_
        simp [kD, tl]
      rw [m4, List.map_map] at m3
      exact m3.symm
    · rw [m2]; exact rep
    · have e : b = p := by simpa using hb
      subst e
      exact ⟨q2, h0_none st hp, q3⟩
end
end Nf
/-! dicts whose keys are tuples of numbers, texts, truths and None -/
namespace Nf
open PySem PySem.Spec L2
def xAt (r : XR) (k : List Leaf) : Option V := (r.find? fun q => decide (q.1 = k)).map (·.2.2)
def xPut (r : XR) (k : List Leaf) (b : Addr) (v : V) : XR := match xAt r k with
  | some _ => r.map fun q => if q.1 = k then (q.1, q.2.1, v) else q
  | none => r ++ [(k, b, v)]
theorem xAt_pos {p : List Leaf × Addr × V} {r : XR} {k : List Leaf} (e : p.1 = k) : xAt (p :: r) k = some p.2.2 := by simp [xAt, List.find?_cons, e]
theorem xAt_neg {p : List Leaf × Addr × V} {r : XR} {k : List Leaf} (e : ¬ p.1 = k) : xAt (p :: r) k = xAt r k := by simp [xAt, List.find?_cons, e]
theorem dtAt_pos {p : List Leaf × D} {r : List (List Leaf × D)} {k : List Leaf} (e : p.1 = k) : dtAt (p :: r) k = some p.2 := by simp [dtAt, List.find?_cons, e]
theorem dtAt_neg {p : List Leaf × D} {r : List (List Leaf × D)} {k : List Leaf} (e : ¬ p.1 = k) : dtAt (p :: r) k = dtAt r k := by simp [dtAt, List.find?_cons, e]
theorem kx_val {r : XR} {xs : List (List Leaf × Addr × Value)} (h : KX r xs) (k : List Leaf) : RelO (xAt r k) ((atKey xs k).map (·.2)) := by
  induction h with
  | nil => exact True.intro
  | @cons p q ps qs h t ih =>
    obtain ⟨h1, _, h2⟩ := h
    by_cases e : p.1 = k
    · have e' : q.1 = k := h1.symm.trans e
      have b : atKey (q :: qs) k = some q.2 := by simp [atKey, List.find?_cons, e']
      rw [xAt_pos e, b]; exact h2
    · have e' : ¬ q.1 = k := fun z => e (h1.trans z)
      have b : atKey (q :: qs) k = atKey qs k := by simp [atKey, List.find?_cons, e']
      rw [xAt_neg e, b]; exact ih
theorem kx_repl {r : XR} {xs : List (List Leaf × Addr × Value)} (h : KX r xs) (k : List Leaf) {y : V} {u : Value} (ry : RelV y u) :
    KX (r.map fun q => if q.1 = k then (q.1, q.2.1, y) else q) (xs.map (putAt k u)) := by
  induction h with
  | nil => exact .nil
  | @cons p q ps qs h t ih =>
    rw [List.map_cons, List.map_cons]
    refine .cons ?_ ih
    obtain ⟨h1, h2, h3⟩ := h
    unfold putAt
    by_cases e : p.1 = k
    · rw [if_pos e, if_pos (h1.symm.trans e)]; exact ⟨h1, h2, ry⟩
    · rw [if_neg e, if_neg (fun z => e (h1.trans z))]; exact ⟨h1, h2, h3⟩
theorem kx_put {r : XR} {xs : List (List Leaf × Addr × Value)} (h : KX r xs) (k : List Leaf) {b : Addr} {y : V} {u : Value} (ry : RelV y u) : KX (xPut r k b y) (storedH xs k b u) := by
  have e := (kx_val h k).isSome_eq
  rw [Option.isSome_map] at e
  unfold xPut storedH
  rw [← e]
  cases q : xAt r k with
  | some v =>
    show KX (r.map _) (if true = true then _ else _)
    rw [if_pos rfl]; exact kx_repl h k ry
  | none =>
    show KX (r ++ [(k, b, y)]) (if false = true then _ else _)
    rw [if_neg (by simp)]; exact Paired.snoc h ⟨rfl, rfl, ry⟩
theorem xPut_len (r : XR) (k : List Leaf) (b : Addr) (v : V) : (xPut r k b v).length ≤ r.length + 1 := by
  unfold xPut
  split
  · rw [List.length_map]; omega
  · rw [List.length_append]; simp
section
variable {B : Base} {S : Hp}
theorem xr_at {es : List (List Leaf × D)} {r : XR} (h : XRel B S es r) (k : List Leaf) : (∀ d, dtAt es k = some d → ∃ v, xAt r k = some v ∧ Rep B.K S d v) ∧ (dtAt es k = none → xAt r k = none) := by
  induction h with
  | nil => exact ⟨fun d z => (by cases z), fun _ => rfl⟩
  | @cons p q ps qs h t ih =>
    obtain ⟨h1, _, h2⟩ := h
    by_cases e : p.1 = k
    · rw [dtAt_pos e, xAt_pos (h1.trans e)]
      exact ⟨fun d z => by cases z; exact ⟨_, rfl, h2⟩, fun z => by cases z⟩
    · rw [dtAt_neg e, xAt_neg (fun z => e (h1.symm.trans z))]
      exact ih
theorem xr_some {es : List (List Leaf × D)} {r : XR} (h : XRel B S es r) (k : List Leaf) : (xAt r k).isSome = (dtAt es k).isSome := by
  obtain ⟨h1, h2⟩ := xr_at h k
  cases e : dtAt es k with
  | none => rw [h2 e]; rfl
  | some d => obtain ⟨v, h3, _⟩ := h1 d e; rw [h3]; rfl
theorem xr_len {es : List (List Leaf × D)} {r : XR} (h : XRel B S es r) : r.length = es.length := (Paired.length h).symm
theorem xr_put {es : List (List Leaf × D)} {r : XR} (h : XRel B S es r) (k : List Leaf) {b : Addr} {d : D} {v : V} (hb : ∃ xs, SqT B.K S b xs ∧ xs.map lfV = k.map some) (hd : Rep B.K S d v) : XRel B S (dtPut es k d) (xPut r k b v) := by
  obtain ⟨h1, h2⟩ := xr_at h k
  unfold dtPut xPut
  cases e : dtAt es k with
  | none =>
    rw [h2 e]
    exact Paired.snoc h ⟨rfl, hb, hd⟩
  | some d0 =>
    obtain ⟨v0, h3, _⟩ := h1 d0 e
    rw [h3]
    show XRel B S (es.map _) (r.map _)
    clear h1 h2 h3 e
    induction h with
    | nil => exact .nil
    | @cons p q ps qs h t ih =>
      rw [List.map_cons, List.map_cons]
      refine .cons ?_ ih
      obtain ⟨g1, g2, g3⟩ := h
      by_cases e : p.1 = k
      · rw [if_pos e, if_pos (g1.trans e)]; exact ⟨g1, g2, hd⟩
      · rw [if_neg e, if_neg (fun z => e (g1.symm.trans z))]; exact ⟨g1, g2, g3⟩
end
/-! the dict in the heap -/
def Keyed (K : PySem.W.Frag) (H : Hp) (r : XR) : Prop := ∀ q ∈ r, ∃ xs, SqT K H q.2.1 xs ∧ xs.map lfV = q.1.map some
theorem XRel.keyed {B : Base} {S H : Hp} {es : List (List Leaf × D)} {r : XR} (h : XRel B S es r) (e : Same S H) : Keyed B.K H r := by
  induction h with
  | nil => exact fun q hq => nomatch hq
  | @cons p q ps qs h t ih =>
    intro x hx
    rcases List.mem_cons.mp hx with rfl | hx
    · obtain ⟨_, ⟨xs, h1, h2⟩, _⟩ := h
      exact ⟨xs, sqT_mono e h1, h2⟩
    · exact ih x hx
theorem xo_stab {P : Program} {w : World} {a : Addr} {r : XR} (h1 h2 : Heap) (x : XOk P w a r h1) (k : ∀ o, h1.get? a = some o → h2.get? a = some o) : XOk P w a r h2 := by
  obtain ⟨z, y, xs, rel, o, es, ep, g1, g2⟩ := x
  exact ⟨z, y, xs, rel, o, es, ep, k _ g1, g2⟩
theorem lf_is {P : Program} {w : World} {v : V} {x : Leaf} {u : Value} (r : RelV v u) (h : lfV v = some x) : (leafKind P w).is x u = true := by
  cases v with
  | non => cases h; cases (show u = Value.none from r); rfl
  | bl b => cases h; cases (show u = Value.bool b from r); exact decide_eq_true rfl
  | int i => cases h; obtain ⟨t, rfl⟩ := (show ∃ t, u = Value.int i t from r); exact decide_eq_true rfl
  | str s => cases h; obtain ⟨t, rfl⟩ := (show ∃ t, u = Value.str s t from r); exact mixKind_str P w s t
  | _ => cases h
theorem lfs_are {P : Program} {w : World} : ∀ {xs : List V} {us : List Value} {k : List Leaf}, Vals xs us → xs.map lfV = k.map some → ItemsAre (leafKind P w) k us
  | _, _, k, .nil, h => by
    cases k with
    | nil => exact .nil
    | cons _ _ => cases h
  | _, _, k, .cons r t, h => by
    cases k with
    | nil => cases h
    | cons x k =>
      rw [List.map_cons, List.map_cons] at h
      injection h with h1 h2
      exact .cons (lf_is r h1) (lfs_are t h2)
section
variable {X : Cx} {pins : List (Addr × Obj)} {σ : Sg} {H : Hp} {s : Shared} {a b : Addr} {r : XR} {k : List Leaf} {v : V} {u : Value} {A : Around} {E : Value → Shared → Prop}
def XAt (X : Cx) (H : Hp) (a b : Addr) (r : XR) (k : List Leaf) : Prop := H a = some (XO X.prog X.w a r) ∧ Keyed X.K H r ∧ ∃ xs, SqT X.K H b xs ∧ xs.map lfV = k.map some
theorem key_x (I : Inv X pins σ H s) {xs : List V} (h : SqT X.K H b xs) (hk : xs.map lfV = k.map some) : (tupleKind (leafKind X.prog X.w)).is s.heap k b := by
  obtain ⟨its, rv, ⟨o, h1, h2, n, h3⟩, _⟩ := I.tuple h
  exact ⟨o, its.toArray, n, h1, h2, h3, by simpa using lfs_are rv hk⟩
theorem x_rd (I : Inv X pins σ H s) (e : H a = some (XO X.prog X.w a r)) (ky : Keyed X.K H r) : r.length ≤ sizeLine ∧ (a == sysModules) = false ∧ ∃ xs, KX r xs ∧ s.heap.DictOfH (tupleKind (leafKind X.prog X.w)) a xs := by
  obtain ⟨⟨z, y, xs, rel, o, es, ep, h1, h2, h3, h4, h5⟩, _, _⟩ := (show ObjOk X.prog X.w H s.heap a (XO X.prog X.w a r) from I.hok a _ e)
  refine ⟨z, y, xs, rel, o, es, ep, h1, h2, h3, h4, fun x hx => ?_, h5⟩
  have all : ∀ {l : XR} {m : List (List Leaf × Addr × Value)}, KX l m → Keyed X.K H l → ∀ x ∈ m, (tupleKind (leafKind X.prog X.w)).is s.heap x.1 x.2.1 := by
    intro l m q
    induction q with
    | nil => intro _ x hx; exact nomatch hx
    | @cons p q ps qs hq t ih =>
      intro kk x hx
      rcases List.mem_cons.mp hx with e | hx
      · subst e
        obtain ⟨ys, g1, g2⟩ := kk p List.mem_cons_self
        rw [← hq.1, ← hq.2.1]
        exact key_x I g1 g2
      · exact ih (fun q hq => kk q (List.mem_cons_of_mem _ hq)) x hx
  exact all rel ky x hx
theorem x_getItem {Q : Value → Shared → Prop} (hu : A.units + 1 < cLine) (I : Inv X pins σ H s) (g : XAt X H a b r k) (hv : xAt r k = some v) (h : ∀ w' s', Inv X pins σ H s' → RelV v w' → Q w' s') :
    wpAny (model X.prog X.w) A (getItem (.ref a) (.ref b)) Q E s := by
  obtain ⟨e, ky, ys, g1, g2⟩ := g
  obtain ⟨z, hd, xs, rel, dd⟩ := x_rd I e ky
  obtain ⟨w', hw, rw'⟩ := RelO.some_of (v := v) (o := (atKey xs k).map (·.2)) (by rw [← hv]; exact kx_val rel k)
  obtain ⟨p, hp, hp2⟩ := Option.map_eq_some_iff.mp hw
  refine wpAny_getItem_heap (tupleKind_room_in1 hu) (key_x I g1 g2) dd hp ?_
  rw [hp2]
  exact h w' _ (I.tok _) rw'
theorem x_in {Q : Value → Shared → Prop} (hu : A.units + 1 < cLine) (I : Inv X pins σ H s) (g : XAt X H a b r k) (h : ∀ s', Inv X pins σ H s' → Q (.bool (xAt r k).isSome) s') :
    wpAny (model X.prog X.w) A (compareOp .In (.ref b) (.ref a)) Q E s := by
  obtain ⟨e, ky, ys, g1, g2⟩ := g
  obtain ⟨z, hd, xs, rel, dd⟩ := x_rd I e ky
  refine wpAny_in_heap (tupleKind_room_in1 hu) (key_x I g1 g2) hd dd ?_
  have q := (kx_val rel k).isSome_eq
  rw [Option.isSome_map] at q
  rw [← q]
  exact h _ (I.tok _)
theorem x_notIn {Q : Value → Shared → Prop} (hu : A.units + 1 < cLine) (I : Inv X pins σ H s) (g : XAt X H a b r k) (h : ∀ s', Inv X pins σ H s' → Q (.bool (!(xAt r k).isSome)) s') :
    wpAny (model X.prog X.w) A (compareOp .NotIn (.ref b) (.ref a)) Q E s := by
  obtain ⟨e, ky, ys, g1, g2⟩ := g
  obtain ⟨z, hd, xs, rel, dd⟩ := x_rd I e ky
  refine PyProof.Rows.wpAny_notIn_heap (tupleKind_room_in1 hu) (key_x I g1 g2) hd dd ?_
  have q := (kx_val rel k).isSome_eq
  rw [Option.isSome_map] at q
  rw [← q]
  exact h _ (I.tok _)
theorem xo_new {P : Program} {w : World} {H' : Hp} {h' : Heap} {xs : List (List Leaf × Addr × Value)} (z : r.length ≤ sizeLine) (hd : (a == sysModules) = false) (rel : KX r xs) (dd : h'.DictOfH (tupleKind (leafKind P w)) a xs) : ObjOk P w H' h' a (XO P w a r) := by
  obtain ⟨o, es, ep, h1, h2, h3, h4, _, h5⟩ := dd
  exact ⟨⟨z, hd, xs, rel, o, es, ep, h1, h2, h3, h4, h5⟩, ⟨o, h1⟩, xo_stab⟩
theorem x_setItem {Q : Unit → Shared → Prop} {u : Value} (hu : A.units + 1 < cLine) (I : Inv X pins σ H s) (g : XAt X H a b r k) (hl : r.length < sizeLine) (rv : RelV v u) (h : ∀ s', Inv X pins σ (upd H a (XO X.prog X.w a (xPut r k b v))) s' → Q () s') :
    wpAny (model X.prog X.w) A (setItem (.ref a) (.ref b) u) Q E s := by
  obtain ⟨e, ky, ys, g1, g2⟩ := g
  obtain ⟨z, hd, xs, rel, dd⟩ := x_rd I e ky
  have hz : xs.length ≤ sizeLine := by rw [← Paired.length rel]; exact z
  refine wpAny_setItem_heap (hsz := hz) (tupleKind_room_in1 hu) (key_x I g1 g2) dd fun h' dd' hs => h _ ?_
  refine d_write I (by rw [e]; exact True.intro) hs ?_ (xo_new (by have := xPut_len r k b v; omega) hd (kx_put rel k rv) dd')
  obtain ⟨q, _, _, hq, _⟩ := dd'
  exact ⟨q, hq⟩
theorem x_setdef {Q : Value → Shared → Prop} {u : Value} (hu : A.units + 1 < cLine) (I : Inv X pins σ H s) (g : XAt X H a b r k) (hl : r.length < sizeLine) (rv : RelV v u)
    (h1 : ∀ v', xAt r k = some v' → ∀ w' s', Inv X pins σ H s' → RelV v' w' → Q w' s') (h2 : xAt r k = none → ∀ s', Inv X pins σ (upd H a (XO X.prog X.w a (xPut r k b v))) s' → Q u s') :
    wpAny (model X.prog X.w) A (call (.builtin "dict.setdefault") [.ref a, .ref b, u]) Q E s := by
  obtain ⟨e, ky, ys, g1, g2⟩ := g
  obtain ⟨z, hd, xs, rel, dd⟩ := x_rd I e ky
  have hz : xs.length ≤ sizeLine := by rw [← Paired.length rel]; exact z
  have val := kx_val rel k
  refine call_setdefault_heap (hsz := hz) (tupleKind_room_in1 hu) (key_x I g1 g2) hd dd (fun p hp => ?_) fun hn h' dd' hs => ?_
  · rw [hp] at val
    cases q : xAt r k with
    | none => rw [q] at val; exact (show False from val).elim
    | some v' => rw [q] at val; exact h1 v' q _ _ (I.tok _) val
  · have q : xAt r k = none := by
      rw [hn] at val
      cases q : xAt r k with
      | none => rfl
      | some v' => rw [q] at val; exact (show False from val).elim
    refine h2 q _ (d_write I (by rw [e]; exact True.intro) hs ?_ (xo_new (by have := xPut_len r k b v; omega) hd (kx_put rel k rv) dd'))
    obtain ⟨q, _, _, hq, _⟩ := dd'
    exact ⟨q, hq⟩
theorem x_typeIs (I : Inv X pins σ H s) (e : H a = some (XO X.prog X.w a r)) (ky : Keyed X.K H r) : s.TypeIs (.ref a) "dict" := by
  obtain ⟨_, _, xs, _, dd⟩ := x_rd I e ky
  exact dd.typeIs
end
/-! the rules -/
def tXGet (X : Cx) (td ty : TE) : TE := fun σ H Q => td σ H fun x H1 => ty σ H1 fun y H2 => ∃ a b r k v, x = .ref a ∧ y = .ref b ∧ XAt X H2 a b r k ∧ xAt r k = some v ∧ Q v H2
def tXIn (X : Cx) (neg : Bool) (ty td : TE) : TE := fun σ H Q => ty σ H fun y H1 => td σ H1 fun x H2 => ∃ a b r k, x = .ref a ∧ y = .ref b ∧ XAt X H2 a b r k ∧ Q (.bl (match neg with | false => (xAt r k).isSome | true => !(xAt r k).isSome)) H2
def sXPut (X : Cx) (td ty tv : TE) : TS := fun D σ H => tv σ H fun v H1 => td σ H1 fun x H2 => ty σ H2 fun y H3 => ∃ a b r k, x = .ref a ∧ y = .ref b ∧ XAt X H3 a b r k ∧ r.length < sizeLine ∧ D.nx σ (upd H3 a (XO X.prog X.w a (xPut r k b v)))
def tXSetd (X : Cx) (td ty tv : TE) : TE := fun σ H Q => td σ H fun x H1 => ∃ a r0, x = .ref a ∧ H1 a = some (XO X.prog X.w a r0) ∧ Keyed X.K H1 r0 ∧ ty σ H1 fun y H2 => tv σ H2 fun v H3 => ∃ b r k, y = .ref b ∧ XAt X H3 a b r k ∧ r.length < sizeLine ∧
  (∀ v', xAt r k = some v' → Q v' H3) ∧ (xAt r k = none → Q v (upd H3 a (XO X.prog X.w a (xPut r k b v))))
def tXNew (X : Cx) : TE := fun _ H Q => ∀ p, H p = none → Q (.ref p) (upd H p (XO X.prog X.w p []))
section
variable {X : Cx} {o i e f value : Expr} {pos pos' apos cpos : Pos} {td ty tv : TE}
theorem pe_xget (hu : X.A.units + 1 < cLine) (ho : PE X o td) (hi : PE X i ty) (hs : NoSl i) : PE X (.Subscript o i pos) (tXGet X td ty) := by
  refine ⟨fun pins s σ H Q I h => ?_⟩
  refine subD_of PySem.F.slot_dict_getitem.lookup hs (thn (ho.run pins s σ H _ I h) fun u s1 ⟨x, H1, I1, rx, q1⟩ => thn (hi.run pins s1 σ H1 _ I1 q1) fun iv s2 ⟨y, H2, I2, ry, a, b, r, k, v, ex, ey, g, hv, q2⟩ => ?_)
  subst ex ey
  obtain rfl : u = Value.ref a := rx
  obtain rfl : iv = Value.ref b := ry
  exact ⟨x_typeIs I2 g.1 g.2.1, x_getItem hu I2 g hv fun w' s3 I3 rw' => ⟨v, H2, I3, rw', q2⟩⟩
theorem pc_xin {neg : Bool} (hu : X.A.units + 1 < cLine) (hi : PE X i ty) (ho : PE X o td) : PC X (if neg = true then .NotIn else .In) i o (tXIn X neg ty td) := by
  refine ⟨fun pins s σ H Q I h => ?_⟩
  refine thn (hi.run pins s σ H _ I h) fun iv s1 ⟨y, H1, I1, ry, q1⟩ => thn (ho.run pins s1 σ H1 _ I1 q1) fun u s2 ⟨x, H2, I2, rx, a, b, r, k, ex, ey, g, q2⟩ => ?_
  subst ex ey
  obtain rfl : u = Value.ref a := rx
  obtain rfl : iv = Value.ref b := ry
  cases neg with
  | false => exact x_in hu I2 g fun s3 I3 => ⟨.bl _, H2, I3, rfl, q2⟩
  | true => exact x_notIn hu I2 g fun s3 I3 => ⟨.bl _, H2, I3, rfl, q2⟩
theorem ps_xput (hu : X.A.units + 1 < cLine) (ho : PE X o td) (hi : PE X i ty) (hv : PE X value tv) (hs : swapsWith value (some (.Subscript o i pos')) pos.line X.env = pure false) :
    PS X (.Assign [.Subscript o i pos'] value pos) (sXPut X td ty tv) := by
  refine ⟨fun pins s σ H D I h => ?_⟩
  refine wpAny_Assign_Subscript (thn (hv.run pins s σ H _ I h) fun rr s1 ⟨v, H1, I1, rv, q1⟩ => thn (ho.run pins s1 σ H1 _ I1 q1) fun u s2 ⟨x, H2, I2, rx, q2⟩ => thn (hi.run pins s2 σ H2 _ I2 q2) fun iv s3 ⟨y, H3, I3, ry, a, b, r, k, ex, ey, g, hl, q3⟩ => ?_) hs
  subst ex ey
  obtain rfl : u = Value.ref a := rx
  obtain rfl : iv = Value.ref b := ry
  exact x_setItem hu I3 g hl rv fun s4 I4 => ⟨σ, _, I4, q3⟩
theorem pe_xsetd (hu : X.A.units + 1 < cLine) (ho : PE X o td) (he : PE X e ty) (hf : PE X f tv) (m : M2 X o "setdefault" apos e f cpos) : PE X (.Call (.Attribute o "setdefault" apos) [e, f] [] cpos) (tXSetd X td ty tv) := by
  refine ⟨fun pins s σ H Q I h => ?_⟩
  refine wpAny_Call_method m.base m.few m.line PySem.F.plainAttrs_dict PySem.F.slot_dict_setdefault PySem.F.type_dict_setdefault (thn (ho.run pins s σ H _ I h) fun u s1 ⟨x, H1, I1, rx, a, r0, ex, e0, ky, q1⟩ => ?_)
  subst ex
  obtain rfl : u = Value.ref a := rx
  have hx := x_rd I1 e0 ky
  obtain ⟨_, hd, xs, _, dd⟩ := hx
  refine ⟨dd.typeIs, fun c q => ?_, ?_⟩
  · cases q
    obtain ⟨ob, _, _, h1, h2, _⟩ := dd
    exact ⟨ob, h1, h2.2.1⟩
  rw [m.trees]
  refine Calls.callWith_builtin rfl (Calls.evalArgs_plain (Calls.spliced_cons (thn (he.run pins s1 σ H1 _ I1 q1) fun iv s2 ⟨y, H2, I2, ry, q2⟩ =>
    Calls.spliced_cons (thn (hf.run pins s2 σ H2 _ I2 q2) fun fv s3 ⟨v, H3, I3, rz, b, r, k, ey, g, hl, q3, q4⟩ => Calls.spliced_nil ?_))))
  subst ey
  obtain rfl : iv = Value.ref b := ry
  exact x_setdef hu I3 g hl rz (fun v' e1 w' s4 I4 rw' => ⟨v', H3, I4, rw', q3 v' e1⟩) fun e1 s4 I4 => ⟨v, _, I4, rz, q4 e1⟩
theorem pe_xnew : PE X (.Dict [] [] pos) (tXNew X) := ⟨fun pins s σ H Q I h =>
  wpAny_Dict_empty ⟨.ref s.heap.objs.size, _, I.laid (a := s.heap.objs.size) (o := XO X.prog X.w s.heap.objs.size []) (t' := s.toks) (fun _ _ q => Heap.get?_push_of_some _ q) (Nat.le_refl _)
    ⟨⟨Nat.zero_le _, beq_eq_false_iff_ne.mpr (Ne.symm (Nat.ne_of_lt I.big)), [], .nil, _, #[], 0, Heap.get?_push_size _ rfl, ⟨rfl, rfl, rfl⟩, rfl, rfl, List.nodup_nil⟩, ⟨_, Heap.get?_push_size _ rfl⟩, xo_stab⟩, rfl, h _ (I.hok.fresh (Nat.le_refl _))⟩⟩
/-- {k: v}, k a tuple -/
def tXDisp (X : Cx) (trs : List (TE × TE)) : TE := fun σ H Q => ∀ p, H p = none → tPairs trs σ (upd H p (.dK [])) fun ps H2 => H2 p = some (.dK []) ∧ ∃ b k v xs, ps = [(.ref b, v)] ∧ SqT X.K H2 b xs ∧ xs.map lfV = k.map some ∧ Q (.ref p) (upd H2 p (XO X.prog X.w p [(k, b, v)]))
theorem pe_xdisp {keys : List (Option Expr)} {values : List Expr} {trs : List (TE × TE)} (hu : X.A.units + 1 < cLine) (h : PPs X pos keys values trs) (hall : keys.all (·.isSome) = true) (hl : keys.length = values.length) (h0 : keys ≠ [])
    (h15 : keys.length ≤ 15) : PE X (.Dict keys values pos) (tXDisp X trs) := by
  refine ⟨fun pins s σ H Q I q => ?_⟩
  have hn := I.hok.fresh (Nat.le_refl s.heap.objs.size)
  have I1 := I.laid (a := s.heap.objs.size) (o := .dK []) (h' := s.heap.push { cls := .type "dict", data := .dict #[] }) (t' := s.toks) (fun _ _ q => Heap.get?_push_of_some _ q) (Nat.le_refl _) (dk_empty s.heap I.big)
  have hpl := pairTrees_length keys values X.env pos hall hl
  rw [arm_eval_Dict, zip_pairTrees keys values X.env pos hall hl, dictDisplay_pairs (pairTrees keys values X.env pos) (fun he => by rw [he] at hpl; exact h0 (List.length_eq_zero_iff.mp hpl.symm)) (by omega)]
  refine wpAny_bind (wpAny_standAt (wpAny_bind (wpAny_subDictH (knd := tupleKind (leafKind X.prog X.w)) (Q := fun d s' => wpAny (model X.prog X.w) X.A (pure (Value.ref d)) _ _ s') (by show X.A.units < cLine; omega) (by omega)
    (thn (h.run pins _ σ _ _ I1 (q _ hn)) fun ws s2 ⟨ps, H2, I2, rel, e, b, k, v, xs, ep, g1, g2, q2⟩ => ?_))))
  subst ep
  cases rel with
  | @cons p1 p2 l1 l2 hp t =>
    cases t
    obtain ⟨r1, r2⟩ := hp
    obtain ⟨u1, u2⟩ := p2
    obtain rfl : u1 = Value.ref b := r1
    obtain ⟨z, hd, vs0, r0, dd⟩ := dk_of I2.hok e
    cases r0
    have dd0 : s2.heap.DictOfH (tupleKind (leafKind X.prog X.w)) s.heap.objs.size [] := by
      obtain ⟨o, es, ep, d1, d2, d3, d4, d5, d6⟩ := dd
      exact ⟨o, es, ep, d1, d2, d3, List.length_eq_zero_iff.mp d5.length, fun x hx => (nomatch hx), List.nodup_nil⟩
    refine ⟨[(k, b, u2)], ⟨rfl, rfl, key_x I2 g1 g2, trivial⟩, dd0, fun h' tk dd' hs => wpAny_pure ⟨.ref s.heap.objs.size, _, ?_, rfl, q2⟩⟩
    refine d_write I2 (by rw [e]; exact True.intro) hs ?_ (xo_new (xs := [(k, b, u2)]) (by rw [sizeLine_eq]; simp) hd (.cons ⟨rfl, rfl, r2⟩ .nil) dd')
    obtain ⟨q, _, _, hq, _⟩ := dd'
    exact ⟨q, hq⟩
end
end Nf
/-! soundness: dicts with tuples as keys -/
namespace Nf
open PySem PySem.Spec L2
section
variable {B : Base} {cf : Cf} {P : Prm} {N : Ent} {X : Cx}
theorem dt_open {σ : Sg} {env : Ev} {S H : Hp} {F : Nat → List Addr} {i j : Nat} {es : List (List Leaf × D)} {ds : List D} {k : List Leaf} (g : GC B cf P N X) (st : StOk B N σ env S H F) (h1 : env[i]? = some (.ow (.dtp es))) (h2 : env[j]? = some (.sh (.tup ds))) (h3 : leafs ds = some k) :
    ∃ a b r, σ[i]? = some (some (.ref a)) ∧ σ[j]? = some (some (.ref b)) ∧ XAt X H a b r k ∧ XRel B S es r ∧ F i = [a] ∧ ∃ xs, SqT B.K S b xs ∧ xs.map lfV = k.map some := by
  obtain ⟨a, e1, e2, r, e3, e4⟩ := st.own i _ h1
  obtain ⟨v, f1, f2⟩ := st.val j _ h2
  unfold Rep at f2
  obtain ⟨b, xs, rfl, f3, f4⟩ := f2
  have lf := lfs_rep f4 h3
  rw [g.bpw.1, g.bpw.2] at e3
  refine ⟨a, b, r, e1, f1, ⟨e3, ?_, xs, ?_, lf⟩, e4, e2, xs, f3, lf⟩
  · rw [g.g.hK]; exact e4.keyed st.sub
  · rw [g.g.hK]; exact sqT_mono st.sub f3
theorem se_dtn {pos : Pos} (g : GC B cf P N X) : PE X (.Dict [] [] pos) (LE B N (wpE P .dtn)) :=
  PE.imp pe_xnew fun σ H Q ⟨S, env, F, K, st, w, pk⟩ p hp => by
    have w' : K (.t (.dtp [])) env := w
    refine pk _ env _ S _ F [p] w' (Same.refl _) (st.laidH hp) ⟨p, rfl, ⟨rfl, [], by rw [g.bpw.1, g.bpw.2]; exact upd_same, .nil⟩, fun b hb => ?_⟩
    have e : b = p := by simpa using hb
    subst e
    exact ⟨sub_none st hp, h0_none st hp, fun i => st.notF hp i⟩
theorem no_sl {x : Str} {p : Pos} : NoSl (.Name x p) := fun _ _ => rfl
theorem se_dtg {i j : Nat} {x y : Str} {p q pos : Pos} (g : GC B cf P N X) (hi : slotB cf i x = true) (hj : slotB cf j y = true) : PE X (.Subscript (.Name x p) (.Name y q) pos) (LE B N (wpE P (.dtg i j))) := by
  obtain ⟨a1, a2, a3, a4⟩ := vis_of g hi
  obtain ⟨b1, b2, b3, b4⟩ := vis_of g hj
  have hu := g.g.unit
  refine PE.imp (pe_xget (by omega) (pe_var a1 a2 a3 a4) (pe_var b1 b2 b3 b4) no_sl) fun σ H Q ⟨S, env, F, K, st, w, pk⟩ => ?_
  have w' : dtK env i j fun es k => optW (dtAt es k) fun d => K (.v d) env := w
  obtain ⟨es, ds, k, h1, h2, h3, w2⟩ := dtK_get w'
  obtain ⟨d, hd, w3⟩ := optW_get w2
  obtain ⟨a, b, r, e1, e2, xa, xr, _, _⟩ := dt_open g st h1 h2 h3
  obtain ⟨v, g1, g2⟩ := (xr_at xr k).1 d hd
  exact ⟨_, e1, _, e2, a, b, r, k, v, rfl, rfl, xa, g1, pk.giveV st w3 g2⟩
theorem lt_dtin {neg : Bool} {i j : Nat} {x y : Str} {p q pos : Pos} (g : GC B cf P N X) (hi : slotB cf i x = true) (hj : slotB cf j y = true) :
    PT X (.Compare (.Name y q) [if neg = true then .NotIn else .In] [.Name x p] pos) (LT B N (wpT P (.dtin neg j i))) := by
  obtain ⟨a1, a2, a3, a4⟩ := vis_of g hi
  obtain ⟨b1, b2, b3, b4⟩ := vis_of g hj
  have hu := g.g.unit
  refine ⟨fun pins s σ H Q I hw => ?_⟩
  refine (pt_cmp (pc_xin (neg := neg) (by omega) (pe_var b1 b2 b3 b4) (pe_var a1 a2 a3 a4)) (by cases neg <;> exact noMark rfl)).run pins s σ H Q I ?_
  obtain ⟨S, env, F, K, st, w, pk⟩ := hw
  cases neg with
  | false =>
    have w' : dtK env i j fun es k => K (dtAt es k).isSome env := w
    obtain ⟨es, ds, k, h1, h2, h3, w2⟩ := dtK_get w'
    obtain ⟨a, b, r, e1, e2, xa, xr, _, _⟩ := dt_open g st h1 h2 h3
    refine ⟨_, e2, _, e1, a, b, r, k, rfl, rfl, xa, _, rfl, ?_⟩
    show Q (xAt r k).isSome H
    rw [xr_some xr k]
    exact pk _ _ _ _ _ w2 (Same.refl _) st
  | true =>
    have w' : dtK env i j fun es k => K (!(dtAt es k).isSome) env := w
    obtain ⟨es, ds, k, h1, h2, h3, w2⟩ := dtK_get w'
    obtain ⟨a, b, r, e1, e2, xa, xr, _, _⟩ := dt_open g st h1 h2 h3
    refine ⟨_, e2, _, e1, a, b, r, k, rfl, rfl, xa, _, rfl, ?_⟩
    show Q (!(xAt r k).isSome) H
    rw [xr_some xr k]
    exact pk _ _ _ _ _ w2 (Same.refl _) st
theorem se_dts {i j k : Nat} {x y z : Str} {p q o ap cp : Pos} (g : GC B cf P N X) (hi : slotB cf i x = true) (hj : slotB cf j y = true) (hk : slotB cf k z = true) (hl : (ap.endLine == cp.line) = true) :
    PE X (.Call (.Attribute (.Name x p) "setdefault" ap) [.Name y q, .Name z o] [] cp) (LE B N (wpE P (.dts i j k))) := by
  obtain ⟨a1, a2, a3, a4⟩ := vis_of g hi
  obtain ⟨b1, b2, b3, b4⟩ := vis_of g hj
  obtain ⟨c1, c2, c3, c4⟩ := vis_of g hk
  have hu := g.g.unit
  refine PE.imp (pe_xsetd (by omega) (pe_var a1 a2 a3 a4) (pe_var b1 b2 b3 b4) (pe_var c1 c2 c3 c4) (m2_of rfl rfl hl)) fun σ H Q ⟨S, env, F, K, st, w, pk⟩ => ?_
  have w' : dtK env i j fun es q => match env[k]? with
    | some (.sh d) => es.length < sizeLine ∧ match dtAt es q with
      | some d' => K (.v d') env
      | none => K (.v d) (env.set i (.ow (.dtp (es ++ [(q, d)]))))
    | _ => False := w
  obtain ⟨es, ds, kk, h1, h2, h3, w2⟩ := dtK_get w'
  obtain ⟨a, b, r, e1, e2, xa, xr, hF, xs, f1, f2⟩ := dt_open g st h1 h2 h3
  split at w2
  · rename_i d hd
    obtain ⟨w3, w4⟩ := w2
    obtain ⟨v, g1, g2⟩ := st.val k d hd
    refine ⟨_, e1, a, r, rfl, xa.1, xa.2.1, _, e2, v, g1, b, r, kk, rfl, xa, by rw [xr_len xr]; exact w3, fun v' hv' => ?_, fun hn => ?_⟩
    · cases q : dtAt es kk with
      | none => rw [(xr_at xr kk).2 q] at hv'; cases hv'
      | some d' =>
        rw [q] at w4
        obtain ⟨v2, q1, q2⟩ := (xr_at xr kk).1 d' q
        rw [hv'] at q1; cases q1
        exact pk.giveV st w4 q2
    · have q : dtAt es kk = none := by
        cases q : dtAt es kk with
        | none => rfl
        | some d' => obtain ⟨v2, q1, q2⟩ := (xr_at xr kk).1 d' q; rw [hn] at q1; cases q1
      rw [q] at w4
      have hput : XRel B S (dtPut es kk d) (xPut r kk b v) := xr_put xr kk ⟨xs, f1, f2⟩ g2
      have ed : dtPut es kk d = es ++ [(kk, d)] := by unfold dtPut; rw [q]
      rw [ed] at hput
      refine pk (.v d) _ v S _ F [] w4 (Same.refl _) (st.put h1 e1 ⟨hF, xPut r kk b v, ?_, hput⟩) ⟨g2, rfl⟩
      rw [g.bpw.1, g.bpw.2]
      exact upd_same
  · exact w2.elim
theorem constB_int {i : Int} {e : Expr} (h : constB (.int i) e = true) : PE X e (tC (.int i)) := by
  unfold constB at h
  split at h
  · rename_i e1; cases e1
  · rename_i e1; cases e1
  · rename_i e1
    cases e1
    cases of_decide_eq_true h
    exact pe_int
  · rename_i e1; cases e1
  · cases h
theorem constB_bl {b : Bool} {e : Expr} (h : constB (.bl b) e = true) : PE X e (tC (.bl b)) := by
  unfold constB at h
  split at h
  · rename_i e1; cases e1
  · rename_i e1
    cases e1
    cases eq_of_beq h
    exact pe_bl
  · rename_i e1; cases e1
  · rename_i e1; cases e1
  · cases h
theorem se_dt1 {a : E} {c : D} {k v : Expr} {pos : Pos} (g : GC B cf P N X) (hk : ∀ N' : Ent, N'.refs = N.refs → PE X k (LE B N' (wpE P.inn a))) (hc : (match c with | .int _ => true | .bl _ => true | _ => false) = true) (hv : constB c v = true) :
    PE X (.Dict [some k] [v] pos) (LE B N (wpE P (.dt1 a c))) := by
  have hu := g.g.unit
  obtain ⟨cv, hcv, rcv⟩ : ∃ cv, PE X v (tC cv) ∧ ∀ S, Rep B.K S c cv := by
    cases c with
    | int i => exact ⟨.int i, constB_int hv, fun S => rfl⟩
    | bl b => exact ⟨.bl b, constB_bl hv, fun S => rfl⟩
    | _ => cases hc
  refine PE.imp (pe_xdisp (by omega) (pps_cons (peFam fun N' hr => PE.st (hk N' hr)) hcv pps_nil) rfl rfl (by simp) (by simp)) fun σ H Q ⟨S, env, F, K, st, w, pk⟩ p hp => ?_
  have w' : wpE P.inn a env fun r env1 => settle env1 r fun r env1 => peek env1 r fun d => match d with
    | .tup ds => optW (leafs ds) fun q => K (.t (.dtp [(q, c)])) env1
    | _ => False := w
  refine ⟨N.dk p, rfl, S, env, F, _, st.dkIn hp, w', fun r env1 y S1 H1 F1 kk e1 st1 rel => ?_⟩
  obtain ⟨d, kd, hvw⟩ := peek_view st1 rel kk
  obtain ⟨q1, q2, q3, q4⟩ := st.dkOut hp st1
  split at kd
  · rename_i ds
    obtain ⟨q, hq, kd⟩ := optW_get kd
    have rp : Rep B.K S1 (.tup ds) y := hvw
    unfold Rep at rp
    obtain ⟨b, xs, rfl, f3, f4⟩ := rp
    have lf := lfs_rep f4 hq
    refine ⟨q1, b, q, cv, xs, rfl, by rw [g.g.hK]; exact sqT_mono st1.sub f3, lf, ?_⟩
    refine pk _ env1 _ S1 _ F1 [p] kd e1 (q4 _) ⟨p, rfl, ⟨rfl, [(q, b, cv)], ?_, .cons ⟨rfl, ⟨xs, f3, lf⟩, rcv _⟩ .nil⟩, fun b' hb => ?_⟩
    · rw [g.bpw.1, g.bpw.2]; exact upd_same
    · have e : b' = p := by simpa using hb
      subst e
      exact ⟨q2, h0_none st hp, q3⟩
  · exact kd.elim
end
end Nf
/-! soundness of expressions -/
namespace Nf
open PySem PySem.Spec L2
section
variable {B : Base}
theorem PEs.nil {X : Cx} : PEs X [] [] := rfl
theorem PEs.cons {X : Cx} {e : Expr} {es : List Expr} {t : TE} {ts : List TE} (h : PE X e t) (h2 : PEs X es ts) : PEs X (e :: es) (t :: ts) := ⟨t, ts, rfl, h, h2⟩
theorem PTs.cons {X : Cx} {e : Expr} {es : List Expr} {t : TT} {ts : List TT} (h : PT X e t) (h2 : PTs X es ts) : PTs X (e :: es) (t :: ts) := ⟨t, ts, rfl, h, h2⟩
theorem ownP_snd {N : List Str} : ∀ {is : List Nat}, (ownP N is).map (·.2) = is
  | [] => rfl
  | i :: is => congrArg (i :: ·) (ownP_snd (is := is))
theorem memN_true : ∀ {i : Nat} {l : List Nat}, memN i l = true → i ∈ l
  | i, [], h => by cases h
  | i, j :: l, h => by
    unfold memN at h
    split at h
    · rename_i e; rw [Nat.eq_of_beq_eq_true e]; exact List.mem_cons_self
    · exact List.mem_cons_of_mem _ (memN_true h)
mutual
theorem soundE : ∀ (c : E) {e : Expr} {cf : Cf} {P : Prm} {N : Ent} {X : Cx}, GC B cf P N X → chkE cf c e = true → PE X e (LE B N (wpE P c))
  | .var i, e, cf, P, N, X, g, h => by
    simp only [chkE] at h
    split at h
    · exact se_var g h
    · cases h
  | .cst d, e, cf, P, N, X, g, h => by
    simp only [chkE] at h
    exact se_cst h
  | .gl x, e, cf, P, N, X, g, h => by
    simp only [chkE] at h
    split at h
    · simp only [Bool.and_eq_true, decide_eq_true_eq, Bool.not_eq_true'] at h
      obtain ⟨⟨rfl, h1⟩, h2⟩ := h
      exact se_gl g h1 h2
    · cases h
  | .kget x a, e, cf, P, N, X, g, h => by
    simp only [chkE] at h
    split at h
    · simp only [Bool.and_eq_true, decide_eq_true_eq, Bool.not_eq_true'] at h
      obtain ⟨⟨⟨⟨rfl, h1⟩, h2⟩, h3⟩, h4⟩ := h
      exact se_kget g h1 h2 (plainIx h3) (soundE a g h4)
    · cases h
  | .dtn, e, cf, P, N, X, g, h => by
    simp only [chkE] at h
    split at h
    · exact se_dtn g
    · cases h
  | .dt1 a c, e, cf, P, N, X, g, h => by
    simp only [chkE] at h
    split at h
    · simp only [Bool.and_eq_true] at h
      obtain ⟨⟨h1, h2⟩, h3⟩ := h
      exact se_dt1 g (fun N' hr => soundE a (g.inn hr) h1) h3 h2
    · cases h
  | .dtg i j, e, cf, P, N, X, g, h => by
    simp only [chkE] at h
    split at h
    · simp only [Bool.and_eq_true] at h
      exact se_dtg g h.1 h.2
    · cases h
  | .dts i j k, e, cf, P, N, X, g, h => by
    simp only [chkE] at h
    split at h
    · simp only [Bool.and_eq_true, decide_eq_true_eq] at h
      obtain ⟨⟨⟨⟨rfl, h1⟩, h2⟩, h3⟩, h4⟩ := h
      exact se_dts g h1 h2 h3 h4
    · cases h
  | .op o as, e, cf, P, N, X, g, h => by
    simp only [chkE] at h
    split at h
    · rename_i es he
      exact se_op g he (soundEs as g h)
    · cases h
  | .mop o a as, e, cf, P, N, X, g, h => by
    simp only [chkE] at h
    split at h
    · rename_i a' es he
      rw [Bool.and_eq_true] at h
      exact se_mop g he (soundE a g h.1) (soundEs as g h.2)
    · cases h
  | .andv as, e, cf, P, N, X, g, h => by
    simp only [chkE] at h
    split at h
    · exact se_and (soundEs as g h)
    · cases h
  | .orv as, e, cf, P, N, X, g, h => by
    simp only [chkE] at h
    split at h
    · exact se_or (soundEs as g h)
    · cases h
  | .notv a, e, cf, P, N, X, g, h => by
    simp only [chkE] at h
    split at h
    · exact se_not (soundE a g h)
    · cases h
  | .ite c a b, e, cf, P, N, X, g, h => by
    simp only [chkE] at h
    split at h
    · simp only [Bool.and_eq_true] at h
      exact se_ite (soundT c g h.1.1) (soundE a g h.1.2) (soundE b g h.2)
    · cases h
  | .chain o p a b c, e, cf, P, N, X, g, h => by
    simp only [chkE] at h
    split at h
    · simp only [Bool.and_eq_true, decide_eq_true_eq] at h
      obtain ⟨⟨⟨⟨⟨h1, h2⟩, h3⟩, h4⟩, h5⟩, h6⟩ := h
      exact se_chain g h1 h2 h3 (soundE a g h4) (soundE b g h5) (soundE c g h6)
    · cases h
  | .call f as rf bs, e, cf, P, N, X, g, h => by
    simp only [chkE] at h
    split at h
    · rename_i x p es ks pos
      simp only [Bool.and_eq_true, decide_eq_true_eq, Bool.not_eq_true'] at h
      obtain ⟨⟨⟨⟨⟨⟨rfl, h1⟩, h2⟩, h3⟩, h4⟩, hmt⟩, h5⟩ := h
      have hmt : mtOf f = none := by simpa using hmt
      split at h5
      · rename_i hk
        exact se_call g h1 h2 h3 (by simpa using h4) hmt hk (soundEs as g h5)
      · rename_i kw y v kp hk
        simp only [Bool.and_eq_true, decide_eq_true_eq] at h5
        obtain ⟨⟨rfl, h6⟩, h7⟩ := h5
        exact se_callK g h1 h2 h3 (by simpa using h4) hmt hk h6 (soundEs as g h7)
      · cases h5
    · cases h
  | .lst as, e, cf, P, N, X, g, h => by
    simp only [chkE] at h
    split at h
    · simp only [Bool.and_eq_true, decide_eq_true_eq] at h
      exact se_lst g h.1.1 h.1.2 (soundEs as g h.2)
    · cases h
  | .tup as, e, cf, P, N, X, g, h => by
    simp only [chkE] at h
    split at h
    · simp only [Bool.and_eq_true, decide_eq_true_eq] at h
      exact se_tup g h.1.1 h.1.2 (soundEs as g h.2)
    · cases h
  | .dct ks vs, e, cf, P, N, X, g, h => by
    simp only [chkE] at h
    split at h
    · refine PE.imp pe_dnewK fun σ H Q ⟨S, env, F, K, st, w, p⟩ a ha => ?_
      exact p.newDic (kvs := []) st w rfl .nil ha
    · rename_i c0 cr keys values pos
      simp only [Bool.and_eq_true, decide_eq_true_eq, Bool.not_eq_true'] at h
      obtain ⟨⟨⟨⟨⟨h1, h2⟩, h3⟩, h4⟩, h5⟩, h6⟩ := h
      exact se_dct (k0 := c0) (kr := cr) g h1 h2 h3 h4 (by intro hk; subst hk; cases h5) fun N' hr => soundEs vs (g.inn hr) h6
    · cases h
  | .comp elt tg it cond own, e, cf, P, N, X, g, h => by
    simp only [chkE] at h
    split at h
    · split at h
      · simp only [Bool.and_eq_true, decide_eq_true_eq] at h
        obtain ⟨⟨⟨⟨⟨⟨⟨rfl, h1⟩, h2⟩, h3⟩, h4⟩, h5⟩, h6⟩, h7⟩ := h
        have hsub : ∀ i ∈ tgIs tg, i ∈ own := fun i hi => memN_true (List.all_eq_true.mp h2 i hi)
        have ok := blkOk_by h3
        rw [← g.g.hN, ← g.g.hsc] at ok
        rw [Bool.or_eq_true] at h4
        rcases h4 with h4 | h4
        · obtain ⟨a1, a2, a3, a4, a5⟩ := se_comp (pos := default) g ownP_snd ok hsub h1 (soundIt it g h4)
            (fun s H C cl fp N' hr => sg_tg (P := P.inn) (g.blk hr) h5) (fun s H C cl fp N' hr => soundTo cond (g.blk hr) h6) (fun s H C cl fp N' hr => soundE elt (g.blk hr) h7)
          exact PE.imp (pe_lc g.g.calm (by rw [g.g.hN]; exact g.g.nd) a1 ok a2 a3 a4 (noFold h1 _)) a5
        · exact se_compD g ownP_snd ok hsub h1 h4
            (fun s H C cl fp N' hr => sg_tg (P := P.inn) (g.blk hr) h5) (fun s H C cl fp N' hr => soundTo cond (g.blk hr) h6) (fun s H C cl fp N' hr => soundE elt (g.blk hr) h7)
      · cases h
    · cases h
  | .pop i, e, cf, P, N, X, g, h => by
    simp only [chkE] at h
    split at h
    · simp only [Bool.and_eq_true, decide_eq_true_eq] at h
      obtain ⟨⟨rfl, h1⟩, h2⟩ := h
      exact se_pop g h1 h2
    · cases h
  | .popAt i a, e, cf, P, N, X, g, h => by
    simp only [chkE] at h
    split at h
    · simp only [Bool.and_eq_true, decide_eq_true_eq] at h
      obtain ⟨⟨⟨⟨rfl, h1⟩, h2⟩, h3⟩, h4⟩ := h
      exact se_popAt g h1 h2 h3 (soundE a g h4)
    · cases h
  | .fld i f, e, cf, P, N, X, g, h => by
    simp only [chkE] at h
    split at h
    · simp only [Bool.and_eq_true, decide_eq_true_eq] at h
      obtain ⟨h1, rfl⟩ := h
      exact se_fld g h1
    · cases h
  | .meth i c m as, e, cf, P, N, X, g, h => by
    simp only [chkE] at h
    split at h
    · simp only [Bool.and_eq_true, decide_eq_true_eq] at h
      obtain ⟨⟨⟨⟨⟨⟨h1, h2⟩, h3⟩, h4⟩, h5⟩, h6⟩, h7⟩ := h
      split at h6
      · rename_i cls n hmt
        simp only [Bool.and_eq_true, decide_eq_true_eq] at h6
        obtain ⟨h8, rfl⟩ := h6
        exact se_meth g h1 h2 h3 (by simpa using h4) h5 hmt h8 (soundEs as g h7)
      · cases h6
    · cases h
  | .mk c m as, e, cf, P, N, X, g, h => by
    simp only [chkE] at h
    split at h
    · simp only [Bool.and_eq_true, decide_eq_true_eq, Bool.not_eq_true'] at h
      obtain ⟨⟨⟨⟨⟨⟨rfl, h1⟩, h2⟩, h3⟩, h4⟩, h5⟩, h6⟩ := h
      split at h5
      · rename_i cls n hmt
        exact se_mk g h1 h2 h3 (by simpa using h4) hmt (of_decide_eq_true h5) (soundEs as g h6)
      · cases h5
    · cases h
  | .mkm c m0 as m j, e, cf, P, N, X, g, h => by
    simp only [chkE] at h
    split at h
    · simp only [Bool.and_eq_true, decide_eq_true_eq, Bool.not_eq_true'] at h
      obtain ⟨⟨⟨⟨⟨⟨⟨⟨⟨⟨rfl, h1⟩, h2⟩, h3⟩, h4⟩, h5⟩, hne⟩, h6⟩, h7⟩, h8⟩, h9⟩ := h
      split at h8
      · rename_i cls n1 cls2 n hmt0 hmt
        simp only [Bool.and_eq_true, decide_eq_true_eq] at h8
        obtain ⟨⟨h10, rfl⟩, rfl⟩ := h8
        exact se_mkm g h1 h2 h3 (by simpa using h4) (by simpa using h5) h6 h7 hmt0 hmt h10 hne (soundEs as g h9)
      · cases h8
    · cases h
theorem soundEs : ∀ (c : Es) {e : List Expr} {cf : Cf} {P : Prm} {N : Ent} {X : Cx}, GC B cf P N X → chkEs cf c e = true → PEs X e (tsOf B N P c)
  | .nil, e, cf, P, N, X, g, h => by
    simp only [chkEs] at h
    split at h
    · exact rfl
    · cases h
  | .cons c cs, e, cf, P, N, X, g, h => by
    simp only [chkEs] at h
    split at h
    · rw [Bool.and_eq_true] at h
      exact PEs.cons (PE.st (soundE c g h.1)) (soundEs cs g h.2)
    · cases h
theorem soundT : ∀ (c : T) {e : Expr} {cf : Cf} {P : Prm} {N : Ent} {X : Cx}, GC B cf P N X → chkT cf c e = true → PT X e (LT B N (wpT P c))
  | .kin neg x a, e, cf, P, N, X, g, h => by
    simp only [chkT] at h
    split at h
    · simp only [Bool.and_eq_true, decide_eq_true_eq, Bool.not_eq_true'] at h
      obtain ⟨⟨⟨⟨rfl, rfl⟩, h1⟩, h2⟩, h4⟩ := h
      exact lt_kin g h1 h2 (soundE a g h4)
    · cases h
  | .dtin neg j i, e, cf, P, N, X, g, h => by
    simp only [chkT] at h
    split at h
    · simp only [Bool.and_eq_true, decide_eq_true_eq] at h
      obtain ⟨⟨rfl, h1⟩, h2⟩ := h
      exact lt_dtin g h1 h2
    · cases h
  | .ex c, e, cf, P, N, X, g, h => by
    simp only [chkT, Bool.and_eq_true] at h
    have ih := soundE c g h.2
    have h1 := h.1
    split at h1
    · exact lt_ex g ih fun _ => rfl
    · exact lt_ex g ih fun _ => rfl
    · exact lt_ex g ih fun _ => rfl
    · exact lt_ex g ih fun _ => rfl
    · cases h1
  | .cmp o as, e, cf, P, N, X, g, h => by
    simp only [chkT] at h
    split at h
    · split at h
      · rename_i es he
        exact lt_cmp g he (soundEs as g h)
      · cases h
    · cases h
  | .chn o p a b c, e, cf, P, N, X, g, h => by
    simp only [chkT] at h
    split at h
    · simp only [Bool.and_eq_true, decide_eq_true_eq] at h
      obtain ⟨⟨⟨⟨⟨h1, h2⟩, h3⟩, h4⟩, h5⟩, h6⟩ := h
      exact lt_chn g h1 h2 h3 (soundE a g h4) (soundE b g h5) (soundE c g h6)
    · cases h
  | .notv t, e, cf, P, N, X, g, h => by
    simp only [chkT] at h
    split at h
    · exact lt_not (soundT t g h)
    · cases h
  | .andv ts, e, cf, P, N, X, g, h => by
    simp only [chkT] at h
    split at h
    · rw [Bool.and_eq_true, decide_eq_true_eq] at h
      exact (lt_and h.1 (soundTs ts g h.2)).pt
    · cases h
  | .orv ts, e, cf, P, N, X, g, h => by
    simp only [chkT] at h
    split at h
    · rw [Bool.and_eq_true, decide_eq_true_eq] at h
      exact (lt_or h.1 (soundTs ts g h.2)).pt
    · cases h
theorem soundTs : ∀ (c : Ts) {e : List Expr} {cf : Cf} {P : Prm} {N : Ent} {X : Cx}, GC B cf P N X → chkTs cf c e = true → PTs X e (ttsOf B N P c)
  | .nil, e, cf, P, N, X, g, h => by
    simp only [chkTs] at h
    split at h
    · exact rfl
    · cases h
  | .cons c cs, e, cf, P, N, X, g, h => by
    simp only [chkTs] at h
    split at h
    · rw [Bool.and_eq_true] at h
      exact PTs.cons (soundT c g h.1) (soundTs cs g h.2)
    · cases h
theorem soundTo : ∀ (c : To) {e : List Expr} {cf : Cf} {P : Prm} {N : Ent} {X : Cx}, GC B cf P N X → chkTo cf c e = true → L2.PTs X e (LT B N (wpCond P c))
  | .no, e, cf, P, N, X, g, h => by
    simp only [chkTo] at h
    split at h
    · exact ⟨fun pins s σ H Q I ⟨S, env, F, K, st, w, p⟩ => pts_nil.run pins s σ H Q I (p true env S H F w (Same.refl _) st)⟩
    · cases h
  | .yes t, e, cf, P, N, X, g, h => by
    simp only [chkTo] at h
    split at h
    · exact pts_one (soundT t g h)
    · cases h
theorem soundIt : ∀ (c : It) {tg e : Expr} {cf : Cf} {P : Prm} {N : Ent} {X : Cx}, GC B cf P N X → chkIt cf c tg e = true → PI X tg e (LI B N (wpIt P c))
  | .kk x, tg, e, cf, P, N, X, g, h => by
    simp only [chkIt] at h
    split at h
    · simp only [Bool.and_eq_true, decide_eq_true_eq, Bool.not_eq_true'] at h
      obtain ⟨⟨rfl, h1⟩, h2⟩ := h
      exact si_kk g h1 h2
    · cases h
  | .ex c, tg, e, cf, P, N, X, g, h => by
    simp only [chkIt, Bool.and_eq_true] at h
    exact si_ex g (soundE c g h.2)
  | .range as, tg, e, cf, P, N, X, g, h => by
    simp only [chkIt] at h
    split at h
    · simp only [Bool.and_eq_true, decide_eq_true_eq, Bool.or_eq_true] at h
      obtain ⟨⟨⟨⟨rfl, h1⟩, h2⟩, h3⟩, h4⟩ := h
      exact si_range g h1 h2 h3 (soundEs as g h4)
    · cases h
  | .enum a, tg, e, cf, P, N, X, g, h => by
    simp only [chkIt, Bool.and_eq_true] at h
    obtain ⟨ht, h⟩ := h
    cases tg <;> try (cases ht; done)
    split at h
    · simp only [Bool.and_eq_true, decide_eq_true_eq] at h
      obtain ⟨⟨⟨rfl, h1⟩, h2⟩, h3⟩ := h
      exact si_enum g h1 h2 (soundE a g h3)
    · cases h
  | .zip as, tg, e, cf, P, N, X, g, h => by
    simp only [chkIt, Bool.and_eq_true] at h
    obtain ⟨ht, h⟩ := h
    cases tg <;> try (cases ht; done)
    split at h
    · simp only [Bool.and_eq_true, decide_eq_true_eq] at h
      obtain ⟨⟨⟨rfl, h1⟩, h2⟩, h3⟩ := h
      exact si_zip g h1 h2 (soundEs as g h3)
    · cases h
  | .rev _, tg, e, cf, P, N, X, g, h => by cases h
  | .items _, tg, e, cf, P, N, X, g, h => by cases h
  | .keys _, tg, e, cf, P, N, X, g, h => by cases h
end
end
end Nf
/-! try .. except: what the handlers do -/
namespace Nf
open PySem PySem.Spec L2
/-- pairs of an exception and a class, by a name for each -/
def pTab : List (String × String × String) := [
  ("NoPattern<FindError", "NoPattern", "FindError"), ("NoPattern<NoPattern", "NoPattern", "NoPattern"), ("NoPattern<NoPrices", "NoPattern", "NoPrices"), ("NoPattern<TooMany", "NoPattern", "TooMany"), ("NoPattern<ValueError", "NoPattern", "ValueError"),
  ("NoPrices<FindError", "NoPrices", "FindError"), ("NoPrices<NoPattern", "NoPrices", "NoPattern"), ("NoPrices<NoPrices", "NoPrices", "NoPrices"), ("NoPrices<TooMany", "NoPrices", "TooMany"), ("NoPrices<ValueError", "NoPrices", "ValueError"),
  ("TooMany<FindError", "TooMany", "FindError"), ("TooMany<NoPattern", "TooMany", "NoPattern"), ("TooMany<NoPrices", "TooMany", "NoPrices"), ("TooMany<TooMany", "TooMany", "TooMany"), ("TooMany<ValueError", "TooMany", "ValueError")]
def pOf (n : String) : Option (String × String) := (pTab.find? fun q => q.1 == n).map (·.2)
/-- a class by its name: one of the module, or a builtin one -/
def NameV (mg : Str → Option Value) (x : String) (u : Value) : Prop := mg (Str.ofString x) = some u ∨ (mg (Str.ofString x) = none ∧ bootBuiltins (Str.ofString x) = some u ∧ Str.ofString x ≠ "__name__")
def XP (K : PySem.W.Frag) (mg : Str → Option Value) (c x : String) : Prop := ∃ C v u, mg (Str.ofString c) = some (.ref C) ∧ ExcC K C ∧ ClsV v u ∧ NameV mg x u ∧
  PySem.W.exmOne K (.ref C) u = some (isX c x) ∧ PySem.W.kitOne K (.ref C) u = some (isX c x)
theorem clsv_rel {v : V} {u : Value} (h : ClsV v u) : RelV v u := by cases h <;> rfl
theorem pe_cls {X : Cx} {x : String} {v : V} {u : Value} {pos : Pos} (hg : Gl X (Str.ofString x)) (h : NameV X.mg x u) (c : ClsV v u) (hd : (Str.ofString x == ("__debug__" : Str)) = false) : PE X (.Name (Str.ofString x) pos) (tC v) := by
  rcases h with h | ⟨h1, h2, h3⟩
  · exact pe_glob hg h (clsv_rel c) hd
  · exact pe_bltn hg h1 h2 (clsv_rel c) h3 hd
/-! the text -/
def clsB (cf : Cf) (x : String) (z : Str) : Bool := decide (z = Str.ofString x) && glB cf.sc z && !(z == ("__debug__" : Str))
def isiB (cf : Cf) (i : Nat) (x : String) (e : Expr) : Bool := match e with
  | .Call (.Name f _) [.Name y _, .Name z _] [] _ => decide (f = Str.ofString "isinstance") && glB cf.sc f && slotB cf i y && clsB cf x z
  | _ => false
def isiLB (cf : Cf) (i : Nat) : List String → List Expr → Bool
  | [], [] => true
  | x :: xs, e :: es => isiB cf i x e && isiLB cf i xs es
  | _, _ => false
def clsEB (cf : Cf) (x : String) (e : Expr) : Bool := match e with
  | .Name z _ => clsB cf x z
  | _ => false
def clsLB (cf : Cf) : List String → List Expr → Bool
  | [], [] => true
  | x :: xs, e :: es => clsEB cf x e && clsLB cf xs es
  | _, _ => false
def isiApB (cf : Cf) (i : Nat) (ap : List String) (e : Expr) : Bool := match ap with
  | [x] => isiB cf i x e
  | _ => (match e with
    | .Call (.Name f _) [.Name y _, .Tuple zs _ _] [] _ => decide (f = Str.ofString "isinstance") && glB cf.sc f && slotB cf i y && clsLB cf ap zs && decide (ap.length ≤ 1000)
    | _ => false)
def pairsB (cf : Cf) (cs xs : List String) : Bool := cs.all fun c => xs.all fun x => pTab.any fun t => decide (pOf t.1 = some (c, x)) && cf.xs.contains t.1
theorem PA.imp {X : Cx} {es : List Expr} {t t' : TA} (h : PA X es t) (i : ∀ σ H Q, t' σ H Q → t σ H Q) : PA X es t' := ⟨fun pos pins s σ H Q I hw => h.run pos pins s σ H Q I (i _ _ _ hw)⟩
theorem few_oneT {e : Expr} (h : notStar e = true) (cp : Pos) (env : PySem.Env) : ((backTo cp (starEach [e] env)).all (fun x => !x.1) && (backToKw cp (keywordEach [] env)).all (fun x => x.1.isSome)
      && decide (([e] : List Expr).length + ([] : List Keyword).length + (if ([] : List Keyword).isEmpty then 0 else 1) < 30)) = true := by
  rw [no_stars (es := [e]) (by unfold noStars; rw [h]; rfl) env]; rfl
/-- isinstance(e, (c1, c2)), e the exception that the suite holds -/
def rIsET (K : PySem.W.Frag) (D a : Addr) : List V → Hp → VK → Prop := fun xs H Q => ∃ (tp : Addr) (cs : List V) (us : List Value) (b : Bool), xs = [.ref a, .ref tp] ∧ H tp = some (.tup cs) ∧ Paired ClsV cs us ∧ PySem.W.kitAny K (.ref D) us = some b ∧ Q (.bl b) H
theorem call_isET {X : Cx} {a D : Addr} {oe : Obj} {pn : List (Addr × Obj)} (C : ExcC X.K D) (hz : Zc (.ref D) none oe) (hf : ∃ vs, oe.data = .fields vs) : CallR (X.suite a ((a, oe) :: pn)) (.builtin "isinstance") (rIsET X.K D a) := by
  intro pins s σ H xs us Q I r h
  obtain ⟨tp, cs, ws, b, rfl, hT, k, e, q⟩ := h
  obtain ⟨u1, u2, rfl, r1, r2⟩ := vals2 r
  cases (show u1 = Value.ref a from r1)
  cases (show u2 = Value.ref tp from r2)
  obtain ⟨hget, _⟩ := I.pin (a, oe) (List.mem_append.mpr (.inl List.mem_cons_self))
  obtain ⟨vs, hv⟩ := hf
  have J : PySem.W.InstAt s.heap a oe D none := by
    obtain ⟨oc, od, oda, osl⟩ := oe
    obtain ⟨h1, h2⟩ := hz
    dsimp only at h1 h2 hv
    subst h1 h2 hv
    exact ⟨hget, rfl, rfl, trivial⟩
  obtain ⟨_, its, rv, o, h1, h2, n, h3⟩ := (show ObjOk X.prog X.w H s.heap tp (.tup cs) from I.hok tp _ hT)
  have e3 := ClsV.all k rv
  subst e3
  obtain ⟨oc, od, dt, sl⟩ := o
  simp only at h2 h3
  subst h2 h3
  exact PySem.W.kia_tup (PySem.W.handS_kitx_exc C.hg C.hk C.hs C.hd C.ha C.hn C.ht C.hm) I.kIn J h1 e (fun z => nomatch z) fun tk => ⟨.bl b, H, I.kept (t' := tk) fun _ _ z => z, rfl, q⟩
section
variable {B : Base} {cf : Cf} {P : Prm} {N : Ent} {X : Cx} {a D : Addr} {oe : Obj} {pn : List (Addr × Obj)} {i : Nat} {c : String}
/-- what the suite knows: the class's facts for the names -/
def XPs (X : Cx) (c : String) (D : Addr) (xs : List String) : Prop := ExcC X.K D ∧ ∀ x ∈ xs, ∃ v u, ClsV v u ∧ NameV X.mg x u ∧ PySem.W.exmOne X.K (.ref D) u = some (isX c x) ∧ PySem.W.kitOne X.K (.ref D) u = some (isX c x)
theorem clsB_gl (g : GC B cf P N X) {x : String} {z : Str} (h : clsB cf x z = true) : z = Str.ofString x ∧ Gl X z ∧ (z == ("__debug__" : Str)) = false := by
  unfold clsB at h
  simp only [Bool.and_eq_true, decide_eq_true_eq, Bool.not_eq_true'] at h
  exact ⟨h.1.1, g.g.gl h.1.2, h.2⟩
theorem pe_isi (g : GC B cf P N X) (hz : Zc (.ref D) none oe) (hf : ∃ vs, oe.data = .fields vs) {xs : List String} (hx : XPs X c D xs) {x : String} (hm : x ∈ xs) {e : Expr} (h : isiB cf i x e = true) :
    PE (X.suite a ((a, oe) :: pn)) e (fun σ H Q => σ[i]? = some (some (.ref a)) ∧ Q (.bl (isX c x)) H) := by
  unfold isiB at h
  split at h
  · rename_i f p y p1 z p2 pos
    simp only [Bool.and_eq_true, decide_eq_true_eq] at h
    obtain ⟨⟨⟨rfl, h2⟩, h3⟩, h4⟩ := h
    obtain ⟨rfl, g1, g2⟩ := clsB_gl g h4
    obtain ⟨v1, v2, v3, v4⟩ := vis_of g h3
    obtain ⟨ec, fx⟩ := hx
    obtain ⟨v, u, k1, k2, k3, k4⟩ := fx x hm
    refine PE.imp (pe_callB (X := X.suite a ((a, oe) :: pn)) (call_isE ec hz hf) (g.g.gl h2) (g.g.blt "isinstance" (by decide)) PyProof.Rows.boot_isinstance (pa_cons (pe_var v1 v2 v3 v4) (pa_cons (pe_cls g1 k2 k1 g2) pa_nil (star_cons _ rfl)) (star_cons _ rfl)) (by decide) (by decide +kernel) (star_cons _ rfl) (by rfl)) fun σ H Q hw => ?_
    obtain ⟨w1, w2⟩ := hw
    exact ⟨_, w1, v, u, isX c x, rfl, fun w r => k1.eq r, k4, w2⟩
  · cases h
theorem pa_isi (g : GC B cf P N X) (hz : Zc (.ref D) none oe) (hf : ∃ vs, oe.data = .fields vs) {xs : List String} (hx : XPs X c D xs) : ∀ {is : List String} {es : List Expr}, (∀ x ∈ is, x ∈ xs) → isiLB cf i is es = true →
    PA (X.suite a ((a, oe) :: pn)) es (fun σ H Q => σ[i]? = some (some (.ref a)) ∧ Q (is.map fun x => V.bl (isX c x)) H)
  | [], [], _, _ => PA.imp pa_nil fun σ H Q hw => hw.2
  | [], _ :: _, _, h => by cases h
  | _ :: _, [], _, h => by cases h
  | x :: is, e :: es, hm, h => by
    have h' : (isiB cf i x e && isiLB cf i is es) = true := h
    rw [Bool.and_eq_true] at h'
    have hst : notStar e = true := by
      have h1 := h'.1
      unfold isiB at h1
      split at h1
      · rfl
      · cases h1
    exact PA.imp (pa_cons (pe_isi g hz hf hx (hm x (by simp)) h'.1) (pa_isi g hz hf hx (fun y hy => hm y (by simp [hy])) h'.2) (star_cons _ hst)) fun σ H Q hw => ⟨hw.1, hw.1, hw.2⟩
theorem pa_cls (g : GC B cf P N X) {xs : List String} (hx : XPs X c D xs) : ∀ {is : List String} {es : List Expr}, (∀ x ∈ is, x ∈ xs) → clsLB cf is es = true →
    ∃ vs us, Paired ClsV vs us ∧ PySem.W.kitAny X.K (.ref D) us = some (is.any fun x => isX c x) ∧ vs.length = is.length ∧ PA (X.suite a ((a, oe) :: pn)) es (fun σ H Q => Q vs H)
  | [], [], _, _ => ⟨[], [], .nil, rfl, rfl, pa_nil⟩
  | [], _ :: _, _, h => by cases h
  | _ :: _, [], _, h => by cases h
  | x :: is, e :: es, hm, h => by
    have h' : (clsEB cf x e && clsLB cf is es) = true := h
    rw [Bool.and_eq_true] at h'
    obtain ⟨h1, h2⟩ := h'
    unfold clsEB at h1
    split at h1
    · rename_i z p
      obtain ⟨rfl, g1, g2⟩ := clsB_gl g h1
      obtain ⟨v, u, k1, k2, k3, k4⟩ := hx.2 x (hm x (by simp))
      obtain ⟨vs, us, q1, q2, q3, q4⟩ := pa_cls g hx (fun y hy => hm y (by simp [hy])) h2
      refine ⟨v :: vs, u :: us, .cons k1 q1, ?_, by simp [q3], PA.imp (pa_cons (pe_cls (X := X.suite a ((a, oe) :: pn)) g1 k2 k1 g2) q4 (star_cons _ rfl)) fun σ H Q hw => hw⟩
      rw [List.any_cons]
      refine kitAny_cons k4 (fun z => ?_) fun z => ?_
      · rw [z, Bool.false_or]; exact q2
      · rw [z, Bool.true_or]
    · cases h1
theorem pe_isiAp (g : GC B cf P N X) (hz : Zc (.ref D) none oe) (hf : ∃ vs, oe.data = .fields vs) {xs ap : List String} (hx : XPs X c D xs) (hm : ∀ x ∈ ap, x ∈ xs) {e : Expr} (h : isiApB cf i ap e = true) :
    PE (X.suite a ((a, oe) :: pn)) e (fun σ H Q => σ[i]? = some (some (.ref a)) ∧ ∀ H2, (∀ b o, H b = some o → H2 b = some o) → Q (.bl (ap.any fun x => isX c x)) H2) ∧ notStar e = true := by
  unfold isiApB at h
  split at h
  · rename_i x
    refine ⟨PE.imp (pe_isi g hz hf hx (hm x (by simp)) h) fun σ H Q hw => ⟨hw.1, ?_⟩, ?_⟩
    · have := hw.2 H fun _ _ z => z
      simpa using this
    · unfold isiB at h
      split at h
      · rfl
      · cases h
  · split at h
    · rename_i f p y p1 zs zc p2 pos
      simp only [Bool.and_eq_true, decide_eq_true_eq] at h
      obtain ⟨⟨⟨⟨rfl, h2⟩, h3⟩, h4⟩, h5⟩ := h
      obtain ⟨v1, v2, v3, v4⟩ := vis_of g h3
      obtain ⟨vs, us, q1, q2, q3, q4⟩ := pa_cls (a := a) (oe := oe) (pn := pn) g hx hm h4
      refine ⟨PE.imp (pe_callB (X := X.suite a ((a, oe) :: pn)) (call_isET hx.1 hz hf) (g.g.gl h2) (g.g.blt "isinstance" (by decide)) PyProof.Rows.boot_isinstance (pa_cons (pe_var v1 v2 v3 v4) (pa_cons (pe_tup q4) pa_nil (star_cons _ rfl)) (star_cons _ rfl)) (by decide) (by decide +kernel) (star_cons _ rfl) (by rfl)) fun σ H Q hw => ?_, rfl⟩
      obtain ⟨w1, w2⟩ := hw
      refine ⟨_, w1, by rw [q3, sizeLine_eq]; omega, fun tp ht => ?_⟩
      exact ⟨tp, vs, us, _, rfl, upd_same, q1, q2, w2 _ fun b o e => by rw [upd_ne (ne_of_none e ht)]; exact e⟩
    · cases h
/-- what a handler that asks of the class leaves -/
def tsAs (X : Cx) (i j : Nat) (is ap cs : List String) (a : Addr) (cls : Value) (d : Option Addr) : TS := fun D σ H => ∃ c C, c ∈ cs ∧ X.mg (Str.ofString c) = some (.ref C) ∧ cls = .ref C ∧ d = none ∧ σ[i]? = some (some (.ref a)) ∧ j < σ.length ∧ i ≠ j ∧
  ∀ l H2, H l = none → (∀ b o, H b = some o → H2 b = some o) → H2 l = some (.lst (is.map (fun x => V.bl (isX c x)) ++ [V.bl (ap.any fun x => isX c x)])) → D.nx (σ.set j (some (.ref l))) H2
theorem pss_as (g : GC B cf P N X) {j : Nat} {is ap cs : List String} (hxs : ∀ c ∈ cs, ∀ C, X.mg (Str.ofString c) = some (.ref C) → XPs X c C (is ++ ap)) {o1 : Str} {iss : List Expr} {p1 p2 p3 p4 cp apos p5 : Pos} {ce : Expr}
    (hst : storeB cf j o1 = true) (hsl : slotB cf j o1 = true) (hsw : locB cf.sc o1 = true) (hfn : X.fn o1 = true ∨ X.env.scope.names.lookup o1 = some .local) (hl1 : isiLB cf i is iss = true) (hlen : is.length ≤ 1000) (hap : isiApB cf i ap ce = true) (hline : (apos.endLine == cp.line) = true)
    (cls : Value) (d : Option Addr) (hz : Zc cls d oe) (hf : ∃ vs, oe.data = .fields vs) :
    PSs (X.suite a ((a, oe) :: pn)) [.Assign [.Name o1 p1] (.List iss p2) p3, .Expr (.Call (.Attribute (.Name o1 p4) (Str.ofString "append") apos) [ce] [] cp) p5] (tsAs X i j is ap cs a cls d) := by
  refine ⟨fun pins s σ H E I hw => ?_⟩
  obtain ⟨c, C, hc, hC, rfl, rfl, h1, h2, h3, h4⟩ := hw
  have hx := hxs c hc C hC
  obtain ⟨v1, v2, v3, v4⟩ := vis_of g hsl
  have pi := pa_isi (a := a) (pn := pn) g hz hf hx (fun x hm => List.mem_append.mpr (.inl hm)) hl1
  obtain ⟨pap, hns⟩ := pe_isiAp (a := a) (pn := pn) g hz hf hx (fun x hm => List.mem_append.mpr (.inr hm)) hap
  have hloc : Loc (X.suite a ((a, oe) :: pn)).env.scope o1 := by
    unfold locB at hsw
    rw [← g.g.hsc] at hsw
    split at hsw
    · rename_i q; exact .inl q
    · rename_i q; exact .inr q
    · cases hsw
  have s1 := ps_set (X := X.suite a ((a, oe) :: pn)) (pos := p3) (pos' := p1) (by show X.N.Nodup; rw [g.g.hN]; exact g.g.nd) v1 hloc (pe_lst (pos := p2) pi) (by rfl) hfn
  have s2 := ps_expr (X := X.suite a ((a, oe) :: pn)) (pos := p5) (pe_bm PySem.F.plainAttrs_list PySem.F.slot_list_append PySem.F.type_list_append mt_append (pe_var (pos := p4) v1 v2 v3 v4) (pa_cons pap pa_nil (star_cons _ hns)) rfl (few_oneT hns _ _) hline (star_cons _ hns) (by rfl))
  refine (pss_cons s1 (pss_cons s2 pss_nil)).run pins s σ H E I ⟨h1, by rw [List.length_map, sizeLine_eq]; omega, fun l hl => ?_⟩
  have hg : (σ.set j (some (V.ref l)))[j]? = some (some (V.ref l)) := List.getElem?_set_self h2
  have hg2 : (σ.set j (some (V.ref l)))[i]? = some (some (V.ref a)) := by rw [List.getElem?_set_ne (Ne.symm h3)]; exact h1
  refine ⟨.ref l, hg, .inl ⟨rfl, _, .inl (.inl upd_same)⟩, hg2, fun H2 k => ?_⟩
  refine ⟨l, _, _, rfl, rfl, k _ _ upd_same, by rw [List.length_map, sizeLine_eq]; omega, ?_⟩
  refine h4 l _ hl (fun b o e => ?_) upd_same
  have ne : b ≠ l := ne_of_none e hl
  rw [upd_ne ne]
  exact k _ _ (by rw [upd_ne ne]; exact e)
/-- what a handler leaves that says only: nothing -/
def tsNo (X : Cx) (j : Nat) (cs : List String) (a : Addr) (cls : Value) (d : Option Addr) : TS := fun D σ H => ∃ c C, c ∈ cs ∧ X.mg (Str.ofString c) = some (.ref C) ∧ cls = .ref C ∧ d = none ∧ D.nx (σ.set j (some .non)) H
theorem pss_no (g : GC B cf P N X) {j : Nat} {cs : List String} {o1 : Str} {p1 p2 p3 : Pos} {q : Nat}
    (hsl : slotB cf j o1 = true) (hsw : locB cf.sc o1 = true) (hfn : X.fn o1 = true ∨ X.env.scope.names.lookup o1 = some .local) (cls : Value) (d : Option Addr) :
    PSs (X.suite a ((a, oe) :: pn)) [.Assign [.Name o1 p1] (.Constant .none q p2) p3] (tsNo X j cs a cls d) := by
  refine ⟨fun pins s σ H E I hw => ?_⟩
  obtain ⟨c, C, hc, hC, rfl, rfl, h4⟩ := hw
  obtain ⟨v1, v2, v3, v4⟩ := vis_of g hsl
  have hloc : Loc (X.suite a ((a, oe) :: pn)).env.scope o1 := by
    unfold locB at hsw
    rw [← g.g.hsc] at hsw
    split at hsw
    · rename_i q; exact .inl q
    · rename_i q; exact .inr q
    · cases hsw
  have s1 := ps_set (X := X.suite a ((a, oe) :: pn)) (pos := p3) (pos' := p1) (by show X.N.Nodup; rw [g.g.hN]; exact g.g.nd) v1 hloc (pe_non (j := q) (pos := p2)) (by rfl) hfn
  exact (pss_cons s1 pss_nil).run pins s σ H E I h4
end
theorem takes_len {X : Cx} {W W' : WX} (t : Takes X W) (h : ∀ cls d σ H, σ.length = X.N.length → W' cls d σ H → W cls d σ H) : Takes X W' :=
  fun u s' ⟨a, B, sI, pins, σ, H, cls, d, e, I, nb, up, sky, na, os, ag, w⟩ => t u s' ⟨a, B, sI, pins, σ, H, cls, d, e, I, nb, up, sky, na, os, ag, h _ _ _ _ I.len w⟩
end Nf
/-! soundness of statements -/
namespace Nf
open PySem PySem.Spec L2

/-! ### the text's form -/
def funB (sc : Scope) : Bool := match sc.kind with
  | .function => true
  | _ => false
/-- is a comprehension's name stored from within -/
def swB (sc : Scope) (y : Str) (py : Pos) (scope : Scope) (pos : Pos) : Bool :=
  (match sc.names.lookup y with | some .local => true | _ => false) && (py.line == pos.line) && !(scope.names.any fun (n, k) => n == y && (k == .local || k == .cell))
def chkAug : Op → Operator → Bool
  | .add, .Add => true
  | .sub, .Sub => true
  | _, _ => false
/-- (2 << x) - 1 -/
def shlE (j : Nat) : E := .op .sub (.cons (.op .shl (.cons (.cst (.int 2)) (.cons (.var j) .nil))) (.cons (.cst (.int 1)) .nil))
/-- not a comprehension over a dict -/
def notDk : E → Bool
  | .comp _ _ (.items _) _ _ => false
  | .comp _ _ (.keys _) _ _ => false
  | _ => true
theorem notDk_no {cf : Cf} {elt : E} {tg : Tg} {it : It} {cond : To} {own : List Nat} {a b : Expr} (h : notDk (.comp elt tg it cond own) = true) (h2 : chkDk cf it a b = true) : False := by
  cases it <;> first
    | (cases h; done)
    | (simp [chkDk] at h2; done)
mutual
def chkS (cf : Cf) : S → Stmt → Bool
  | .asg tg e, s => match s with
    | .Assign [tg'] e' pos => chkE cf e e' && chkTg cf tg tg' && (match tg' with
      | .Name y py => (match e' with
        | .ListComp _ _ scope lp => swB cf.sc y py scope lp && (match cf.sc.names.lookup y with | some .local => true | _ => false) && notDk e
        | .SetComp _ _ _ _ => false
        | .DictComp _ _ _ _ _ => false
        | _ => true)
      | .Tuple _ _ _ => (match e' with
        | .Tuple _ _ _ => false
        | _ => notComp e')
      | _ => false)
    | _ => false
  | .aug i o e, s => match s with
    | .AugAssign (.Name x _) op e' _ => storeB cf i x && visB cf.sc x && chkAug o op && chkE cf e e'
    | _ => false
  | .seti i k e, s => match s with
    | .Assign [.Subscript (.Name x _) k' _] e' _ => slotB cf i x && notSlice k' && notComp e' && chkE cf k k' && chkE cf e e'
    | _ => false
  | .dtset i j e, s => match s with
    | .Assign [.Subscript (.Name x _) (.Name y _) _] e' _ => slotB cf i x && slotB cf j y && notComp e' && chkE cf e e'
    | _ => false
  | .append i e, s => match s with
    | .Expr (.Call (.Attribute (.Name x _) m ap) [e'] [] cp) _ => decide (m = Str.ofString "append") && slotB cf i x && (ap.endLine == cp.line) && notStar e' && chkE cf e e'
    | _ => false
  | .extend i e, s => match s with
    | .Expr (.Call (.Attribute (.Name x _) m ap) [e'] [] cp) _ => decide (m = Str.ofString "extend") && slotB cf i x && (ap.endLine == cp.line) && notStar e' && chkE cf e e'
    | _ => false
  | .ex e, s => match s with
    | .Expr e' _ => notComp e' && chkE cf e e'
    | _ => false
  | .iff c a b, s => match s with
    | .If c' a' b' _ => chkT cf c c' && chkSs cf a a' && chkSs cf b b'
    | _ => false
  | .loop tg it b, s => match s with
    | .For tg' it' b' [] _ => notSet it' && chkIt cf it tg' it' && chkTg cf tg tg' && chkSs cf b b'
    | _ => false
  | .whl c b, s => match s with
    | .While c' b' [] _ => chkT cf c c' && chkSs cf b b'
    | _ => false
  | .ret e, s => match s with
    | .Return (some e') _ => chkE cf e e'
    | _ => false
  | .raise c, s => match s with
    | .Raise (some (.Call (.Name x _) [.Constant (.str _) _ _] [] _)) none _ => decide (x = Str.ofString c) && glB cf.sc x && !(x == ("__debug__" : Str)) && cf.xs.contains c && (pOf c).isNone
    | _ => false
  | .seta i f e, s => match s with
    | .Assign [.Attribute (.Name x _) g _] e' _ => slotB cf i x && decide (g = ⟨f.toArray⟩) && decide (g ∈ attrNames) && notComp e' && chkE cf e e'
    | _ => false
  | .seto i f e, s => match s with
    | .Assign [.Attribute (.Name x _) g _] e' _ => slotB cf i x && decide (g = ⟨f.toArray⟩) && decide (g ∈ attrNames) && notComp e' && chkE cf e e'
    | _ => false
  | .appa i f j, s => match s with
    | .Expr (.Call (.Attribute (.Attribute (.Name x _) g _) m ap) [e'] [] cp) _ => decide (m = Str.ofString "append") && slotB cf i x && decide (g = ⟨f.toArray⟩) && (ap.endLine == cp.line) && notStar e' && chkE cf (shlE j) e'
    | _ => false
  | .auga i f e, s => match s with
    | .AugAssign (.Attribute (.Name x _) g _) .Add e' _ => slotB cf i x && decide (g = ⟨f.toArray⟩) && decide (g ∈ attrNames) && chkE cf e e'
    | _ => false
  | .tryc j i h is ap cs b, s => match s with
    | .Try body [.ExceptHandler (some (.Name hx _)) (some n) [.Assign [.Name o1 _] (.List iss _) _, .Expr (.Call (.Attribute (.Name o2 _) m apos) [ce] [] cp) _] _] [] [] _ =>
      decide (m = Str.ofString "append") && clsB cf h hx && decide (cf.N[i]? = some n) && (match cf.sc.names.lookup n with | some .local => true | _ => false) && storeB cf j o1 && slotB cf j o1 && decide (o2 = o1) && decide (i ≠ j) && isiLB cf i is iss && decide (is.length ≤ 1000) && isiApB cf i ap ce && (apos.endLine == cp.line) && pairsB cf cs (h :: (is ++ ap)) && !cs.isEmpty && chkSs cf b body
    | _ => false
  | .tryp j i h is ap cs f a b c, s => match s with
    | .Try [.Expr (.Call (.Name fx _) [.Name x _, .Name y _, .Name z _] [] _) _] [.ExceptHandler (some (.Name hx _)) (some n) [.Assign [.Name o1 _] (.List iss _) _, .Expr (.Call (.Attribute (.Name o2 _) m apos) [ce] [] cp) _] _] [] [] _ =>
      decide (m = Str.ofString "append") && clsB cf h hx && decide (cf.N[i]? = some n) && (match cf.sc.names.lookup n with | some .local => true | _ => false) && storeB cf j o1 && slotB cf j o1 && decide (o2 = o1) && decide (i ≠ j) && isiLB cf i is iss && decide (is.length ≤ 1000) && isiApB cf i ap ce && (apos.endLine == cp.line) && pairsB cf cs (h :: (is ++ ap)) && !cs.isEmpty &&
      decide (fx = Str.ofString (nmOf f)) && glB cf.sc fx && !(fx == ("__debug__" : Str)) && cf.fs.contains f && (mtOf f).isNone && (kwOf f).isNone && slotB cf a x && slotB cf b y && slotB cf c z
    | _ => false
  | .tryn j h cs b, s => match s with
    | .Try body [.ExceptHandler (some (.Name hx _)) none [.Assign [.Name o1 _] (.Constant .none _ _) _] _] [] [] _ => clsB cf h hx && storeB cf j o1 && slotB cf j o1 && pairsB cf cs [h] && !cs.isEmpty && chkSs cf b body
    | _ => false
  | .doc, s => match s with
    | .Expr (.Constant (.str _) _ _) _ => true
    | _ => false
  | .pass, s => match s with
    | .Pass _ => true
    | _ => false
def chkSs (cf : Cf) : Ss → List Stmt → Bool
  | .nil, l => match l with
    | [] => true
    | _ => false
  | .cons c cs, l => match l with
    | s :: ss => chkS cf c s && chkSs cf cs ss
    | [] => false
end

/-! ### statements -/
/-- an entry of xs: a class that may be raised; or what an exception is to a class -/
def XEnt (X : Cx) (c : String) : Prop := match pOf c with
  | some q => XP X.K X.mg q.1 q.2
  | none => ∃ C bmB Bc newId initId, ExcBaseFacts Bc newId initId bmB ∧ PySem.W.excIn X.K C bmB newId = true ∧ X.mg (Str.ofString c) = some (.ref C) ∧ PySem.W.keepIn X.K (.ref C) = true ∧ Raises X (.ref C)
structure GS (B : Base) (cf : Cf) (P : Prm) (N : Ent) (X : Cx) : Prop where
  c : GC B cf P N X
  kind : X.env.scope.kind = .function
  own : PassesOwn (model X.prog X.w) X.A X.env X.xe
  tk : Takes X (fun cls d _ H => EXw B P N X.mg cls d H)
  xs : ∀ c ∈ cf.xs, XEnt X c
  stk : X.stack = X.env :: X.outer ∧ X.env.frame = some X.env.locals
def LS (B : Base) (N : Ent) (W : Ev → Fn → Prop) : TS := fun D σ H => ∃ S env F fn, StOk B N σ env S H F ∧ W env fn ∧
  (∀ env' σ' S' H' F', fn.nx env' → Same S S' → StOk B N σ' env' S' H' F' → D.nx σ' H') ∧
  (∀ r env' v σ' S' H' F' fr, fn.rt r env' → Same S S' → StOk B N σ' env' S' H' F' → RelR B N σ' S' H' F' r v fr → D.rt v H')
theorem PS.imp {X : Cx} {s : Stmt} {t t' : TS} (h : PS X s t) (i : ∀ D σ H, t' D σ H → t D σ H) : PS X s t' := ⟨fun pins s1 σ H D I hw => h.run pins s1 σ H D I (i D σ H hw)⟩
theorem PSs.imp {X : Cx} {s : List Stmt} {t t' : TS} (h : PSs X s t) (i : ∀ D σ H, t' D σ H → t D σ H) : PSs X s t' := ⟨fun pins s1 σ H D I hw => h.run pins s1 σ H D I (i D σ H hw)⟩
section
variable {B : Base} {cf : Cf} {P : Prm} {N : Ent} {X : Cx}
theorem store_put {i : Nat} {r : R} {v : V} {fr : List Addr} {σ : Sg} {env : Ev} {S H : Hp} {F : Nat → List Addr} {K : Ev → Prop} (st : StOk B N σ env S H F) (rel : RelR B N σ S H F r v fr) (w : storeW N.refs i r env K) :
    ∃ env' S' F', K env' ∧ Same S S' ∧ StOk B N (σ.set i (some v)) env' S' H F' := by
  obtain ⟨hi, w⟩ := free_ok w
  cases r with
  | v d => exact ⟨_, S, _, w, Same.refl _, st.setV hi rel.1⟩
  | t o => exact ⟨_, S, _, w, Same.refl _, st.setO hi rel⟩
  | l j =>
    obtain ⟨d, env1, S1, F1, k, e, st1, rep⟩ := retain_ok st rel w
    exact ⟨_, S1, _, k, e, st1.setV hi rep⟩
theorem not_sw {e : Expr} (h : notComp e = true) (o : Option Expr) (l : Nat) (env : PySem.Env) : swapsWith e o l env = pure false := by
  cases e <;> first
    | rfl
    | cases h
theorem not_stores {ts : List Expr} {k0 : Nat} {p0 : Pos} {e : Expr} (h : ∀ es k p, e ≠ .Tuple es k p) (env : PySem.Env) : swappedStores [.Tuple ts k0 p0] e env = pure none := by
  cases e <;> first
    | rfl
    | exact (h _ _ _ rfl).elim
theorem ss_set {i : Nat} {y : Str} {py pos : Pos} {c : E} {e : Expr} (g : GS B cf P N X) (hs : storeB cf i y = true) (he : PE X e (LE B N (wpE P c))) (hn : swapsWith e (some (.Name y py)) pos.line X.env = pure false) :
    PS X (.Assign [.Name y py] e pos) (LS B N (wpS P (.asg (.name i) c))) := by
  obtain ⟨h1, h2, h3, h4⟩ := store_of g.c hs
  refine PS.imp (ps_set h1 h2 h3 he hn h4) fun D σ H hw => ?_
  obtain ⟨S, env, F, fn, st, w, pn, pr⟩ := hw
  have w' : wpE P c env fun r env1 => storeW P.refs i r env1 fn.nx := w
  rw [g.c.refs] at w'
  refine ⟨S, env, F, _, st, w', fun r env1 v S1 H1 F1 fr k e1 st1 rel => ?_⟩
  obtain ⟨env2, S2, F2, k2, e2, st2⟩ := store_put st1 rel k
  exact pn _ _ _ _ _ k2 (e1.trans e2) st2
theorem ss_tup {is : List Nat} {es : List Expr} {k : Nat} {py pos : Pos} {c : E} {e : Expr} (g : GS B cf P N X) (hs : chkTgs cf is es = true) (he : PE X e (LE B N (wpE P c))) (hn : notComp e = true) (ht : ∀ es k p, e ≠ .Tuple es k p) :
    PS X (.Assign [.Tuple es k py] e pos) (LS B N (wpS P (.asg (.tup is) c))) := by
  refine PS.imp (ps_asg he (sg_tg (tg := .tup is) g.c hs) (by show swapsWith e (some (.Tuple es k py)) pos.line X.env = pure false; exact not_sw hn _ _ _) (not_stores ht _)) fun D σ H hw => ?_
  obtain ⟨S, env, F, fn, st, w, pn, pr⟩ := hw
  have w' : wpE P c env fun r env1 => retain P.refs env1 r fun d env1 => wpTg P.refs (.tup is) d env1 fn.nx := w
  rw [g.c.refs] at w'
  refine ⟨S, env, F, _, st, w', fun r env1 v S1 H1 F1 fr k e1 st1 rel => ?_⟩
  obtain ⟨d, env2, S2, F2, k2, e2, st2, rep⟩ := retain_ok st1 rel k
  exact ⟨S2, env2, F2, d, _, st2, rep, by rw [g.c.refs]; exact k2, fun σ' env' F' k3 st3 _ _ => pn _ _ _ _ _ k3 (e1.trans e2) st3⟩
theorem sw_no {elt : Expr} {gs : List Comprehension} {scope : Scope} {lp : Pos} : True := trivial
theorem ss_comp {i : Nat} {y : Str} {py pos lp : Pos} {elt tg iter : Expr} {ifs : List Expr} {scope : Scope} {ow : List (Str × Nat)} {c : E} {wi : TI} {gg : TG} {tt : TT} {te : TE} (g : GS B cf P N X) (hs : storeB cf i y = true) (hloc : cf.sc.names.lookup y = some .local) (hsw : swB cf.sc y py scope lp = true)
    (a1 : PI X tg iter wi) (ok : BlkOk X.N X.env.scope scope ow) (a2 : ∀ (s : Shared) (H : Hp) (C : Addr) (cl : List (Str × Addr)) (fp : List Addr), PG (X.blk s H scope (compEnvC scope cl C X.env) fp) tg gg)
    (a3 : ∀ (s : Shared) (H : Hp) (C : Addr) (cl : List (Str × Addr)) (fp : List Addr), L2.PTs (X.blk s H scope (compEnvC scope cl C X.env) fp) ifs tt)
    (a4 : ∀ (s : Shared) (H : Hp) (C : Addr) (cl : List (Str × Addr)) (fp : List Addr), PE (X.blk s H scope (compEnvC scope cl C X.env) fp) elt te) (hf : notSet iter = true)
    (a5 : ∀ σ H Q, LE B N (wpE P c) σ H Q → tLc wi gg tt te (ow.map (·.2)) σ H Q) :
    PS X (.Assign [.Name y py] (.ListComp elt [⟨tg, iter, ifs, 0⟩] scope lp) pos) (LS B N (wpS P (.asg (.name i) c))) := by
  obtain ⟨h1, h2, h3, h4⟩ := store_of g.c hs
  unfold swB at hsw
  simp only [Bool.and_eq_true, Bool.not_eq_true'] at hsw
  have hl : X.env.scope.names.lookup y = some .local := by rw [g.c.g.hsc]; exact hloc
  refine PS.imp (ps_setLc g.c.g.calm h1 h2 hl (sw_true g.kind hl hsw.1.2 hsw.2) a1 ok a2 a3 a4 (noFold hf _)) fun D σ H hw => a5 σ H _ ?_
  obtain ⟨S, env, F, fn, st, w, pn, pr⟩ := hw
  have w' : wpE P c env fun r env1 => storeW P.refs i r env1 fn.nx := w
  rw [g.c.refs] at w'
  refine ⟨S, env, F, _, st, w', fun r env1 v S1 H1 F1 fr k e1 st1 rel => ?_⟩
  obtain ⟨env2, S2, F2, k2, e2, st2⟩ := store_put st1 rel k
  exact pn _ _ _ _ _ k2 (e1.trans e2) st2

/-! changing -/
theorem pip_or {op : Operator} {r r' : TIp} (h : PIp X op r) (h' : PIp X op r') : PIp X op (fun x y H Q => r x y H Q ∨ r' x y H Q) := fun pins s σ H x y v u Q I a b q => q.elim (h pins s σ H x y v u Q I a b) (h' pins s σ H x y v u Q I a b)
theorem pset_or {r r' : TSet} (h : PSet X r) (h' : PSet X r') : PSet X (fun o i v H Q => r o i v H Q ∨ r' o i v H Q) := fun pins s σ H o i v ov iv u Q I a b c q => q.elim (h pins s σ H o i v ov iv u Q I a b c) (h' pins s σ H o i v ov iv u Q I a b c)
theorem ss_aug {i : Nat} {o : Op} {op : Operator} {x : Str} {px pos : Pos} {c : E} {e : Expr} (g : GS B cf P N X) (hs : storeB cf i x = true) (ho : chkAug o op = true) (he : PE X e (LE B N (wpE P c))) : PS X (.AugAssign (.Name x px) op e pos) (LS B N (wpS P (.aug i o c))) := by
  obtain ⟨h1, h2, h3, h4⟩ := store_of g.c hs
  cases o <;> first | (cases ho; done) | skip
  · cases op <;> first | (cases ho; done) | skip
    have hp : PIp X .Add (fun x y H Q => rI0 (fun i j => .int (i + j)) x y H Q ∨ ∃ i j, x = .str i ∧ y = .str j ∧ i.length + j.length ≤ sizeLine ∧ Q (.str (i ++ j)) H) := pip_or iop_add iop_add_str
    refine PS.imp (ps_aug h1 h2 h3 he hp h4) fun D σ H hw => ?_
    obtain ⟨S, env, F, fn, st, w, pn, pr⟩ := hw
    simp only [wpS] at w
    rw [g.c.refs] at w
    obtain ⟨hi, w⟩ := free_ok w
    split at w
    · rename_i x0 e0
      obtain ⟨v0, f1, f2⟩ := st.val i x0 e0
      refine ⟨v0, f1, S, env, F, _, st, w, fun r env1 v S1 H1 F1 fr k e1 st1 rel => ?_⟩
      obtain ⟨d, k, hv⟩ := peek_ok st1 rel k
      split at k
      · cases (show v0 = .int _ from f2); cases view_int hv
        exact .inl ⟨_, _, rfl, rfl, pn _ _ _ _ _ k e1 (st1.setV (d := .int _) hi rfl)⟩
      · cases (show v0 = .str _ from f2); cases view_str hv
        refine .inr ⟨_, _, rfl, rfl, by rw [str_len, str_len]; exact k.1, pn _ _ _ _ _ k.2 e1 (st1.setV (d := .str _) hi ?_)⟩
        rw [str_app]; rfl
      · exact k.elim
    · exact w.elim
  · cases op <;> first | (cases ho; done) | skip
    refine PS.imp (ps_aug h1 h2 h3 he (iop_sub : PIp X .Sub _) h4) fun D σ H hw => ?_
    obtain ⟨S, env, F, fn, st, w, pn, pr⟩ := hw
    simp only [wpS] at w
    rw [g.c.refs] at w
    obtain ⟨hi, w⟩ := free_ok w
    split at w
    · rename_i x0 e0
      obtain ⟨v0, f1, f2⟩ := st.val i x0 e0
      refine ⟨v0, f1, S, env, F, _, st, w, fun r env1 v S1 H1 F1 fr k e1 st1 rel => ?_⟩
      obtain ⟨d, k, hv⟩ := peek_ok st1 rel k
      split at k
      · cases (show v0 = .int _ from f2); cases view_int hv
        exact ⟨_, _, rfl, rfl, pn _ _ _ _ _ k e1 (st1.setV (d := .int _) hi rfl)⟩
      · exact k.elim
    · exact w.elim

theorem few_one {e : Expr} (h : notStar e = true) (cp : Pos) (env : PySem.Env) : ((backTo cp (starEach [e] env)).all (fun x => !x.1) && (backToKw cp (keywordEach [] env)).all (fun x => x.1.isSome)
      && decide (([e] : List Expr).length + ([] : List Keyword).length + (if ([] : List Keyword).isEmpty then 0 else 1) < 30)) = true := by
  rw [no_stars (es := [e]) (by unfold noStars; rw [h]; rfl) env]; rfl
theorem ss_append {i : Nat} {x : Str} {p ap cp pos : Pos} {c : E} {e : Expr} (g : GS B cf P N X) (h : slotB cf i x = true) (hl : (ap.endLine == cp.line) = true) (hn : notStar e = true) (he : PE X e (LE B N (wpE P c))) :
    PS X (.Expr (.Call (.Attribute (.Name x p) (Str.ofString "append") ap) [e] [] cp) pos) (LS B N (wpS P (.append i c))) := by
  obtain ⟨h1, h2, h3, h4⟩ := vis_of g.c h
  refine PS.imp (ps_expr (pe_bm PySem.F.plainAttrs_list PySem.F.slot_list_append PySem.F.type_list_append mt_append (pe_var h1 h2 h3 h4) (pa_cons he pa_nil (star_cons _ hn)) rfl (few_one hn _ _) hl (star_cons _ hn) (by rfl))) fun D σ H hw => ?_
  obtain ⟨S, env, F, fn, st, w, pn, pr⟩ := hw
  have w0 : isLst env i (wpE P c env fun r env1 => retain P.refs env1 r fun d env2 => match env2[i]? with
    | some (.ow (.lst ds)) => ds.length < sizeLine ∧ fn.nx (env2.set i (.ow (.lst (ds ++ [d]))))
    | _ => False) := w
  rw [g.c.refs] at w0
  obtain ⟨⟨ds0, e0⟩, w⟩ := isLst_get w0
  obtain ⟨a, e1, e2, xs, e3, e4⟩ := st.own i _ e0
  refine ⟨.ref a, e1, .inl ⟨rfl, xs, SqL.of e3⟩, ?_⟩
  refine ⟨S, env, F, _, st, w, fun r env1 v S1 H1 F1 fr k ee st1 rel => ?_⟩
  obtain ⟨d, env2, S2, F2, k2, e5, st2, rep⟩ := retain_ok st1 rel k
  split at k2
  · rename_i ds e6
    obtain ⟨a', f1, f2, ys, f3, f4⟩ := st2.own i _ e6
    rw [e1] at f1; cases f1
    refine ⟨a, ys, v, rfl, rfl, f3, by rw [f4.len]; exact k2.1, ?_⟩
    refine pn _ _ _ _ _ k2.2 (ee.trans e5) (st2.put e6 e1 ?_)
    exact ⟨f2, ys ++ [v], upd_same, f4.append (.one rep)⟩
  · exact k2.elim
theorem ss_extend {i : Nat} {x : Str} {p ap cp pos : Pos} {c : E} {e : Expr} (g : GS B cf P N X) (h : slotB cf i x = true) (hl : (ap.endLine == cp.line) = true) (hn : notStar e = true) (he : PE X e (LE B N (wpE P c))) :
    PS X (.Expr (.Call (.Attribute (.Name x p) (Str.ofString "extend") ap) [e] [] cp) pos) (LS B N (wpS P (.extend i c))) := by
  obtain ⟨h1, h2, h3, h4⟩ := vis_of g.c h
  refine PS.imp (ps_expr (pe_bm PySem.F.plainAttrs_list PySem.F.slot_list_extend PySem.F.type_list_extend mt_extend (pe_var h1 h2 h3 h4) (pa_cons he pa_nil (star_cons _ hn)) rfl (few_one hn _ _) hl (star_cons _ hn) (by rfl))) fun D σ H hw => ?_
  obtain ⟨S, env, F, fn, st, w, pn, pr⟩ := hw
  have w0 : isLst env i (wpE P c env fun r env1 => retain P.refs env1 r fun d env2 => match env2[i]?, d with
    | some (.ow (.lst ds)), .lst es => ds.length + es.length ≤ sizeLine ∧ fn.nx (env2.set i (.ow (.lst (ds ++ es))))
    | _, _ => False) := w
  rw [g.c.refs] at w0
  obtain ⟨⟨ds0, e0⟩, w⟩ := isLst_get w0
  obtain ⟨a, e1, e2, xs, e3, e4⟩ := st.own i _ e0
  refine ⟨.ref a, e1, .inl ⟨rfl, xs, SqL.of e3⟩, ?_⟩
  refine ⟨S, env, F, _, st, w, fun r env1 v S1 H1 F1 fr k ee st1 rel => ?_⟩
  obtain ⟨d, env2, S2, F2, k2, e5, st2, rep⟩ := retain_ok st1 rel k
  split at k2
  · rename_i ds es e6
    obtain ⟨a', f1, f2, ys, f3, f4⟩ := st2.own i _ e6
    rw [e1] at f1; cases f1
    unfold Rep at rep
    obtain ⟨b, zs, rfl, r1, r2⟩ := rep
    refine ⟨a, b, ys, zs, rfl, rfl, f3, st2.sub _ _ r1, by rw [f4.len, r2.len]; exact k2.1, ?_⟩
    refine pn _ _ _ _ _ k2.2 (ee.trans e5) (st2.put e6 e1 ?_)
    exact ⟨f2, ys ++ zs, upd_same, f4.append r2⟩
  · exact k2.elim
theorem any_keq {k : Key} : ∀ {kvs : List (Key × V)}, ((kvs.map fun p => kD p.1).any (keq (kD k))) = kvs.any fun kv => decide (kv.1 = k)
  | [] => rfl
  | (q, w) :: kvs => by
    rw [List.map_cons, List.any_cons, List.any_cons, any_keq]
    congr 1
    cases k with
    | inl i =>
      cases q with
      | inl j => simp [kD, keq]
      | inr x => simp [kD, keq]
    | inr y =>
      cases q with
      | inl j => simp [kD, keq]
      | inr x =>
        simp only [kD, keq, Sum.inr.injEq]
        by_cases e : x = y
        · simp [e]
        · rw [decide_eq_false e, decide_eq_false fun z => e (Str.ext' (Array.toList_inj.mp z))]
theorem keq_one {k q : Key} : keq (kD k) (kD q) = decide (q = k) := by
  have := any_keq (k := k) (kvs := [(q, V.non)])
  simpa using this
theorem dRep_ok {PK : PySem.W.Frag} {S : Hp} {k : Key} {d : D} {v : V} (hd : Rep PK S d v) : ∀ {kvs : List (Key × V)} {ds : List D}, RepL PK S ds (kvs.map (·.2)) → RepL PK S (dRep (kD k) d (kvs.map fun p => kD p.1) ds) ((kvs.map fun kv => if kv.1 = k then (kv.1, v) else kv).map (·.2))
  | [], ds, h => by
    cases ds with
    | nil => exact h
    | cons _ _ => unfold RepL at h; obtain ⟨_, _, h, _⟩ := h; cases h
  | (q, w) :: kvs, [], h => by unfold RepL at h; cases h
  | (q, w) :: kvs, e :: ds, h => by
    unfold RepL at h
    obtain ⟨v', r, e1, h1, h2⟩ := h
    cases e1
    show RepL PK S ((match keq (kD k) (kD q) with | true => d | false => e) :: dRep (kD k) d (kvs.map fun p => kD p.1) ds) ((if q = k then (q, v) else (q, w)).2 :: (kvs.map fun kv => if kv.1 = k then (kv.1, v) else kv).map (·.2))
    rw [keq_one]
    by_cases e : q = k
    · rw [decide_eq_true e, if_pos e]
      exact .cons hd (dRep_ok hd h2)
    · rw [decide_eq_false e, if_neg e]
      exact .cons h1 (dRep_ok hd h2)
theorem dPut_ok {PK : PySem.W.Frag} {S : Hp} {k : Key} {d : D} {v : V} (hd : Rep PK S d v) {kvs : List (Key × V)} {ds : List D} (h : RepL PK S ds (kvs.map (·.2))) :
    (dPut (kD k) d (kvs.map fun p => kD p.1) ds).1 = (putK kvs k v).map (fun p => kD p.1) ∧ RepL PK S (dPut (kD k) d (kvs.map fun p => kD p.1) ds).2 ((putK kvs k v).map (·.2)) := by
  unfold dPut putK
  rw [any_keq]
  cases q : kvs.any fun kv => decide (kv.1 = k) with
  | true =>
    rw [if_pos rfl]
    refine ⟨?_, dRep_ok hd h⟩
    rw [List.map_map]
    apply List.map_congr_left
    intro p _
    show kD p.1 = kD (if p.1 = k then (p.1, v) else p).1
    split <;> rfl
  | false =>
    rw [if_neg (by simp)]
    refine ⟨by simp, ?_⟩
    show RepL PK S (ds ++ [d]) ((kvs ++ [(k, v)]).map (·.2))
    rw [List.map_append]
    exact h.append (.one hd)
theorem ss_seti {i : Nat} {x : Str} {p sp pos : Pos} {kc c : E} {ke e : Expr} (g : GS B cf P N X) (h : slotB cf i x = true) (hn : notSlice ke = true) (hc : notComp e = true) (hk : PE X ke (LE B N (wpE P kc))) (he : PE X e (LE B N (wpE P c))) :
    PS X (.Assign [.Subscript (.Name x p) ke sp] e pos) (LS B N (wpS P (.seti i kc c))) := by
  obtain ⟨h1, h2, h3, h4⟩ := vis_of g.c h
  have hu := g.c.g.unit
  refine PS.imp (ps_asg he (pg_sub (pe_var h1 h2 h3 h4) (PE.st hk) (pset_or set_list (set_dict (by omega))) ?ha) (by show swapsWith e (some (.Subscript (.Name x p) ke sp)) pos.line X.env = pure false; exact not_sw hc _ _ _) ?hw) fun D σ H hw => ?_
  case ha => intro v; cases ke <;> first | rfl | (cases hn; done)
  case hw => cases e <;> rfl
  obtain ⟨S, env, F, fn, st, w, pn, pr⟩ := hw
  have w' : wpE P c env fun r env1 => retain P.refs env1 r fun d env2 => isOw env2 i <| wpE P kc env2 fun rk env3 => settle env3 rk fun rk env3 => peek env3 rk fun dk => match env3[i]?, dk with
    | some (.ow (.lst ds)), .int z => optW (ixN ds.length z) fun j => fn.nx (env3.set i (.ow (.lst (ds.set j d))))
    | some (.ow (.dic ks vs)), dk => (keyD dk).isSome = true ∧ ks.length < sizeLine ∧ fn.nx (env3.set i (.ow (.dic (dPut dk d ks vs).1 (dPut dk d ks vs).2)))
    | _, _ => False := w
  rw [g.c.refs] at w'
  refine ⟨S, env, F, _, st, w', fun r env1 v S1 H1 F1 fr k e1 st1 rel => ?_⟩
  obtain ⟨d, env2, S2, F2, k, e2, st2, rep⟩ := retain_ok st1 rel k
  obtain ⟨⟨o0, e0⟩, k⟩ := isOw_get k
  obtain ⟨a, q1, _⟩ := st2.own i _ e0
  refine ⟨.ref a, q1, S2, env2, F2, _, st2, k, fun rk env3 vk S3 H3 F3 k e3 st3 rel3 => ?_⟩
  obtain ⟨dk, k, hv⟩ := peek_view st3 rel3 k
  split at k
  · rename_i ds z e4
    cases view_int hv
    obtain ⟨j, hj, k⟩ := optW_get k
    obtain ⟨a', f1, f2, ys, f3, f4⟩ := st3.own i _ e4
    rw [q1] at f1; cases f1
    refine .inl ⟨a, ys, z, j, rfl, rfl, f3, by rw [f4.len]; exact hj, ?_⟩
    refine pn _ _ _ _ _ k (e1.trans (e2.trans e3)) (st3.put e4 q1 ?_)
    exact ⟨f2, ys.set j v, upd_same, f4.set (rep.mono e3) j⟩
  · rename_i dk' _ _ ks vs e4
    obtain ⟨k1, k2, k3⟩ := k
    obtain ⟨a', f1, f2, kvs, f3, f4, f5⟩ := st3.own i _ e4
    rw [q1] at f1; cases f1
    obtain ⟨q, hq⟩ := Option.isSome_iff_exists.mp k1
    cases view_key hq hv
    have hk : dk' = kD q := by
      cases dk' with
      | int i => cases hq; rfl
      | str s => cases hq; rfl
      | _ => cases hq
    subst hk
    subst f4
    obtain ⟨g1, g2⟩ := dPut_ok (k := q) (rep.mono e3) f5
    refine .inr ⟨a, _, rfl, DPut.k f3 (by simpa using k2), ?_⟩
    refine pn _ _ _ _ _ k3 (e1.trans (e2.trans e3)) (st3.put e4 q1 ?_)
    exact ⟨f2, _, upd_same, g1, g2⟩
  · exact k.elim
theorem ss_dtset {i j : Nat} {x y : Str} {p q sp pos : Pos} {c : E} {e : Expr} (g : GS B cf P N X) (hi : slotB cf i x = true) (hj : slotB cf j y = true) (hc : notComp e = true) (he : PE X e (LE B N (wpE P c))) :
    PS X (.Assign [.Subscript (.Name x p) (.Name y q) sp] e pos) (LS B N (wpS P (.dtset i j c))) := by
  obtain ⟨a1, a2, a3, a4⟩ := vis_of g.c hi
  obtain ⟨b1, b2, b3, b4⟩ := vis_of g.c hj
  have hu := g.c.g.unit
  refine PS.imp (ps_xput (by omega) (pe_var a1 a2 a3 a4) (pe_var b1 b2 b3 b4) he (by show swapsWith e (some (.Subscript (.Name x p) (.Name y q) sp)) pos.line X.env = pure false; exact not_sw hc _ _ _)) fun D σ H hw => ?_
  obtain ⟨S, env, F, fn, st, w, pn, pr⟩ := hw
  have w' : wpE P c env fun r env1 => retain P.refs env1 r fun d env2 => dtK env2 i j fun es k => es.length < sizeLine ∧ fn.nx (env2.set i (.ow (.dtp (dtPut es k d)))) := w
  rw [g.c.refs] at w'
  refine ⟨S, env, F, _, st, w', fun r env1 v S1 H1 F1 fr k e1 st1 rel => ?_⟩
  obtain ⟨d, env2, S2, F2, k, e2, st2, rep⟩ := retain_ok st1 rel k
  obtain ⟨es, ds, kk, h1, h2, h3, w2, w3⟩ := dtK_get k
  obtain ⟨a, b, r, f1, f2, xa, xr, hF, xs, g1, g2⟩ := dt_open g.c st2 h1 h2 h3
  refine ⟨_, f1, _, f2, a, b, r, kk, rfl, rfl, xa, by rw [xr_len xr]; exact w2, ?_⟩
  refine pn _ _ _ _ _ w3 (e1.trans e2) (st2.put h1 f1 ⟨hF, xPut r kk b v, ?_, xr_put xr kk ⟨xs, g1, g2⟩ rep⟩)
  rw [g.c.bpw.1, g.c.bpw.2]
  exact upd_same
/-- attributes stored -/
theorem any_names {s : List Nat} {fs : List (Str × V)} (h : ∀ q ∈ fs, q.1 ≠ ⟨s.toArray⟩) : (nmsF fs).any (keq (.str s)) = false := by
  induction fs with
  | nil => rfl
  | cons q fs ih =>
    show (keq (.str s) (.str (tl q.1)) || (nmsF fs).any (keq (.str s))) = false
    rw [keqs, decide_eq_false (h q (by simp)), ih fun r hr => h r (by simp [hr])]; rfl
theorem atR_put {K : PySem.W.Frag} {S H : Hp} {s : List Nat} {d : D} {v : V} (hd : Rep K S d v) (hf : isFz d = false) : ∀ {fs : List (Str × V)} {vs : List D} {os : List Addr}, (fs.map (·.1)).Nodup → AtR K S H vs (fs.map (·.2)) os → (∀ x, dAt (.str s) (nmsF fs) vs = some x → isFz x = false) →
    (dPut (.str s) d (nmsF fs) vs).1 = nmsF (putF (⟨s.toArray⟩ : Str) v fs) ∧ AtR K S H (dPut (.str s) d (nmsF fs) vs).2 ((putF (⟨s.toArray⟩ : Str) v fs).map (·.2)) os := by
  intro fs
  induction fs with
  | nil =>
    intro vs os _ hr _
    cases vs with
    | cons e vs => have := hr.len; simp at this
    | nil =>
      refine ⟨?_, ?_⟩
      · show [D.str s] = [D.str (tl ⟨s.toArray⟩)]
        rw [tl_str]
      · show AtR K S H [d] [v] os
        rw [atR_cons hf]
        exact ⟨v, [], rfl, hd, hr⟩
  | cons q fs ih =>
    intro vs os nd hr hz
    obtain ⟨f, x⟩ := q
    rw [List.map_cons, List.nodup_cons] at nd
    cases vs with
    | nil => have := hr.len; simp at this
    | cons e vs =>
      have hlen := hr.len
      simp only [List.length_map, List.length_cons] at hlen
      have pf : putF (⟨s.toArray⟩ : Str) v ((f, x) :: fs) = if f = ⟨s.toArray⟩ then (f, v) :: fs else (f, x) :: putF ⟨s.toArray⟩ v fs := rfl
      by_cases c : f = ⟨s.toArray⟩
      · rw [pf, if_pos c]
        have hze : isFz e = false := hz e (by rw [dAt_cons, if_pos c])
        rw [List.map_cons, atR_cons hze] at hr
        obtain ⟨w, r, e1, h1, h2⟩ := hr
        obtain ⟨rfl, rfl⟩ := List.cons.inj e1
        have ha : (nmsF ((f, x) :: fs)).any (keq (.str s)) = true := by
          show (keq (.str s) (.str (tl f)) || (nmsF fs).any (keq (.str s))) = true
          rw [keqs, decide_eq_true c]; rfl
        have no : ∀ q ∈ fs, q.1 ≠ ⟨s.toArray⟩ := fun q hq z => nd.1 (List.mem_map.mpr ⟨q, hq, z.trans c.symm⟩)
        unfold dPut
        rw [ha]
        refine ⟨rfl, ?_⟩
        show AtR K S H (dRep (.str s) d (nmsF ((f, x) :: fs)) (e :: vs)) (v :: fs.map (·.2)) os
        rw [dRep_cons, if_pos c, dRep_no no (by omega), atR_cons hf]
        exact ⟨v, _, rfl, hd, h2⟩
      · rw [pf, if_neg c]
        have ha : (nmsF ((f, x) :: fs)).any (keq (.str s)) = (nmsF fs).any (keq (.str s)) := by
          show (keq (.str s) (.str (tl f)) || (nmsF fs).any (keq (.str s))) = _
          rw [keqs, decide_eq_false c]; rfl
        have hz2 : ∀ x, dAt (.str s) (nmsF fs) vs = some x → isFz x = false := fun y hy => hz y (by rw [dAt_cons, if_neg c]; exact hy)
        -- the head stays
        have head : ∀ {vs2 : List D} {ws : List V}, (∀ os', AtR K S H vs (fs.map (·.2)) os' → AtR K S H vs2 ws os') → AtR K S H (e :: vs2) (x :: ws) os := fun {vs2 ws} g => by
          cases q : isFz e with
          | false =>
            rw [List.map_cons, atR_cons q] at hr
            obtain ⟨w, r, e1, h1, h2⟩ := hr
            obtain ⟨rfl, rfl⟩ := List.cons.inj e1
            rw [atR_cons q]
            exact ⟨x, _, rfl, h1, g _ h2⟩
          | true =>
            cases e with
            | fz es =>
              obtain ⟨w, r, b, os', xs, e1, e2, e3, h1, h2, h3⟩ := hr
              obtain ⟨rfl, rfl⟩ := List.cons.inj e1
              exact ⟨x, _, b, os', xs, rfl, e2, e3, h1, h2, g _ h3⟩
            | _ => cases q
        cases hany : (nmsF fs).any (keq (.str s)) with
        | true =>
          have e2 : dPut (.str s) d (nmsF ((f, x) :: fs)) (e :: vs) = (nmsF ((f, x) :: fs), e :: (dPut (.str s) d (nmsF fs) vs).2) := by
            unfold dPut
            rw [ha, hany]
            show (_, _) = (_, _)
            rw [dRep_cons, if_neg c]
          have e3 : (dPut (.str s) d (nmsF fs) vs).1 = nmsF fs := by unfold dPut; rw [hany]
          rw [e2]
          refine ⟨?_, head fun os' h => (ih nd.2 h hz2).2⟩
          obtain ⟨os', h'⟩ : ∃ os', AtR K S H vs (fs.map (·.2)) os' := by
            cases q : isFz e with
            | false =>
              rw [List.map_cons, atR_cons q] at hr
              obtain ⟨w, r, e1, h1, h2⟩ := hr
              obtain ⟨rfl, rfl⟩ := List.cons.inj e1
              exact ⟨_, h2⟩
            | true =>
              cases e with
              | fz es =>
                obtain ⟨w, r, b, os', xs, e1, e2, e3, h1, h2, h3⟩ := hr
                obtain ⟨rfl, rfl⟩ := List.cons.inj e1
                exact ⟨_, h3⟩
              | _ => cases q
          have := (ih nd.2 h' hz2).1
          rw [e3] at this
          show D.str (tl f) :: nmsF fs = D.str (tl f) :: nmsF (putF ⟨s.toArray⟩ v fs)
          rw [← this]
        | false =>
          have e2 : dPut (.str s) d (nmsF ((f, x) :: fs)) (e :: vs) = (D.str (tl f) :: (dPut (.str s) d (nmsF fs) vs).1, e :: (dPut (.str s) d (nmsF fs) vs).2) := by
            unfold dPut
            rw [ha, hany]
            rfl
          rw [e2]
          refine ⟨?_, head fun os' h => (ih nd.2 h hz2).2⟩
          obtain ⟨os', h'⟩ : ∃ os', AtR K S H vs (fs.map (·.2)) os' := by
            cases q : isFz e with
            | false =>
              rw [List.map_cons, atR_cons q] at hr
              obtain ⟨w, r, e1, h1, h2⟩ := hr
              obtain ⟨rfl, rfl⟩ := List.cons.inj e1
              exact ⟨_, h2⟩
            | true =>
              cases e with
              | fz es =>
                obtain ⟨w, r, b, os', xs, e1, e2, e3, h1, h2, h3⟩ := hr
                obtain ⟨rfl, rfl⟩ := List.cons.inj e1
                exact ⟨_, h3⟩
              | _ => cases q
          have := (ih nd.2 h' hz2).1
          show D.str (tl f) :: (dPut (.str s) d (nmsF fs) vs).1 = D.str (tl f) :: nmsF (putF ⟨s.toArray⟩ v fs)
          rw [this]
theorem nodup_putF {f : Str} {v : V} : ∀ {fs : List (Str × V)}, (fs.map (·.1)).Nodup → ((putF f v fs).map (·.1)).Nodup ∧ ∀ q ∈ putF f v fs, q.1 = f ∨ q ∈ fs
  | [], _ => ⟨by simp [putF], fun q hq => .inl (by rw [List.mem_singleton.mp hq])⟩
  | (g, x) :: fs, h => by
    rw [List.map_cons, List.nodup_cons] at h
    have pf : putF f v ((g, x) :: fs) = if g = f then (g, v) :: fs else (g, x) :: putF f v fs := rfl
    by_cases c : g = f
    · rw [pf, if_pos c]
      refine ⟨by rw [List.map_cons, List.nodup_cons]; exact h, fun q hq => ?_⟩
      rcases List.mem_cons.mp hq with rfl | hq
      · exact .inl c
      · exact .inr (List.mem_cons_of_mem _ hq)
    · rw [pf, if_neg c]
      obtain ⟨i1, i2⟩ := nodup_putF (f := f) (v := v) h.2
      refine ⟨?_, fun q hq => ?_⟩
      · rw [List.map_cons, List.nodup_cons]
        refine ⟨fun hm => ?_, i1⟩
        obtain ⟨q, hq, e⟩ := List.mem_map.mp hm
        rcases i2 q hq with z | z
        · exact c (e.symm.trans z)
        · exact h.1 (List.mem_map.mpr ⟨q, z, e⟩)
      · rcases List.mem_cons.mp hq with rfl | hq
        · exact .inr List.mem_cons_self
        · exact (i2 q hq).imp id (List.mem_cons_of_mem _)
/-- an object gets an attribute -/
theorem obj_put {σ : Sg} {env : Ev} {S H : Hp} {F : Nat → List Addr} {i : Nat} {c f : List Nat} {ks vs : List D} {d : D} {v : V} {a : Addr} (st : StOk B N σ env S H F) (e0 : env[i]? = some (.ow (.obj c (.dic ks vs)))) (ha : σ[i]? = some (some (.ref a))) (hf : (⟨f.toArray⟩ : Str) ∈ attrNames) (hd : Rep B.K S d v) (hz : okFz (dAt (.str f) ks vs) d) :
    ∃ C dx fs, H a = some (.ins C dx fs) ∧ ClsF B.K C ∧ fs.length = ks.length ∧ StOk B N σ (env.set i (.ow (.obj c (.dic (dPut (.str f) d ks vs).1 (dPut (.str f) d ks vs).2)))) S (upd H a (.ins C dx (putF ⟨f.toArray⟩ v fs))) F := by
  obtain ⟨a', f1, f2⟩ := st.own i _ e0
  rw [ha] at f1; cases f1
  obtain ⟨C, dx, fs, ks', vs', os, e1, m1, m2, m3, m4, m5, m6, m7, m8, m9, m10⟩ := id f2
  cases e1
  have hz1 : ∀ x, dAt (.str f) (nmsF fs) vs = some x → isFz x = false := fun x hx => by
    have := hz.1
    rw [m6] at this
    rw [show dAt (.str f) (fs.map fun q => D.str (tl q.1)) vs = some x from hx] at this
    exact this
  obtain ⟨g1, g2⟩ := atR_put (s := f) hd hz.2 m9 m7 hz1
  obtain ⟨n1, n2⟩ := nodup_putF (f := (⟨f.toArray⟩ : Str)) (v := v) m9
  have hne : dx ≠ a := by rintro rfl; rw [m4] at m5; cases m5
  have hos : ∀ b ∈ os, b ≠ a := fun b hb z => by
    obtain ⟨xs, ex⟩ := m7.live b hb
    rw [z, m4] at ex; cases ex
  refine ⟨C, dx, fs, m4, m2, by rw [m6, List.length_map], st.put e0 ha ?_⟩
  refine ⟨C, dx, putF ⟨f.toArray⟩ v fs, _, _, os, rfl, m1, m2, m3, upd_same, by rw [upd_ne hne]; exact m5, ?_, ?_, fun q hq => ?_, n1, m10⟩
  · rw [m6]; exact g1
  · rw [m6]; exact g2.map (fun _ _ r => r) fun b hb => upd_ne (hos b hb)
  · rcases n2 q hq with z | z
    · rw [z]; exact hf
    · exact m8 q z
theorem ss_seta {i : Nat} {f : List Nat} {x : Str} {p ap pos : Pos} {c : E} {e : Expr} (g : GS B cf P N X) (h : slotB cf i x = true) (hf : (⟨f.toArray⟩ : Str) ∈ attrNames) (hn : notComp e = true) (he : PE X e (LE B N (wpE P c))) :
    PS X (.Assign [.Attribute (.Name x p) ⟨f.toArray⟩ ap] e pos) (LS B N (wpS P (.seta i f c))) := by
  obtain ⟨h1, h2, h3, h4⟩ := vis_of g.c h
  refine PS.imp (ps_fld (pe_var h1 h2 h3 h4) he (not_sw hn _ _ _)) fun D σ H hw => ?_
  obtain ⟨S, env, F, fn, st, w, pn, pr⟩ := hw
  have w' : wpE P c env fun r env1 => retain P.refs env1 r fun d env2 => match env2[i]? with
    | some (.ow (.obj c (.dic ks vs))) => okFz (dAt (.str f) ks vs) d ∧ ks.length < 1000 ∧ fn.nx (env2.set i (.ow (.obj c (.dic (dPut (.str f) d ks vs).1 (dPut (.str f) d ks vs).2))))
    | _ => False := w
  rw [g.c.refs] at w'
  refine ⟨S, env, F, _, st, w', fun r env1 v S1 H1 F1 fr k e1 st1 rel => ?_⟩
  obtain ⟨d, env2, S2, F2, k, e2, st2, rep⟩ := retain_ok st1 rel k
  split at k
  · rename_i cc ks vs e0
    obtain ⟨a, q1, _⟩ := st2.own i _ e0
    obtain ⟨C, dx, fs, z1, z2, z3, st3⟩ := obj_put (f := f) st2 e0 q1 hf rep k.1
    refine ⟨.ref a, q1, a, C, dx, fs, rfl, z1, ?_, ?_, by rw [z3]; exact k.2.1, pn _ _ _ _ _ k.2.2 (e1.trans e2) st3⟩
    · rw [g.c.g.hK]; exact z2.c
    · rw [g.c.g.hK]; exact z2.n _ hf
  · exact k.elim
theorem ss_auga {i : Nat} {f : List Nat} {x : Str} {p ap pos : Pos} {c : E} {e : Expr} (g : GS B cf P N X) (h : slotB cf i x = true) (hf : (⟨f.toArray⟩ : Str) ∈ attrNames) (he : PE X e (LE B N (wpE P c))) :
    PS X (.AugAssign (.Attribute (.Name x p) ⟨f.toArray⟩ ap) .Add e pos) (LS B N (wpS P (.auga i f c))) := by
  obtain ⟨h1, h2, h3, h4⟩ := vis_of g.c h
  refine PS.imp (ps_fldaug (pe_var h1 h2 h3 h4) he in_add) fun D σ H hw => ?_
  obtain ⟨S, env, F, fn, st, w, pn, pr⟩ := hw
  simp only [wpS] at w
  split at w
  · rename_i c0 ks0 vs0 e0
    obtain ⟨d0, hd0, w2⟩ := optW_get w
    obtain ⟨a, q1, q2⟩ := st.own i _ e0
    obtain ⟨C, dx, fs, ks', vs', os, e1, m1, m2, m3, m4, m5, m6, m7, m8, m9, m10⟩ := q2
    cases e1
    subst m6
    obtain ⟨v0, v1, v2', v3⟩ := atR_get f m7 hd0
    refine ⟨.ref a, q1, a, C, dx, fs, v0, rfl, m4, by rw [g.c.g.hK]; exact m2.c, by rw [g.c.g.hK]; exact m2.n _ hf, v1, ?_⟩
    refine ⟨S, env, F, _, st, w2, fun r env1 v S1 H1 F1 fr k e1 st1 rel => ?_⟩
    obtain ⟨d, k, hv⟩ := peek_ok st1 rel k
    split at k
    · rename_i i0 i1 cc ks vs e3 _
      have v2 : v0 = .int i0 := by
        rcases v3 with ⟨_, z⟩ | ⟨_, _, _, z, _⟩
        · exact z
        · cases z
      subst v2
      cases view_int hv
      obtain ⟨a', q3, q4⟩ := st1.own i _ e3
      rw [q1] at q3
      cases q3
      obtain ⟨C', dx', fs', z1, z2, z3, st3⟩ := obj_put (f := f) (d := .int (i0 + i1)) (v := .int (i0 + i1)) st1 e3 q1 hf rfl k.2.1
      obtain ⟨kc, _, kl, kn⟩ := k
      subst kc
      have eC : C' = C := by
        obtain ⟨C2, dx2, fs2, _, _, _, _, y2, _, _, y5, _⟩ := q4
        rw [y5] at z1
        cases z1
        rw [m1] at y2
        cases y2; rfl
      subst eC
      exact ⟨_, _, rfl, rfl, dx', fs', z1, by rw [z3]; exact kl, pn _ _ _ _ _ kn e1 st3⟩
    · exact k.elim
  · exact w.elim
/-- a slot's object is another one of the same place -/
theorem StOk.reown {σ : Sg} {env : Ev} {S H H' : Hp} {F : Nat → List Addr} {i : Nat} {o o' : Own} {a : Addr} {fp : List Addr} (st : StOk B N σ env S H F) (e0 : env[i]? = some (.ow o)) (ha : σ[i]? = some (some (.ref a))) (h1 : ∀ x, x ∉ F i → H' x = H x) (h2 : ∀ x ∈ F i, H' x ≠ none)
    (h3 : ∀ x ∈ fp, S x = none ∧ H' x ≠ none ∧ (x ∈ F i ∨ (N.H0 x = none ∧ ∀ j, x ∉ F j))) (new : OwnRel B S H' o' a fp) : StOk B N σ (env.set i (.ow o')) S H' (fun j => if j = i then fp else F j) := by
  have hiL : i < env.length := (List.getElem?_eq_some_iff.mp e0).1
  refine ⟨st.s0, fun x y h => ?_, fun x y h nf => ?_, st.fresh, fun j d h => ?_, fun j o2 h => ?_, fun j x hx => ?_, fun j k x hj hk => ?_, st.pin, by simpa using st.len, st.wf, fun j x hx => ?_⟩
  · rw [h1 x fun z => by have := (st.priv i x z).1; rw [h] at this; cases this]
    exact st.sub _ _ h
  · rw [h1 x fun z => ?_]
    · exact st.frame x y h nf
    · rcases (st.priv i x z).2.2 with q | q
      · exact nf i q
      · rw [h] at q; cases q
  · by_cases hj : j = i
    · subst hj; rw [List.getElem?_set_self hiL] at h; cases h
    · rw [List.getElem?_set_ne (Ne.symm hj)] at h
      exact st.val j d h
  · by_cases hj : j = i
    · subst hj
      rw [List.getElem?_set_self hiL] at h
      cases h
      exact ⟨a, ha, by rw [if_pos rfl]; exact new⟩
    · rw [List.getElem?_set_ne (Ne.symm hj)] at h
      obtain ⟨w, w1, w2⟩ := st.own j o2 h
      refine ⟨w, w1, ?_⟩
      rw [if_neg hj]
      exact w2.stab (Same.refl _) fun x hx => h1 x fun z => hj (st.dj _ _ _ hx z)
  · by_cases hj : j = i
    · rw [if_pos hj] at hx
      obtain ⟨p1, p2, p3⟩ := h3 x hx
      refine ⟨p1, p2, ?_⟩
      rcases p3 with z | z
      · rw [hj]; exact (st.priv i x z).2.2
      · exact .inr z.1
    · rw [if_neg hj] at hx
      obtain ⟨q1, q2, q3⟩ := st.priv j x hx
      exact ⟨q1, by rw [h1 x fun z => hj (st.dj _ _ _ hx z)]; exact q2, q3⟩
  · have key : ∀ {j k : Nat}, j = i → k ≠ i → x ∈ fp → x ∉ F k := fun {j k} _ hk hx hxk => by
      rcases (h3 x hx).2.2 with z | z
      · exact hk (st.dj _ _ _ hxk z)
      · exact z.2 k hxk
    by_cases ej : j = i
    · rw [if_pos ej] at hj
      by_cases ek : k = i
      · rw [ej, ek]
      · rw [if_neg ek] at hk
        exact (key ej ek hj hk).elim
    · rw [if_neg ej] at hj
      by_cases ek : k = i
      · rw [if_pos ek] at hk
        exact (key ek ej hk hj).elim
      · rw [if_neg ek] at hk
        exact st.dj _ _ _ hj hk
  · by_cases z : x ∈ F i
    · exact h2 x z
    · rw [h1 x z]; exact st.f0 j x hx
theorem atR_snoc {K : PySem.W.Frag} {S H : Hp} {es : List D} {b : Addr} {xs : List V} (hb : H b = some (.lst xs)) (hr : RepL K S es xs) : ∀ {ds : List D} {vs : List V} {os : List Addr}, AtR K S H ds vs os → AtR K S H (ds ++ [.fz es]) (vs ++ [.ref b]) (os ++ [b])
  | [], vs, os, h => by
    obtain ⟨e1, e2⟩ := h
    subst e1 e2
    exact ⟨.ref b, [], b, [], xs, rfl, rfl, rfl, hb, hr, rfl, rfl⟩
  | d :: ds, vs, os, h => by
    cases q : isFz d with
    | false =>
      rw [atR_cons q] at h
      obtain ⟨v, r, e1, h1, h2⟩ := h
      subst e1
      rw [List.cons_append, atR_cons q]
      exact ⟨v, r ++ [.ref b], rfl, h1, atR_snoc hb hr h2⟩
    | true =>
      cases d with
      | fz es0 =>
        obtain ⟨v, r, b0, os', ys, e1, e2, e3, h1, h2, h3⟩ := h
        subst e1 e3
        exact ⟨v, r ++ [.ref b], b0, os' ++ [b], ys, rfl, e2, rfl, h1, h2, atR_snoc hb hr h3⟩
      | _ => cases q
theorem putF_new {f : Str} {v : V} : ∀ {fs : List (Str × V)}, (∀ q ∈ fs, q.1 ≠ f) → putF f v fs = fs ++ [(f, v)]
  | [], _ => rfl
  | (g, x) :: fs, h => by
    have pf : putF f v ((g, x) :: fs) = if g = f then (g, v) :: fs else (g, x) :: putF f v fs := rfl
    rw [pf, if_neg (h (g, x) (by simp)), putF_new fun q hq => h q (by simp [hq])]; rfl
theorem dAt_none {s : List Nat} : ∀ {fs : List (Str × V)} {vs : List D}, vs.length = fs.length → dAt (.str s) (nmsF fs) vs = none → ∀ q ∈ fs, q.1 ≠ ⟨s.toArray⟩
  | [], _, _, _, q, hq => by cases hq
  | (f, x) :: fs, [], h, _, _, _ => by cases h
  | (f, x) :: fs, e :: vs, hl, h, q, hq => by
    rw [dAt_cons] at h
    by_cases c : f = ⟨s.toArray⟩
    · rw [if_pos c] at h; cases h
    · rw [if_neg c] at h
      rcases List.mem_cons.mp hq with rfl | hq
      · exact c
      · exact dAt_none (by simpa using hl) h q hq
theorem ss_seto {i : Nat} {f : List Nat} {x : Str} {p ap pos : Pos} {c : E} {e : Expr} (g : GS B cf P N X) (h : slotB cf i x = true) (hf : (⟨f.toArray⟩ : Str) ∈ attrNames) (hn : notComp e = true) (he : PE X e (LE B N (wpE P c))) :
    PS X (.Assign [.Attribute (.Name x p) ⟨f.toArray⟩ ap] e pos) (LS B N (wpS P (.seto i f c))) := by
  obtain ⟨h1, h2, h3, h4⟩ := vis_of g.c h
  refine PS.imp (ps_fld (pe_var h1 h2 h3 h4) he (not_sw hn _ _ _)) fun D σ H hw => ?_
  obtain ⟨S, env, F, fn, st, w, pn, pr⟩ := hw
  have w' : wpE P c env fun r env1 => match r, env1[i]? with
    | .t (.lst es), some (.ow (.obj c (.dic ks vs))) => dAt (.str f) ks vs = none ∧ ks.length < 1000 ∧ fn.nx (env1.set i (.ow (.obj c (.dic (ks ++ [.str f]) (vs ++ [.fz es])))))
    | _, _ => False := w
  refine ⟨S, env, F, _, st, w', fun r env1 v S1 H1 F1 fr k e1 st1 rel => ?_⟩
  split at k
  · rename_i es cc ks vs e0
    obtain ⟨k1, k2, k3⟩ := k
    obtain ⟨b, rfl, ⟨hfr, xs, hb, hrep⟩, hpr⟩ := rel
    subst hfr
    obtain ⟨p1, p2, p3⟩ := hpr b (by simp)
    obtain ⟨a, q1, q2⟩ := st1.own i _ e0
    obtain ⟨C, dx, fs, ks', vs', os, e2, m1, m2, m3, m4, m5, m6, m7, m8, m9, m10⟩ := id q2
    cases e2
    subst m6
    have hlen := m7.len
    rw [List.length_map] at hlen
    have hno := dAt_none hlen.symm k1
    have haF : a ∈ F1 i := by rw [m3]; simp
    have hdF : dx ∈ F1 i := by rw [m3]; simp
    have hbF : ∀ j, b ∉ F1 j := p3
    have hba : b ≠ a := by rintro rfl; exact hbF i haF
    have hbd : b ≠ dx := by rintro rfl; exact hbF i hdF
    have hda : dx ≠ a := by rintro rfl; rw [m4] at m5; cases m5
    have hos : ∀ y ∈ os, y ≠ a := fun y hy z => by
      obtain ⟨zs, ez⟩ := m7.live y hy
      rw [z, m4] at ez; cases ez
    have st2 := st1.reown (o' := .obj cc (.dic (nmsF fs ++ [.str f]) (vs ++ [.fz es]))) (H' := upd H1 a (.ins C dx (putF ⟨f.toArray⟩ (.ref b) fs))) (fp := a :: dx :: (os ++ [b])) e0 q1 (fun y hy => upd_ne (by rintro rfl; exact hy haF)) (fun y hy => by
      by_cases z : y = a
      · rw [z, upd_same]; exact fun z => nomatch z
      · rw [upd_ne z]; exact (st1.priv i y hy).2.1) (fun y hy => by
      simp only [List.mem_cons, List.mem_append, List.not_mem_nil, or_false] at hy
      have old : y ∈ F1 i → S1 y = none ∧ upd H1 a (.ins C dx (putF ⟨f.toArray⟩ (.ref b) fs)) y ≠ none ∧ (y ∈ F1 i ∨ (N.H0 y = none ∧ ∀ j, y ∉ F1 j)) := fun hy => by
        refine ⟨(st1.priv i y hy).1, ?_, .inl hy⟩
        by_cases z : y = a
        · rw [z, upd_same]; exact fun z => nomatch z
        · rw [upd_ne z]; exact (st1.priv i y hy).2.1
      rcases hy with rfl | rfl | hy | rfl
      · exact old haF
      · exact old hdF
      · exact old (by rw [m3]; simp [hy])
      · exact ⟨p1, (by rw [upd_ne hba, hb]; exact fun z => nomatch z), .inr ⟨p2, hbF⟩⟩) (by
      refine ⟨C, dx, putF ⟨f.toArray⟩ (.ref b) fs, _, _, os ++ [b], rfl, m1, m2, rfl, upd_same, by rw [upd_ne hda]; exact m5, ?_, ?_, fun q hq => ?_, ?_, ?_⟩
      · rw [putF_new hno, List.map_append]
        show _ = _ ++ [Nf.D.str (tl ⟨f.toArray⟩)]
        rw [tl_str]
      · rw [putF_new hno, List.map_append]
        refine atR_snoc (by rw [upd_ne hba]; exact hb) hrep (m7.map (fun _ _ r => r) fun y hy => upd_ne (hos y hy))
      · rw [putF_new hno] at hq
        rcases List.mem_append.mp hq with hq | hq
        · exact m8 q hq
        · rw [List.mem_singleton.mp hq]; exact hf
      · exact (nodup_putF m9).1
      · rw [List.nodup_append]
        refine ⟨m10, by simp, fun y hy z hz => ?_⟩
        rw [List.mem_singleton.mp hz]
        rintro rfl
        exact hbF i (by rw [m3]; simp [hy]))
    refine ⟨.ref a, q1, a, C, dx, fs, rfl, m4, ?_, ?_, by have := k2; simpa using this, pn _ _ _ _ _ k3 e1 st2⟩
    · rw [g.c.g.hK]; exact m2.c
    · rw [g.c.g.hK]; exact m2.n _ hf
  · exact k.elim
theorem pe_shl {j : Nat} {e : Expr} (g : GC B cf P N X) (h : chkE cf (shlE j) e = true) : PE X e (fun σ H Q => ∃ n, σ[j]? = some (some (.int n)) ∧ CPow 2 n ∧ Q (.int (2 * 2 ^ n.toNat - 1)) H) := by
  unfold shlE at h
  simp only [chkE] at h
  split at h
  · rename_i es hes
    cases es with
    | nil => simp only [chkEs] at h; cases h
    | cons e1 es =>
      simp only [chkEs, Bool.and_eq_true] at h
      obtain ⟨h1, h2⟩ := h
      cases es with
      | nil => cases h2
      | cons e2 es =>
        simp only [Bool.and_eq_true] at h2
        obtain ⟨h2, h3⟩ := h2
        cases es with
        | cons _ _ => cases h3
        | nil =>
          simp only [chkE] at h1
          split at h1
          · rename_i fs hfs
            cases fs with
            | nil => simp only [chkEs] at h1; cases h1
            | cons f1 fs =>
              simp only [chkEs, Bool.and_eq_true] at h1
              obtain ⟨g1, g2⟩ := h1
              cases fs with
              | nil => cases g2
              | cons f2 fs =>
                simp only [Bool.and_eq_true] at g2
                obtain ⟨g2, g3⟩ := g2
                cases fs with
                | cons _ _ => cases g3
                | nil =>
                  have cint : ∀ {n : Int} {e : Expr}, constB (.int n) e = true → PE X e (fun σ H Q => Q (.int n) H) := by
                    intro n e h
                    cases e with
                    | Constant v k q =>
                      cases v with
                      | int m =>
                        have h' : decide (n = m) = true := h
                        cases of_decide_eq_true h'
                        exact pe_int
                      | _ => cases h
                    | _ => cases h
                  have c1 := cint (n := 2) (e := f1) (by simpa only [chkE] using g1)
                  have c2 := cint (n := 1) (e := e2) (by simpa only [chkE] using h2)
                  have v2 : PE X f2 (fun σ H Q => ∃ v, σ[j]? = some (some v) ∧ Q v H) := by
                    simp only [chkE] at g2
                    split at g2
                    · obtain ⟨a1, a2, a3, a4⟩ := vis_of g g2
                      exact pe_var a1 a2 a3 a4
                    · cases g2
                  have i1 := op_pe g.g hfs (ts := [_, _]) ⟨_, _, rfl, c1, _, _, rfl, v2, rfl⟩
                  have i2 := op_pe g.g hes (ts := [_, _]) ⟨_, _, rfl, i1, _, _, rfl, c2, rfl⟩
                  refine PE.imp i2 fun σ H Q hw => ?_
                  obtain ⟨n, hn, hp, q⟩ := hw
                  exact ⟨.int n, hn, 2, n, rfl, rfl, hp, _, _, rfl, rfl, q⟩
          · cases h1
  · cases h
theorem ss_appa {i j : Nat} {f : List Nat} {x : Str} {p gp ap cp pos : Pos} {e : Expr} (g : GS B cf P N X) (h : slotB cf i x = true) (hl : (ap.endLine == cp.line) = true) (hn : notStar e = true) (he : chkE cf (shlE j) e = true) :
    PS X (.Expr (.Call (.Attribute (.Attribute (.Name x p) ⟨f.toArray⟩ gp) (Str.ofString "append") ap) [e] [] cp) pos) (LS B N (wpS P (.appa i f j))) := by
  obtain ⟨h1, h2, h3, h4⟩ := vis_of g.c h
  refine PS.imp (ps_expr (pe_bm PySem.F.plainAttrs_list PySem.F.slot_list_append PySem.F.type_list_append mt_append (pe_fld (pe_var h1 h2 h3 h4) rfl) (pa_cons (pe_shl g.c he) pa_nil (star_cons _ hn)) rfl (few_one hn _ _) hl (star_cons _ hn) (by rfl))) fun D σ H hw => ?_
  obtain ⟨S, env, F, fn, st, w, pn, pr⟩ := hw
  simp only [wpS] at w
  split at w
  · rename_i c ks vs n e0 ej
    split at w
    · rename_i es hd
      obtain ⟨w1, w2, w3⟩ := w
      obtain ⟨a, q1, q2⟩ := st.own i _ e0
      obtain ⟨vj, j1, j2⟩ := st.val j _ ej
      have hvj : vj = .int n := j2
      subst hvj
      obtain ⟨C, dx, fs, ks', vs', os, e2, m1, m2, m3, m4, m5, m6, m7, m8, m9, m10⟩ := id q2
      cases e2
      subst m6
      obtain ⟨v, v1, v2, v3⟩ := atR_get f m7 hd
      obtain ⟨q, hq, eq⟩ := List.mem_map.mp v2
      rcases v3 with ⟨z, _⟩ | ⟨es', b, xs, z1, z2, z3, z4, z5⟩
      · cases z
      cases z1
      subst z2
      have hbF : b ∈ F i := by rw [m3]; simp [z3]
      have haF : a ∈ F i := by rw [m3]; simp
      have hdF : dx ∈ F i := by rw [m3]; simp
      have hab : a ≠ b := by rintro rfl; rw [m4] at z4; cases z4
      have hdb : dx ≠ b := by rintro rfl; rw [m5] at z4; cases z4
      refine ⟨.ref a, q1, a, C, dx, fs, .ref b, rfl, m4, by rw [g.c.g.hK]; exact m2.c, by rw [g.c.g.hK]; exact m2.n _ (by rw [← eq]; exact m8 q hq), v1, .inl ⟨rfl, xs, SqL.of z4⟩, n, j1, w1, b, xs, .int (2 * 2 ^ n.toNat - 1), rfl, rfl, z4, by rw [z5.len]; exact w2, ?_⟩
      refine pn _ _ _ _ _ w3 (Same.refl _) (st.reown (o' := .obj c (.dic (nmsF fs) (dRep (.str f) (.fz (es ++ [.int (2 * 2 ^ n.toNat - 1)])) (nmsF fs) vs))) (H' := upd H b (.lst (xs ++ [.int (2 * 2 ^ n.toNat - 1)]))) (fp := a :: dx :: os) e0 q1 (fun y hy => upd_ne (by rintro rfl; exact hy hbF)) (fun y hy => ?_) (fun y hy => ?_) ?_)
      · by_cases z : y = b
        · rw [z, upd_same]; exact fun z => nomatch z
        · rw [upd_ne z]; exact (st.priv i y hy).2.1
      · have hy' : y ∈ F i := by rw [m3]; exact hy
        refine ⟨(st.priv i y hy').1, ?_, .inl hy'⟩
        by_cases z : y = b
        · rw [z, upd_same]; exact fun z => nomatch z
        · rw [upd_ne z]; exact (st.priv i y hy').2.1
      · refine ⟨C, dx, fs, _, _, os, rfl, m1, m2, rfl, by rw [upd_ne hab]; exact m4, by rw [upd_ne hdb]; exact m5, rfl, ?_, m8, m9, m10⟩
        exact atR_rep (S' := S) (H' := upd H b (.lst (xs ++ [.int (2 * 2 ^ n.toNat - 1)]))) (y := .fz (es ++ [.int (2 * 2 ^ n.toNat - 1)])) f true (fun _ _ r => r) (fun ds r os' hr => by
          show AtR B.K S _ (.fz (es ++ [.int (2 * 2 ^ n.toNat - 1)]) :: ds) (.ref b :: r) (b :: os')
          exact ⟨.ref b, r, b, os', _, rfl, rfl, rfl, upd_same, z5.append (.one rfl), hr⟩) m9 m10 m7 hd v1 fun y hy hne => upd_ne hne
    · exact w.elim
  · exact w.elim
theorem ss_ex {pos : Pos} {c : E} {e : Expr} (hn : notComp e = true) (he : PE X e (LE B N (wpE P c))) : PS X (.Expr e pos) (LS B N (wpS P (.ex c))) := by
  refine PS.imp (ps_expr he (not_sw hn _ _ _)) fun D σ H hw => ?_
  obtain ⟨S, env, F, fn, st, w, pn, pr⟩ := hw
  exact ⟨S, env, F, _, st, w, fun r env1 v S1 H1 F1 fr k e1 st1 rel => pn _ _ _ _ _ k e1 st1⟩
theorem ss_ret {pos : Pos} {c : E} {e : Expr} (he : PE X e (LE B N (wpE P c))) : PS X (.Return (some e) pos) (LS B N (wpS P (.ret c))) := by
  refine PS.imp (ps_ret he) fun D σ H hw => ?_
  obtain ⟨S, env, F, fn, st, w, pn, pr⟩ := hw
  exact ⟨S, env, F, _, st, w, fun r env1 v S1 H1 F1 fr k e1 st1 rel => pr r _ v σ S1 H1 F1 fr k e1 st1 rel⟩
theorem ss_if {pos : Pos} {c : T} {a b : Ss} {c' : Expr} {a' b' : List Stmt} (hc : PT X c' (LT B N (wpT P c))) (ha : PSs X a' (LS B N (wpSs P a))) (hb : PSs X b' (LS B N (wpSs P b))) : PS X (.If c' a' b' pos) (LS B N (wpS P (.iff c a b))) := by
  refine PS.imp (ps_if hc ha hb) fun D σ H hw => ?_
  obtain ⟨S, env, F, fn, st, w, pn, pr⟩ := hw
  refine ⟨S, env, F, _, st, w, fun t env1 S1 H1 F1 k e1 st1 => ?_⟩
  cases t with
  | true => exact ⟨S1, env1, F1, fn, st1, k, fun env' σ' S' H' F' k e st' => pn _ _ _ _ _ k (e1.trans e) st', fun r env' v σ' S' H' F' fr k e st' rel => pr r _ v _ _ _ _ fr k (e1.trans e) st' rel⟩
  | false => exact ⟨S1, env1, F1, fn, st1, k, fun env' σ' S' H' F' k e st' => pn _ _ _ _ _ k (e1.trans e) st', fun r env' v σ' S' H' F' fr k e st' rel => pr r _ v _ _ _ _ fr k (e1.trans e) st' rel⟩
theorem ss_for {pos : Pos} {tg : Tg} {it : It} {b : Ss} {tg' it' : Expr} {b' : List Stmt} (g : GS B cf P N X) (hn : notSet it' = true) (hi : PI X tg' it' (LI B N (wpIt P it))) (hg : PG X tg' (LG B N (wpTg P.refs tg) (tgIs tg))) (hb : PSs X b' (LS B N (wpSs P b))) :
    PS X (.For tg' it' b' [] pos) (LS B N (wpS P (.loop tg it b))) := by
  refine PS.imp (ps_for g.own g.c.g.calm hi hg hb (noFold hn _)) fun D σ H hw => ?_
  obtain ⟨S, env, F, fn, st, w, pn, pr⟩ := hw
  refine ⟨S, env, F, _, st, w, fun ds env1 S1 H1 F1 J k e1 st1 fd => ?_⟩
  let Iv : Nat → Sg → Hp → Prop := fun i σ H => i ≤ ds.length ∧ ∃ env S F, Same S1 S ∧ StOk B N σ env S H F ∧ forW (wpTg P.refs tg) (wpSs P b) (ds.drop i) env fn
  refine ⟨fun i m σ H => m = ds.length - i ∧ Iv i σ H, ⟨ds.length, rfl, Nat.zero_le _, env1, S1, F1, Same.refl _, st1, k⟩, ?_⟩
  rintro i m σ2 H2 ⟨rfl, hle, env2, S2, F2, e2, st2, k2⟩
  obtain ⟨fs, fg⟩ := fd S2 H2 e2 st2.sub
  by_cases hlt : i < ds.length
  · right
    have hd : ds.drop i = ds[i] :: ds.drop (i + 1) := List.drop_eq_getElem_cons hlt
    rw [hd, forW_cons] at k2
    obtain ⟨go, yl⟩ := fg i ds[i] (List.getElem?_eq_getElem hlt)
    refine ⟨go, Iv (i + 1), fun σ' H' h => ⟨ds.length - (i + 1), by omega, rfl, h⟩, fun x H' y => ?_⟩
    obtain ⟨S3, e3, st3, rep3⟩ := fed_ok st2 (yl x H' y)
    refine ⟨S3, env2, F2, ds[i], _, st3, rep3, k2, fun σ4 env4 F4 k4 st4 _ _ => ?_⟩
    refine ⟨S3, env4, F4, _, st4, k4, fun env5 σ5 S5 H5 F5 k5 e5 st5 => ?_, fun r env5 v σ5 S5 H5 F5 fr k5 e5 st5 rel5 => ?_⟩
    · exact ⟨hlt, env5, S5, F5, e2.trans (e3.trans e5), st5, k5⟩
    · exact pr r _ v _ _ _ _ fr k5 (e1.trans (e2.trans (e3.trans e5))) st5 rel5
  · left
    have hi : i = ds.length := by omega
    subst hi
    rw [List.drop_length, forW_nil] at k2
    exact ⟨fs, pn _ _ _ _ _ k2 (e1.trans e2) st2⟩
theorem ss_while {pos : Pos} {c : T} {b : Ss} {c' : Expr} {b' : List Stmt} (g : GS B cf P N X) (hc : PT X c' (LT B N (wpT P c))) (hb : PSs X b' (LS B N (wpSs P b))) : PS X (.While c' b' [] pos) (LS B N (wpS P (.whl c b))) := by
  refine PS.imp (ps_while g.own hc hb) fun D σ H hw => ?_
  obtain ⟨S, env, F, fn, st, w, pn, pr⟩ := hw
  obtain ⟨W, ⟨m0, w0⟩, turn⟩ := w
  refine ⟨fun m σ H => ∃ env S' F, Same S S' ∧ StOk B N σ env S' H F ∧ W m env, ⟨m0, env, S, F, Same.refl _, st, w0⟩, ?_⟩
  rintro m σ1 H1 ⟨env1, S1, F1, e1, st1, w1⟩
  refine ⟨S1, env1, F1, _, st1, turn m env1 w1, fun t env2 S2 H2 F2 k e2 st2 => ?_⟩
  cases t with
  | true =>
    rw [if_pos rfl] at k ⊢
    refine ⟨fun σ' H' => ∃ env' S' F', Same S S' ∧ StOk B N σ' env' S' H' F' ∧ ∃ m', m' < m ∧ W m' env', fun σ' H' ⟨env', S', F', e', st', m', hm, w'⟩ => ⟨m', hm, env', S', F', e', st', w'⟩, S2, env2, F2, _, st2, k, fun env3 σ3 S3 H3 F3 k3 e3 st3 => ?_, fun r env3 v σ3 S3 H3 F3 fr k3 e3 st3 rel3 => ?_⟩
    · exact ⟨env3, S3, F3, e1.trans (e2.trans e3), st3, k3⟩
    · exact pr r _ v _ _ _ _ fr k3 (e1.trans (e2.trans e3)) st3 rel3
  | false =>
    rw [if_neg (by simp)] at k ⊢
    exact pn _ _ _ _ _ k (e1.trans e2) st2
theorem ss_raise {c : String} {m : Str} {j : Nat} {p p2 cp pos : Pos} (g : GS B cf P N X) (hx : c ∈ cf.xs) (hp : pOf c = none) (hg : glB cf.sc (Str.ofString c) = true) (hd : (Str.ofString c == ("__debug__" : Str)) = false) :
    PS X (.Raise (some (.Call (.Name (Str.ofString c) p) [.Constant (.str m) j p2] [] cp)) none pos) (LS B N (wpS P (.raise c))) := by
  have hx2 := g.xs c hx
  unfold XEnt at hx2
  rw [hp] at hx2
  obtain ⟨C, bmB, Bc, newId, initId, F, q, hm, hk, hr⟩ := hx2
  refine PS.imp (ps_raise g.c.g.calm g.tk (pmk_own F q hm hk hr (g.c.g.gl hg) hd)) fun D σ H hw => ?_
  obtain ⟨S, env, Fp, fn, st, w, pn, pr⟩ := hw
  exact ⟨c, C, w, hm, rfl, rfl, σ, env, S, Fp, st⟩
theorem ss_doc {x j p pos} : PS X (.Expr (.Constant (.str x) j p) pos) (LS B N (wpS P .doc)) := PS.imp ps_doc fun D σ H ⟨S, env, F, fn, st, w, pn, pr⟩ => pn _ _ _ _ _ w (Same.refl _) st
theorem ss_pass {pos} : PS X (.Pass pos) (LS B N (wpS P .pass)) := PS.imp ps_pass fun D σ H ⟨S, env, F, fn, st, w, pn, pr⟩ => pn _ _ _ _ _ w (Same.refl _) st

/-! try -/
theorem NameV.uniq {mg : Str → Option Value} {x : String} {u v : Value} (h : NameV mg x u) (k : NameV mg x v) : u = v := by
  rcases h with h | ⟨h1, h2, _⟩
  · rcases k with k | ⟨k1, k2, _⟩
    · rw [h] at k; cases k; rfl
    · rw [h] at k1; cases k1
  · rcases k with k | ⟨k1, k2, _⟩
    · rw [k] at h1; cases h1
    · rw [h2] at k2; cases k2; rfl
theorem pairs_of (g : GS B cf P N X) {cs xs : List String} (h : pairsB cf cs xs = true) {c : String} (hc : c ∈ cs) {x : String} (hx : x ∈ xs) : XP X.K X.mg c x := by
  have h1 := List.all_eq_true.mp (List.all_eq_true.mp h c hc) x hx
  obtain ⟨t, ht, h2⟩ := List.any_eq_true.mp h1
  simp only [Bool.and_eq_true, decide_eq_true_eq] at h2
  have h3 := g.xs t.1 (by simpa using h2.2)
  unfold XEnt at h3
  rw [h2.1] at h3
  exact h3
def Ent.sh (N : Ent) (S : Hp) : Ent := ⟨S, N.H0, N.F0, N.v0, N.refs⟩
theorem StOk.sh {σ : Sg} {env : Ev} {S H : Hp} {F : Nat → List Addr} (st : StOk B N σ env S H F) : StOk B (N.sh S) σ env S H F :=
  ⟨Same.refl _, st.sub, st.frame, fun b e _ => e, st.val, st.own, st.priv, st.dj, st.pin, st.len, st.wf, st.f0⟩
theorem StOk.unsh {σ σ' : Sg} {env env' : Ev} {S S' H H' : Hp} {F F' : Nat → List Addr} (st : StOk B N σ env S H F) (st' : StOk B (N.sh S) σ' env' S' H' F') : Same S S' ∧ StOk B N σ' env' S' H' F' :=
  ⟨st'.s0, st.s0.trans st'.s0, st'.sub, st'.frame, fun b e1 e2 => st'.fresh b (st.fresh b e1 e2) e2, st'.val, st'.own, st'.priv, st'.dj, st'.pin, st'.len, st'.wf, st'.f0⟩
theorem GS.try_ {ex : String → Prop} {S : Hp} {pn : List (Addr × Obj)} {xe : Value → Shared → Prop} (g : GS B cf P N X) (tk : Takes (X.tr pn xe) (fun cls d _ H => EXw B (P.tr ex) (N.sh S) X.mg cls d H)) (po : PassesOwn (model X.prog X.w) X.A X.env xe) : GS B cf (P.tr ex) (N.sh S) (X.tr pn xe) :=
  { c := { g := ⟨g.c.g.hK, g.c.g.hN, g.c.g.nd, g.c.g.hsc, g.c.g.calm, g.c.g.unit, g.c.g.blt, g.c.g.dbg⟩
           fb := g.c.fb
           refs := g.c.refs
           fns := g.c.fns
           bmg := g.c.bmg
           bpw := g.c.bpw
           gcs := g.c.gcs
           pas := passes_call tk fun _ _ _ _ h => h }
    kind := g.kind
    own := po
    tk := tk
    xs := g.xs
    stk := g.stk }
def tbTry (B : Base) (N : Ent) (X : Cx) (P : Prm) (exf : Ev → Fn → String → Prop) (b : Ss) (W : WX) : TS := fun D σ H => ∃ S env F fn, StOk B N σ env S H F ∧ (∀ cls d σ' H', σ'.length = X.N.length → EXw B (P.tr (exf env fn)) (N.sh S) X.mg cls d H' → W cls d σ' H') ∧ wpSs (P.tr (exf env fn)) b env fn ∧
  (∀ env' σ' S' H' F', fn.nx env' → Same S S' → StOk B N σ' env' S' H' F' → D.nx σ' H') ∧
  (∀ r env' v σ' S' H' F' fr, fn.rt r env' → Same S S' → StOk B N σ' env' S' H' F' → RelR B N σ' S' H' F' r v fr → D.rt v H')
theorem relR_sh {σ : Sg} {S S' H : Hp} {F : Nat → List Addr} {r : R} {v : V} {fr : List Addr} (h : RelR B (N.sh S) σ S' H F r v fr) : RelR B N σ S' H F r v fr := by
  cases r <;> exact h
theorem pss_try {exf : Ev → Fn → String → Prop} {b : Ss} {body : List Stmt} (g : GS B cf P N X) (hb : ∀ (ex : String → Prop) (N' : Ent) (X' : Cx), GS B cf (P.tr ex) N' X' → PSs X' body (LS B N' (wpSs (P.tr ex) b))) (W : WX) (pn : List (Addr × Obj)) (xe : Value → Shared → Prop) (tk : Takes (X.tr pn xe) W) (po : PassesOwn (model X.prog X.w) X.A X.env xe) : PSs (X.tr pn xe) body (tbTry B N X P exf b W) := by
  refine ⟨fun pins s σ H D I hw => ?_⟩
  obtain ⟨S, env, F, fn, st, hW, w, pn', pr⟩ := hw
  have gs := g.try_ (ex := exf env fn) (S := S) (takes_len tk fun cls d σ H hl h => hW cls d σ H hl h) po
  refine (hb _ _ _ gs).run pins s σ H D I ⟨S, env, F, fn, st.sh, w, fun env' σ' S' H' F' k _ st' => ?_, fun r env' v σ' S' H' F' fr k _ st' rel => ?_⟩
  · obtain ⟨e, st2⟩ := st.unsh st'
    exact pn' _ _ _ _ _ k e st2
  · obtain ⟨e, st2⟩ := st.unsh st'
    exact pr _ _ _ _ _ _ _ fr k e st2 (relR_sh rel)
theorem noE_get (env : Ev) (j : Nat) (s : Slot) {i : Nat} {t : Slot} (h : ((noE env).set j s)[i]? = some t) (ht : t ≠ .no) : i = j ∧ t = s := by
  by_cases e : j = i
  · subst e
    by_cases hl : j < (noE env).length
    · rw [List.getElem?_set_self hl] at h
      exact ⟨rfl, (Option.some.inj h).symm⟩
    · rw [List.getElem?_eq_none (by simpa using hl)] at h; cases h
  · rw [List.getElem?_set_ne e] at h
    unfold noE at h
    rw [List.getElem?_map] at h
    cases q : env[i]? with
    | none => rw [q] at h; cases h
    | some x => rw [q] at h; cases h; exact (ht rfl).elim
theorem repL_bls {K : PySem.W.Frag} {S : Hp} : ∀ (l : List Bool), RepL K S (l.map D.bl) (l.map V.bl)
  | [] => RepL.nil
  | b :: l => RepL.cons rfl (repL_bls l)
theorem names_of {h : String} {u : Value} (n : NameV X.mg h u) (hg : Gl X (Str.ofString h)) (hd : (Str.ofString h == ("__debug__" : Str)) = false) : Names X (Str.ofString h) u := by
  rcases n with n | ⟨n1, n2, n3⟩
  · exact ⟨hg, hd, .inl n⟩
  · exact ⟨hg, hd, .inr ⟨n1, n2, n3⟩⟩
theorem ss_tryc {j i : Nat} {h : String} {is ap cs : List String} {b : Ss} {body : List Stmt} {n o1 : Str} {iss : List Expr} {np p1 p2 p3 p4 cp apos p5 pos pos' : Pos} {ce : Expr} (g : GS B cf P N X)
    (hcl : clsB cf h (Str.ofString h) = true) (hn : cf.N[i]? = some n) (hlo : cf.sc.names.lookup n = some .local) (hst : storeB cf j o1 = true) (hsl : slotB cf j o1 = true) (hij : i ≠ j) (hl1 : isiLB cf i is iss = true) (hlen : is.length ≤ 1000) (hap : isiApB cf i ap ce = true) (hline : (apos.endLine == cp.line) = true) (hp : pairsB cf cs (h :: (is ++ ap)) = true) (hne : cs.isEmpty = false)
    (hb : ∀ (ex : String → Prop) (N' : Ent) (X' : Cx), GS B cf (P.tr ex) N' X' → PSs X' body (LS B N' (wpSs (P.tr ex) b))) :
    PS X (.Try body [.ExceptHandler (some (.Name (Str.ofString h) np)) (some n) [.Assign [.Name o1 p1] (.List iss p2) p3, .Expr (.Call (.Attribute (.Name o1 p4) (Str.ofString "append") apos) [ce] [] cp) p5] pos'] [] [] pos) (LS B N (wpS P (.tryc j i h is ap cs b))) := by
  refine ⟨fun pins s σ H D I hw => ?_⟩
  obtain ⟨S, env, F, fn, st, w, pn, pr⟩ := hw
  have w' : P.refs = [] ∧ wpSs (P.tr fun c => c ∈ cs ∧ isX c h = true ∧ fn.nx ((noE env).set j (tryV is ap c))) b env fn := w
  obtain ⟨hr, w⟩ := w'
  obtain ⟨c0, hc0⟩ : ∃ c, c ∈ cs := by
    cases cs with
    | nil => cases hne
    | cons c _ => exact ⟨c, by simp⟩
  obtain ⟨C0, v0, u, _, _, _, hu, _, _⟩ := pairs_of g hp hc0 (x := h) (by simp)
  obtain ⟨_, g1, g2⟩ := clsB_gl g.c hcl
  obtain ⟨hs1, hs2⟩ := g.stk
  have hXi : X.N[i]? = some n := by rw [g.c.g.hN]; exact hn
  have hlo' : X.env.kindOf n = some .local := by
    show X.env.scope.names.lookup n = some .local
    rw [g.c.g.hsc]; exact hlo
  have hil : i < X.N.length := (List.getElem?_eq_some_iff.mp hXi).1
  obtain ⟨v1, _, _, _⟩ := vis_of g.c hsl
  have hjl : j < X.N.length := (List.getElem?_eq_some_iff.mp v1).1
  have hst2 := hst
  unfold storeB at hst2
  simp only [Bool.and_eq_true] at hst2
  have hfn : X.fn o1 = true ∨ X.env.scope.names.lookup o1 = some .local := by
    rcases Bool.or_eq_true_iff.mp hst2.2 with z | z
    · exact .inl (g.c.fb _ z)
    · refine .inr ?_
      rw [g.c.g.hsc]
      split at z
      · assumption
      · cases z
  refine (ps_try_as (Wout := fun cls d _ H => EXw B P N X.mg cls d H) (tb := tbTry B N X P (fun env fn c => c ∈ cs ∧ isX c h = true ∧ fn.nx ((noE env).set j (tryV is ap c))) b) (ts := tsAs X i j is ap cs) hs1 hs2 (by rw [g.c.g.hN]; exact g.c.g.nd) hXi hlo' (names_of hu g1 g2) g.tk (fun W pn xe tk po => pss_try g hb W pn xe tk po)
    (fun a oe cls d pn hz hf => pss_as g.c (fun c hc C hC => ?_) hst hsl hst2.1.2 hfn hl1 hlen hap hline cls d hz hf)).run pins s σ H D I ⟨S, env, F, fn, st, fun cls d σ' H' hl hx => ?_, w, pn, pr⟩
  · have key : ∀ x ∈ is ++ ap, ∃ v u, ClsV v u ∧ NameV X.mg x u ∧ PySem.W.exmOne X.K (.ref C) u = some (isX c x) ∧ PySem.W.kitOne X.K (.ref C) u = some (isX c x) := fun x hx => by
      obtain ⟨C', v, u', q1, q2, q3, q4, q5, q6⟩ := pairs_of g hp hc (x := x) (List.mem_cons_of_mem _ hx)
      have e : C' = C := by rw [hC] at q1; cases q1; rfl
      subst e
      exact ⟨v, u', q3, q4, q5, q6⟩
    obtain ⟨C', v, u', q1, q2, _⟩ := pairs_of g hp hc (x := h) (by simp)
    have e : C' = C := by rw [hC] at q1; cases q1; rfl
    subst e
    exact ⟨q2, key⟩
  · obtain ⟨c, C, ⟨hc, hxh, kk⟩, hC, rfl, rfl, σ0, env0, S0, F0, st0⟩ := hx
    obtain ⟨e0, st1⟩ := st.unsh st0
    obtain ⟨C', v, u', q1, q2, q3, q4, q5, q6⟩ := pairs_of g hp hc (x := h) (by simp)
    have e : C' = C := by rw [hC] at q1; cases q1; rfl
    subst e
    have eu := hu.uniq q4
    subst eu
    refine ⟨true, by rw [q5, hxh], fun _ a ha => ?_, fun z => nomatch z⟩
    have l1 : (σ'.set i (some (V.ref a))).length = X.N.length := by rw [List.length_set]; exact hl
    refine ⟨c, C', hc, hC, rfl, rfl, List.getElem?_set_self (by omega), by omega, hij, fun l H2 hl2 hk hlst => ?_⟩
    have nl0 : S0 l = none := sub_none st1 hl2
    refine pn ((noE env).set j (tryV is ap c)) _ S0 H2 (fun q => if q = j then [l] else []) kk e0 ?_
    have mem : ∀ {q : Nat} {b : Addr}, b ∈ (if q = j then [l] else ([] : List Addr)) → q = j ∧ b = l := fun {q b} hb => by
      by_cases z : q = j
      · rw [if_pos z] at hb; exact ⟨z, by simpa using hb⟩
      · rw [if_neg z] at hb; cases hb
    refine ⟨st1.s0, fun b o e => hk _ _ (st1.sub _ _ e), fun b o e nf => hk _ _ (st1.frame b o e nf), st1.fresh, fun q d e => ?_, fun q o e => ?_, fun q b hb => ?_, fun q q' b h1 h2 => ?_, fun q hq => ?_, ?_, st1.wf, fun q b hb => ?_⟩
    · obtain ⟨_, z⟩ := noE_get env j _ e (fun z => nomatch z)
      cases z
    · obtain ⟨rfl, z⟩ := noE_get env j _ e (fun z => nomatch z)
      cases z
      refine ⟨l, ?_, ?_⟩
      · rw [List.getElem?_set_ne hij]
        exact List.getElem?_set_self (by omega)
      · refine ⟨by rw [if_pos rfl], _, hlst, ?_⟩
        have h1 := repL_bls (K := B.K) (S := S0) (is.map fun x => isX c x)
        rw [List.map_map, List.map_map] at h1
        exact h1.append (RepL.one rfl)
    · obtain ⟨_, rfl⟩ := mem hb
      exact ⟨nl0, by rw [hlst]; exact fun z => (nomatch z), .inr (h0_none st1 hl2)⟩
    · have a1 := (mem h1).1
      have b1 := (mem h2).1
      omega
    · rw [← g.c.refs, hr] at hq; cases hq
    · have : env.length = X.N.length := st.len.trans I.len
      rw [List.length_set, List.length_set, List.length_set, l1]
      show (env.map _).length = _
      rw [List.length_map, this]
    · cases q2' : H' b with
      | none => exact (st1.f0 q b hb q2').elim
      | some o => rw [hk _ _ q2']; exact fun z => nomatch z
/-- a call by names whose exceptions are seen at the same slots -/
theorem run_fnT {pins : List (Addr × Obj)} {CX : CXT} {k : Nat} {f : Addr} {fd : FuncData} {ps : List Str} {sp : Sp} {dvs : List V} {ds : List Value} {E : L2.St → XK} {σ : L2.St} {H : Hp} {s : Shared} {Q : VK} {us : List Value} {vs : List V} (F : FnOk X.prog X.w X.K X.mg X.base CX k f fd ps sp) (hr : Room k X.A) (hb : Binds X.K fd ps ds) (hd : Vals dvs ds) (hx : PassesAt CX X σ (E σ))
    (I : Inv X pins σ H s) (r : Vals vs us) (h : sp (vs ++ dvs) H Q (E σ)) : wpAny (model X.prog X.w) X.A (call (.ref f) us) (EP X pins σ Q) X.xe s := by
  have r2 : Vals (vs ++ dvs) (us ++ ds) := r.append hd
  have hl : (us ++ ds).length = ps.length := by rw [← r2.length]; exact F.len _ _ _ _ h
  refine wpAny_call (codeAny_mono (F.run X.A X.stack s H ⟨us, []⟩ (us ++ ds) (vs ++ dvs) Q (E σ) hr I.env0 (hb s us I.kIn hl) r2 h) fun r s' hq => ?_)
  cases r with
  | error e => exact hx pins H s e s' I hq
  | ok fl =>
    cases fl with
    | ret u => exact I.after hq
    | next => exact False.elim hq
    | brk => exact False.elim hq
    | cont => exact False.elim hq
def tCallT (sp : Sp) (dvs : List V) (E : L2.St → XK) (t : TA) : TE := fun σ H Q => t σ H fun vs H1 => sp (vs ++ dvs) H1 Q (E σ)
theorem pe_callT {CX : CXT} {k : Nat} {f : Addr} {fd : FuncData} {ps : List Str} {sp : Sp} {dvs : List V} {ds : List Value} {E : L2.St → XK} {x : Str} {p pos : Pos} {e : Expr} {es : List Expr} {t : TA} (F : FnOk X.prog X.w X.K X.mg X.base CX k f fd ps sp) (hr : Room k X.A) (hg : Gl X x) (hm : X.mg x = some (.ref f)) (hk : PySem.W.keepIn X.K (.ref f) = true) (hb : Binds X.K fd ps ds) (hd : Vals dvs ds) (hx : ∀ σ, PassesAt CX X σ (E σ))
    (ha : PA X (e :: es) t) (hdb : (x == ("__debug__" : Str)) = false := by decide) (he : starEach (e :: es) X.env = (false, eval e X.env) :: starEach es X.env := by rfl) (hpl : (backTo pos (starEach es X.env)).any (·.1) = false := by rfl) :
    PE X (.Call (.Name x p) (e :: es) [] pos) (tCallT sp dvs E t) := by
  refine ⟨fun pins s σ H Q I h => ?_⟩
  refine wpAny_Call_Name_kw (ld_glob I hg hm ?_ hdb)
  refine PySem.W.callWith_K (h₀ := X.base) I.ok.mod.kin hk (thn (ha.run pos pins s σ H _ I h) fun us s1 ⟨vs, H1, I1, r, q⟩ => ⟨I1.kIn, ?_⟩) he hpl
  exact run_fnT F hr hb hd (hx σ) I1 r q
/-- the heap has grown -/
theorem StOk.grown {σ : Sg} {env : Ev} {S H H2 : Hp} {F : Nat → List Addr} (st : StOk B N σ env S H F) (hk : ∀ b o, H b = some o → H2 b = some o) : StOk B N σ env S H2 F := by
  have eqH : ∀ b, H b ≠ none → H2 b = H b := fun b hb => by
    cases q : H b with
    | none => exact (hb q).elim
    | some o => exact hk _ _ q
  refine ⟨st.s0, fun b o e => hk _ _ (st.sub _ _ e), fun b o e nf => hk _ _ (st.frame b o e nf), st.fresh, st.val, fun i o e => ?_, fun i b hb => ?_, st.dj, st.pin, st.len, st.wf, fun i b hb => ?_⟩
  · obtain ⟨a, h1, h2⟩ := st.own i o e
    exact ⟨a, h1, h2.stab (Same.refl _) fun b hb => eqH b (st.priv i b hb).2.1⟩
  · obtain ⟨h1, h2, h3⟩ := st.priv i b hb
    exact ⟨h1, by rw [eqH b h2]; exact h2, h3⟩
  · have := st.f0 i b hb
    rw [eqH b this]; exact this
/-- a name that holds nothing known -/
theorem StOk.setN {i : Nat} {x : Option V} {σ : Sg} {env : Ev} {S H : Hp} {F : Nat → List Addr} (st : StOk B N σ env S H F) (hi : i ∉ N.refs) (e : env[i]? = some .no) : StOk B N (σ.set i x) env S H F := by
  have ne : ∀ {q : Nat} {t : Slot}, env[q]? = some t → t ≠ .no → (σ.set i x)[q]? = σ[q]? := fun {q t} h1 h2 => by
    refine List.getElem?_set_ne ?_
    rintro rfl
    rw [e] at h1
    exact h2 (Option.some.inj h1).symm
  refine ⟨st.s0, st.sub, st.frame, st.fresh, fun q d h => ?_, fun q o h => ?_, st.priv, st.dj, fun q hq => ?_, by rw [List.length_set]; exact st.len, st.wf, st.f0⟩
  · rw [ne h (fun z => nomatch z)]; exact st.val q d h
  · rw [ne h (fun z => nomatch z)]; exact st.own q o h
  · rw [List.getElem?_set_ne (by rintro rfl; exact hi hq)]; exact st.pin q hq
theorem ss_tryp {j i a b c0 : Nat} {f h : String} {is ap cs : List String} {n o1 x y z : Str} {iss : List Expr} {np p1 p2 p3 p4 cp apos p5 pos pos' q1 q2 q3 q4 q5 q6 : Pos} {ce : Expr} (g : GS B cf P N X)
    (hcl : clsB cf h (Str.ofString h) = true) (hn : cf.N[i]? = some n) (hlo : cf.sc.names.lookup n = some .local) (hst : storeB cf j o1 = true) (hsl : slotB cf j o1 = true) (hij : i ≠ j) (hl1 : isiLB cf i is iss = true) (hlen : is.length ≤ 1000) (hap : isiApB cf i ap ce = true) (hline : (apos.endLine == cp.line) = true) (hp : pairsB cf cs (h :: (is ++ ap)) = true) (hne : cs.isEmpty = false)
    (hgf : glB cf.sc (Str.ofString (nmOf f)) = true) (hdf : (Str.ofString (nmOf f) == ("__debug__" : Str)) = false) (hfs : f ∈ cf.fs) (hmt : mtOf f = none) (hkw : kwOf f = none) (ha : slotB cf a x = true) (hb : slotB cf b y = true) (hc : slotB cf c0 z = true) :
    PS X (.Try [.Expr (.Call (.Name (Str.ofString (nmOf f)) q1) [.Name x q2, .Name y q3, .Name z q4] [] q5) q6] [.ExceptHandler (some (.Name (Str.ofString h) np)) (some n) [.Assign [.Name o1 p1] (.List iss p2) p3, .Expr (.Call (.Attribute (.Name o1 p4) (Str.ofString "append") apos) [ce] [] cp) p5] pos'] [] [] pos) (LS B N (wpS P (.tryp j i h is ap cs f a b c0))) := by
  refine ⟨fun pins s σ H D I hw => ?_⟩
  obtain ⟨S, env, F, fn, st, w, pn, pr⟩ := hw
  have w' : P.refs = [] ∧ env[i]? = some .no ∧ shs3 env a b c0 fun x y z => P.cl f [.sh x, .sh y, .sh z] (trypO env j h is ap cs fn.nx) := w
  obtain ⟨hr, hno, w⟩ := w'
  obtain ⟨d1, d2, d3, e1, e2, e3, w⟩ := shs3_get w
  obtain ⟨c, hc0⟩ : ∃ c, c ∈ cs := by
    cases cs with
    | nil => cases hne
    | cons c _ => exact ⟨c, by simp⟩
  obtain ⟨C0, v0, u, _, _, _, hu, _, _⟩ := pairs_of g hp hc0 (x := h) (by simp)
  obtain ⟨_, g1, g2⟩ := clsB_gl g.c hcl
  obtain ⟨hs1, hs2⟩ := g.stk
  have hXi : X.N[i]? = some n := by rw [g.c.g.hN]; exact hn
  have hlo' : X.env.kindOf n = some .local := by
    show X.env.scope.names.lookup n = some .local
    rw [g.c.g.hsc]; exact hlo
  have hil : i < X.N.length := (List.getElem?_eq_some_iff.mp hXi).1
  obtain ⟨v1, _, _, _⟩ := vis_of g.c hsl
  have hjl : j < X.N.length := (List.getElem?_eq_some_iff.mp v1).1
  have hst2 := hst
  unfold storeB at hst2
  simp only [Bool.and_eq_true] at hst2
  have hfn : X.fn o1 = true ∨ X.env.scope.names.lookup o1 = some .local := by
    rcases Bool.or_eq_true_iff.mp hst2.2 with z | z
    · exact .inl (g.c.fb _ z)
    · refine .inr ?_
      rw [g.c.g.hsc]
      split at z
      · assumption
      · cases z
  obtain ⟨k, hroom, hany⟩ := g.c.fns f hfs
  obtain ⟨fa, fd, ps, hm, hk, hcase⟩ := hany.fn hmt
  rcases hcase with ⟨_, nn, dvs, ds, hbd, hv, hlenc, Fn⟩ | ⟨kw, _, _, hz, _⟩
  rotate_left
  · rw [hkw] at hz; cases hz
  obtain ⟨a1, a2, a3, a4⟩ := vis_of g.c ha
  obtain ⟨b1, b2, b3, b4⟩ := vis_of g.c hb
  obtain ⟨c1, c2, c3, c4⟩ := vis_of g.c hc
  obtain ⟨x1, s1, r1⟩ := st.val a d1 e1
  obtain ⟨x2, s2, r2⟩ := st.val b d2 e2
  obtain ⟨x3, s3, r3⟩ := st.val c0 d3 e3
  have hnr : ∀ q, q ∉ N.refs := fun q hq => by rw [← g.c.refs, hr] at hq; cases hq
  refine (ps_try_as (Wout := fun cls d _ H => EXw B P N X.mg cls d H) (tb := fun W D σ H => tCallT (spD B X.mg nn dvs (P.cl f)) dvs (L2.WE W) (tCons (tVar a) (tCons (tVar b) (tCons (tVar c0) tNil))) σ H fun _ H1 => D.nx σ H1) (ts := tsAs X i j is ap cs) hs1 hs2 (by rw [g.c.g.hN]; exact g.c.g.nd) hXi hlo' (names_of hu g1 g2) g.tk
    (fun W pn xe tk po => pss_cons (ps_expr (pe_callT (X := X.tr pn xe) Fn hroom (g.c.g.gl hgf) hm hk hbd hv (fun σ => passAt tk σ) (pa_cons (pe_var a1 a2 a3 a4) (pa_cons (pe_var b1 b2 b3 b4) (pa_cons (pe_var c1 c2 c3 c4) pa_nil (star_cons _ rfl)) (star_cons _ rfl)) (star_cons _ rfl)) hdf (star_cons _ rfl) rfl) (by rfl)) pss_nil)
    (fun a oe cls d pn hz hf => pss_as g.c (fun c hc C hC => ?_) hst hsl hst2.1.2 hfn hl1 hlen hap hline cls d hz hf)).run pins s σ H D I ?_
  · have key : ∀ x ∈ is ++ ap, ∃ v u, ClsV v u ∧ NameV X.mg x u ∧ PySem.W.exmOne X.K (.ref C) u = some (isX c x) ∧ PySem.W.kitOne X.K (.ref C) u = some (isX c x) := fun x hx => by
      obtain ⟨C', v, u', q1, q2, q3, q4, q5, q6⟩ := pairs_of g hp hc (x := x) (List.mem_cons_of_mem _ hx)
      have e : C' = C := by rw [hC] at q1; cases q1; rfl
      subst e
      exact ⟨v, u', q3, q4, q5, q6⟩
    obtain ⟨C', v, u', q1, q2, _⟩ := pairs_of g hp hc (x := h) (by simp)
    have e : C' = C := by rw [hC] at q1; cases q1; rfl
    subst e
    exact ⟨q2, key⟩
  · refine ⟨x1, s1, x2, s2, x3, s3, [x1, x2, x3], rfl, ?_⟩
    have rel : RelSs B σ S [.v d1, .v d2, .v d3] [x1, x2, x3] := ⟨x1, _, rfl, r1, x2, _, rfl, r2, x3, _, rfl, r3, rfl⟩
    obtain ⟨sl, w2, args⟩ := argsOf_ok (rf := []) (p := 0) (K := fun sl => P.cl f sl (trypO env j h is ap cs fn.nx)) st rel w
    refine call_core (WISH := fun _ e => e = env ∧ fn.nx env) hlenc st args rfl rfl rfl w2 (fun r outs ho => ?_) (fun r e S3 H' F3 fr v hw es st3 _ => ?_) fun c' ho => ⟨rfl, fun C S3 H' F3 hC es st3 => ?_⟩
    · cases outs with
      | nil => exact ⟨env, rfl, rfl, ho⟩
      | cons _ _ => exact (show False from ho).elim
    · obtain ⟨rfl, hw⟩ := hw
      exact pn _ _ _ _ _ hw es st3
    · obtain ⟨hc, hxh, kk⟩ := (show c' ∈ cs ∧ isX c' h = true ∧ fn.nx (env.set j (tryV is ap c')) from ho)
      obtain ⟨C', v, u', q1, q2, q3, q4, q5, q6⟩ := pairs_of g hp hc (x := h) (by simp)
      have e : C' = C := by rw [hC] at q1; cases q1; rfl
      subst e
      have eu := hu.uniq q4
      subst eu
      refine ⟨true, by rw [q5, hxh], fun _ a ha => ?_, fun z => nomatch z⟩
      have hσl : σ.length = X.N.length := I.len
      refine ⟨c', C', hc, hC, rfl, rfl, List.getElem?_set_self (by omega), by rw [List.length_set]; omega, hij, fun l H2 hl2 hk2 hlst => ?_⟩
      have st4 := (st3.setN (x := some (V.ref a)) (hnr i) hno).grown hk2
      have nl0 : S3 l = none := sub_none st3 hl2
      have st5 := st4.setO (i := j) (o := .lst (is.map (fun x => Nf.D.bl (isX c' x)) ++ [.bl (ap.any fun x => isX c' x)])) (v := V.ref l) (fr := [l]) (hnr j) ⟨l, rfl, ⟨rfl, _, hlst, ?_⟩, fun b hb => ?_⟩
      · exact pn _ _ _ _ _ kk es (st5.setN (x := none) (hnr i) (by rw [List.getElem?_set_ne (Ne.symm hij)]; exact hno))
      · have h1 := repL_bls (K := B.K) (S := S3) (is.map fun x => isX c' x)
        rw [List.map_map, List.map_map] at h1
        exact h1.append (RepL.one rfl)
      · have e : b = l := by simpa using hb
        subst e
        exact ⟨nl0, h0_none st3 hl2, fun q hq => st3.notF hl2 q hq⟩
theorem ss_tryn {j : Nat} {h : String} {cs : List String} {b : Ss} {body : List Stmt} {o1 : Str} {np p1 p2 p3 pos pos' : Pos} {q0 : Nat} (g : GS B cf P N X)
    (hcl : clsB cf h (Str.ofString h) = true) (hst : storeB cf j o1 = true) (hsl : slotB cf j o1 = true) (hp : pairsB cf cs [h] = true) (hne : cs.isEmpty = false)
    (hb : ∀ (ex : String → Prop) (N' : Ent) (X' : Cx), GS B cf (P.tr ex) N' X' → PSs X' body (LS B N' (wpSs (P.tr ex) b))) :
    PS X (.Try body [.ExceptHandler (some (.Name (Str.ofString h) np)) none [.Assign [.Name o1 p1] (.Constant .none q0 p2) p3] pos'] [] [] pos) (LS B N (wpS P (.tryn j h cs b))) := by
  refine ⟨fun pins s σ H D I hw => ?_⟩
  obtain ⟨S, env, F, fn, st, w, pn, pr⟩ := hw
  have w' : P.refs = [] ∧ wpSs (P.tr fun c => c ∈ cs ∧ isX c h = true ∧ fn.nx ((noE env).set j (.sh .non))) b env fn := w
  obtain ⟨hr, w⟩ := w'
  obtain ⟨c0, hc0⟩ : ∃ c, c ∈ cs := by
    cases cs with
    | nil => cases hne
    | cons c _ => exact ⟨c, by simp⟩
  obtain ⟨C0, v0, u, _, _, _, hu, _, _⟩ := pairs_of g hp hc0 (x := h) (by simp)
  obtain ⟨_, g1, g2⟩ := clsB_gl g.c hcl
  obtain ⟨hs1, hs2⟩ := g.stk
  obtain ⟨v1, _, _, _⟩ := vis_of g.c hsl
  have hjl : j < X.N.length := (List.getElem?_eq_some_iff.mp v1).1
  have hst2 := hst
  unfold storeB at hst2
  simp only [Bool.and_eq_true] at hst2
  have hfn : X.fn o1 = true ∨ X.env.scope.names.lookup o1 = some .local := by
    rcases Bool.or_eq_true_iff.mp hst2.2 with z | z
    · exact .inl (g.c.fb _ z)
    · refine .inr ?_
      rw [g.c.g.hsc]
      split at z
      · assumption
      · cases z
  refine (ps_try_only (Wout := fun cls d _ H => EXw B P N X.mg cls d H) (tb := tbTry B N X P (fun env fn c => c ∈ cs ∧ isX c h = true ∧ fn.nx ((noE env).set j (.sh .non))) b) (ts := tsNo X j cs) hs1 hs2 (names_of hu g1 g2) g.tk (fun W pn xe tk po => pss_try g hb W pn xe tk po)
    (fun a oe cls d pn hz hf => pss_no g.c hsl hst2.1.2 hfn cls d)).run pins s σ H D I ⟨S, env, F, fn, st, fun cls d σ' H' hl hx => ?_, w, pn, pr⟩
  obtain ⟨c, C, ⟨hc, hxh, kk⟩, hC, rfl, rfl, σ0, env0, S0, F0, st0⟩ := hx
  obtain ⟨e0, st1⟩ := st.unsh st0
  obtain ⟨C', v, u', q1, q2, q3, q4, q5, q6⟩ := pairs_of g hp hc (x := h) (by simp)
  have e : C' = C := by rw [hC] at q1; cases q1; rfl
  subst e
  have eu := hu.uniq q4
  subst eu
  refine ⟨true, by rw [q5, hxh], fun _ a ha => ?_, fun z => nomatch z⟩
  refine ⟨c, C', hc, hC, rfl, rfl, ?_⟩
  refine pn ((noE env).set j (.sh .non)) _ S0 H' (fun _ => []) kk e0 ?_
  refine ⟨st1.s0, st1.sub, st1.frame, st1.fresh, fun q d e => ?_, fun q o e => ?_, fun q b hb => (by cases hb), fun q q' b h1 h2 => (by cases h1), fun q hq => ?_, ?_, st1.wf, st1.f0⟩
  · obtain ⟨rfl, z⟩ := noE_get env j _ e (fun z => nomatch z)
    cases z
    exact ⟨.non, List.getElem?_set_self (by omega), rfl⟩
  · obtain ⟨_, z⟩ := noE_get env j _ e (fun z => nomatch z)
    cases z
  · rw [← g.c.refs, hr] at hq; cases hq
  · have : env.length = X.N.length := st.len.trans I.len
    rw [List.length_set, List.length_set, hl]
    show (env.map _).length = _
    rw [List.length_map, this]
theorem opArgs_comp {sc : Scope} {o : Op} {a b c d} : opArgs sc o (.ListComp a b c d) = none := by cases o <;> rfl
mutual
theorem soundS : ∀ (c : S) {P : Prm} {N : Ent} {X : Cx} {s : Stmt}, GS B cf P N X → chkS cf c s = true → PS X s (LS B N (wpS P c))
  | .asg tg c, P, N, X, s, g, h => by
    simp only [chkS] at h
    split at h
    · rename_i tg' e' pos
      simp only [Bool.and_eq_true] at h
      obtain ⟨⟨h1, h2⟩, h3⟩ := h
      have he := soundE c g.c h1
      split at h3
      · rename_i y py
        cases tg with
        | tup is => cases h2
        | name i =>
          have h2' : storeB cf i y = true := h2
          split at h3
          · -- a comprehension
            rename_i elt gs scope lp
            rw [Bool.and_eq_true, Bool.and_eq_true] at h3
            obtain ⟨h3, hnd⟩ := h3
            have hloc : cf.sc.names.lookup y = some .local := by
              have h4 := h3.2
              split at h4
              · assumption
              · cases h4
            cases c with
            | comp ec tg2 it cond own =>
              simp only [chkE] at h1
              split at h1
              · simp only [Bool.and_eq_true, decide_eq_true_eq] at h1
                obtain ⟨⟨⟨⟨⟨⟨⟨rfl, g1⟩, g2⟩, g3⟩, g4⟩, g5⟩, g6⟩, g7⟩ := h1
                have hsub : ∀ i ∈ tgIs tg2, i ∈ own := fun i hi => memN_true (List.all_eq_true.mp g2 i hi)
                have ok := blkOk_by g3
                rw [← g.c.g.hN, ← g.c.g.hsc] at ok
                rw [Bool.or_eq_true] at g4
                have g4 := g4.resolve_right fun z => notDk_no hnd z
                obtain ⟨a1, a2, a3, a4, a5⟩ := se_comp (pos := default) g.c ownP_snd ok hsub g1 (soundIt it g.c g4)
                  (fun s H C cl fp N' hr => sg_tg (P := P.inn) (g.c.blk hr) g5) (fun s H C cl fp N' hr => soundTo cond (g.c.blk hr) g6) (fun s H C cl fp N' hr => soundE ec (g.c.blk hr) g7)
                exact ss_comp g h2' hloc h3.1 a1 ok a2 a3 a4 g1 a5
              · cases h1
            | op o as => simp [chkE, opArgs_comp] at h1
            | cst d => cases d <;> simp [chkE, constB] at h1
            | _ => simp [chkE, mopArgs] at h1
          · cases h3
          · cases h3
          · rename_i n1 n2 n3
            refine ss_set g h2' he ?_
            cases e' <;> first
              | rfl
              | exact (n1 _ _ _ _ rfl).elim
              | exact (n2 _ _ _ _ rfl).elim
              | exact (n3 _ _ _ _ _ rfl).elim
      · cases tg with
        | name i => cases h2
        | tup is =>
          split at h3
          · cases h3
          · rename_i n1
            exact ss_tup g h2 he h3 n1
      · cases h3
    · cases h
  | .aug i o c, P, N, X, s, g, h => by
    simp only [chkS] at h
    split at h
    · simp only [Bool.and_eq_true] at h
      exact ss_aug g h.1.1.1 h.1.2 (soundE c g.c h.2)
    · cases h
  | .seti i k c, P, N, X, s, g, h => by
    simp only [chkS] at h
    split at h
    · simp only [Bool.and_eq_true] at h
      obtain ⟨⟨⟨⟨h1, h2⟩, h3⟩, h4⟩, h5⟩ := h
      exact ss_seti g h1 h2 h3 (soundE k g.c h4) (soundE c g.c h5)
    · cases h
  | .dtset i j c, P, N, X, s, g, h => by
    simp only [chkS] at h
    split at h
    · simp only [Bool.and_eq_true] at h
      obtain ⟨⟨⟨h1, h2⟩, h3⟩, h4⟩ := h
      exact ss_dtset g h1 h2 h3 (soundE c g.c h4)
    · cases h
  | .append i c, P, N, X, s, g, h => by
    simp only [chkS] at h
    split at h
    · simp only [Bool.and_eq_true, decide_eq_true_eq] at h
      obtain ⟨⟨⟨⟨rfl, h1⟩, h2⟩, h3⟩, h4⟩ := h
      exact ss_append g h1 h2 h3 (soundE c g.c h4)
    · cases h
  | .extend i c, P, N, X, s, g, h => by
    simp only [chkS] at h
    split at h
    · simp only [Bool.and_eq_true, decide_eq_true_eq] at h
      obtain ⟨⟨⟨⟨rfl, h1⟩, h2⟩, h3⟩, h4⟩ := h
      exact ss_extend g h1 h2 h3 (soundE c g.c h4)
    · cases h
  | .ex c, P, N, X, s, g, h => by
    simp only [chkS] at h
    split at h
    · rw [Bool.and_eq_true] at h
      exact ss_ex h.1 (soundE c g.c h.2)
    · cases h
  | .iff c a b, P, N, X, s, g, h => by
    simp only [chkS] at h
    split at h
    · simp only [Bool.and_eq_true] at h
      exact ss_if (soundT c g.c h.1.1) (soundSs a g h.1.2) (soundSs b g h.2)
    · cases h
  | .loop tg it b, P, N, X, s, g, h => by
    simp only [chkS] at h
    split at h
    · simp only [Bool.and_eq_true] at h
      exact ss_for g h.1.1.1 (soundIt it g.c h.1.1.2) (sg_tg g.c h.1.2) (soundSs b g h.2)
    · cases h
  | .whl c b, P, N, X, s, g, h => by
    simp only [chkS] at h
    split at h
    · simp only [Bool.and_eq_true] at h
      exact ss_while g (soundT c g.c h.1) (soundSs b g h.2)
    · cases h
  | .ret c, P, N, X, s, g, h => by
    simp only [chkS] at h
    split at h
    · exact ss_ret (soundE c g.c h)
    · cases h
  | .raise c, P, N, X, s, g, h => by
    simp only [chkS] at h
    split at h
    · simp only [Bool.and_eq_true, decide_eq_true_eq, Bool.not_eq_true'] at h
      obtain ⟨⟨⟨⟨rfl, h1⟩, h2⟩, h3⟩, h4⟩ := h
      exact ss_raise g (by simpa using h3) (by simpa using h4) h1 h2
    · cases h
  | .seta i f c, P, N, X, s, g, h => by
    simp only [chkS] at h
    split at h
    · simp only [Bool.and_eq_true, decide_eq_true_eq] at h
      obtain ⟨⟨⟨⟨h1, rfl⟩, h2⟩, h3⟩, h4⟩ := h
      exact ss_seta g h1 h2 h3 (soundE c g.c h4)
    · cases h
  | .seto i f c, P, N, X, s, g, h => by
    simp only [chkS] at h
    split at h
    · simp only [Bool.and_eq_true, decide_eq_true_eq] at h
      obtain ⟨⟨⟨⟨h1, rfl⟩, h2⟩, h3⟩, h4⟩ := h
      exact ss_seto g h1 h2 h3 (soundE c g.c h4)
    · cases h
  | .appa i f j, P, N, X, s, g, h => by
    simp only [chkS] at h
    split at h
    · simp only [Bool.and_eq_true, decide_eq_true_eq] at h
      obtain ⟨⟨⟨⟨⟨rfl, h1⟩, rfl⟩, h2⟩, h3⟩, h4⟩ := h
      exact ss_appa g h1 h2 h3 h4
    · cases h
  | .auga i f c, P, N, X, s, g, h => by
    simp only [chkS] at h
    split at h
    · simp only [Bool.and_eq_true, decide_eq_true_eq] at h
      obtain ⟨⟨⟨h1, rfl⟩, h2⟩, h3⟩ := h
      exact ss_auga g h1 h2 (soundE c g.c h3)
    · cases h
  | .tryp j i h0 is ap cs f a b c, P, N, X, s, g, h => by
    simp only [chkS] at h
    split at h
    · simp only [Bool.and_eq_true, decide_eq_true_eq, Bool.not_eq_true', Option.isNone_iff_eq_none] at h
      obtain ⟨⟨⟨⟨⟨⟨⟨⟨⟨⟨⟨⟨⟨⟨⟨⟨⟨⟨⟨⟨⟨⟨rfl, h1⟩, h2⟩, h3⟩, h4⟩, h5⟩, rfl⟩, h7⟩, h8⟩, h9⟩, h10⟩, h11⟩, h12⟩, h13⟩, rfl⟩, h15⟩, h16⟩, h17⟩, h18⟩, h19⟩, h20⟩, h21⟩, h22⟩ := h
      have hh := (clsB_gl g.c h1).1
      subst hh
      have h3' : ∀ {n : Str}, (match cf.sc.names.lookup n with | some .local => true | _ => false) = true → cf.sc.names.lookup n = some .local := fun {n} z => by
        split at z
        · assumption
        · cases z
      exact ss_tryp g h1 h2 (h3' h3) h4 h5 h7 h8 h9 h10 h11 h12 h13 h15 h16 (by simpa using h17) h18 h19 h20 h21 h22
    · cases h
  | .tryc j i h0 is ap cs b, P, N, X, s, g, h => by
    simp only [chkS] at h
    split at h
    · rename_i body hx np n o1 p1 iss p2 p3 o2 p4 m apos ce cp p5 pos' pos
      simp only [Bool.and_eq_true, decide_eq_true_eq, Bool.not_eq_true'] at h
      obtain ⟨⟨⟨⟨⟨⟨⟨⟨⟨⟨⟨⟨⟨⟨rfl, h1⟩, h2⟩, h3⟩, h4⟩, h5⟩, rfl⟩, h7⟩, h8⟩, h9⟩, h10⟩, h11⟩, h12⟩, h13⟩, h14⟩ := h
      have e := (clsB_gl g.c h1).1
      subst e
      have h3' : cf.sc.names.lookup n = some .local := by
        split at h3
        · assumption
        · cases h3
      exact ss_tryc g h1 h2 h3' h4 h5 h7 h8 h9 h10 h11 h12 h13 (fun ex N' X' g' => soundSs b g' h14)
    · cases h
  | .tryn j h0 cs b, P, N, X, s, g, h => by
    simp only [chkS] at h
    split at h
    · rename_i body hx np o1 p1 q0 p2 p3 pos' pos
      simp only [Bool.and_eq_true, Bool.not_eq_true'] at h
      obtain ⟨⟨⟨⟨⟨h1, h2⟩, h3⟩, h4⟩, h5⟩, h6⟩ := h
      have e := (clsB_gl g.c h1).1
      subst e
      exact ss_tryn g h1 h2 h3 h4 h5 (fun ex N' X' g' => soundSs b g' h6)
    · cases h
  | .doc, P, N, X, s, g, h => by
    simp only [chkS] at h
    split at h
    · exact ss_doc
    · cases h
  | .pass, P, N, X, s, g, h => by
    simp only [chkS] at h
    split at h
    · exact ss_pass
    · cases h
theorem soundSs : ∀ (c : Ss) {P : Prm} {N : Ent} {X : Cx} {s : List Stmt}, GS B cf P N X → chkSs cf c s = true → PSs X s (LS B N (wpSs P c))
  | .nil, P, N, X, s, g, h => by
    simp only [chkSs] at h
    split at h
    · exact PSs.imp pss_nil fun D σ H ⟨S, env, F, fn, st, w, pn, pr⟩ => pn _ _ _ _ _ w (Same.refl _) st
    · cases h
  | .cons c cs, P, N, X, s, g, h => by
    simp only [chkSs] at h
    split at h
    · rw [Bool.and_eq_true] at h
      refine PSs.imp (pss_cons (soundS c g h.1) (soundSs cs g h.2)) fun D σ H hw => ?_
      obtain ⟨S, env, F, fn, st, w, pn, pr⟩ := hw
      refine ⟨S, env, F, _, st, w, fun env1 σ1 S1 H1 F1 k e1 st1 => ?_, fun r env' v σ' S' H' F' fr k e st' rel => pr r _ v _ _ _ _ fr k e st' rel⟩
      exact ⟨S1, env1, F1, fn, st1, k, fun env' σ' S' H' F' k e st' => pn _ _ _ _ _ k (e1.trans e) st', fun r env' v σ' S' H' F' fr k e st' rel => pr r _ v _ _ _ _ fr k (e1.trans e) st' rel⟩
    · cases h
end
end
end Nf
/-! a def keeps its promise -/
namespace Nf
open PySem PySem.Spec L2
section
variable {B : Base} {N : Ent} {σ : Sg} {env : Ev} {S H : Hp} {F : Nat → List Addr}
theorem outsOf_get : ∀ {is : List Nat} {env : Ev} {K : List Own → Prop}, outsOf env is K → ∃ outs, OutsAre env is outs ∧ K outs
  | [], env, K, h => ⟨[], rfl, h⟩
  | i :: is, env, K, h => by
    unfold outsOf at h
    split at h
    · rename_i o e
      obtain ⟨outs, h1, h2⟩ := outsOf_get h
      exact ⟨o :: outs, ⟨o, outs, rfl, e, h1⟩, h2⟩
    · exact h.elim
theorem OutsAre.other {i : Nat} {s : Slot} : ∀ {is : List Nat} {env : Ev} {outs : List Own}, i ∉ is → OutsAre env is outs → OutsAre (env.set i s) is outs
  | [], _, _, _, h => h
  | j :: is, env, outs, hi, ⟨o, r, e, h1, h2⟩ => ⟨o, r, e, by rw [List.getElem?_set_ne (by rintro rfl; exact hi List.mem_cons_self)]; exact h1, h2.other fun z => hi (List.mem_cons_of_mem _ z)⟩
/-- the object in a slot is taken out -/
theorem StOk.take {i : Nat} {o : Own} {v : V} (st : StOk B N σ env S H F) (e : env[i]? = some (.ow o)) (hi : i ∉ N.refs) (hv : σ[i]? = some (some v)) :
    StOk B N σ (env.set i .no) S H (fun j => if j = i then [] else F j) ∧ RelR B N σ S H (fun j => if j = i then [] else F j) (.t o) v (F i) := by
  obtain ⟨a, h1, h2⟩ := st.own i o e
  rw [hv] at h1; cases h1
  have mem : ∀ {j : Nat} {b : Addr}, b ∈ (if j = i then [] else F j) → j ≠ i ∧ b ∈ F j := fun {j b} hb => by
    by_cases hj : j = i
    · rw [if_pos hj] at hb; cases hb
    · rw [if_neg hj] at hb; exact ⟨hj, hb⟩
  have hl : i < env.length := (List.getElem?_eq_some_iff.mp e).1
  refine ⟨⟨st.s0, st.sub, st.frame, st.fresh, fun j d q => ?_, fun j o' q => ?_, fun j b hb => st.priv j b (mem hb).2, fun j k b h3 h4 => st.dj j k b (mem h3).2 (mem h4).2, st.pin, by simpa using st.len, st.wf, st.f0⟩, a, rfl, h2, fun b hb => ?_⟩
  · by_cases hj : j = i
    · subst hj; rw [List.getElem?_set_self hl] at q; cases q
    · rw [List.getElem?_set_ne (Ne.symm hj)] at q; exact st.val j d q
  · by_cases hj : j = i
    · subst hj; rw [List.getElem?_set_self hl] at q; cases q
    · rw [List.getElem?_set_ne (Ne.symm hj)] at q
      obtain ⟨w, g1, g2⟩ := st.own j o' q
      exact ⟨w, g1, by rw [if_neg hj]; exact g2⟩
  · obtain ⟨p1, p2, p3⟩ := st.priv i b hb
    refine ⟨p1, ?_, fun j hj => ?_⟩
    · rcases p3 with z | z
      · rw [st.wf i hi] at z; cases z
      · exact z
    · obtain ⟨n, m⟩ := mem hj
      exact n (st.dj _ _ _ m hb)
theorem StOk.begin {n : Nat} {xs : List (Option V)} {as : List Slot} (st : StOk B N xs as S H F) (hr : ∀ j ∈ N.refs, j < as.length) : StOk B N (xs ++ List.replicate n none) (as ++ List.replicate n .no) S H F := by
  have hl := st.len
  refine ⟨st.s0, st.sub, st.frame, st.fresh, fun j d q => ?_, fun j o q => ?_, st.priv, st.dj, fun j hj => ?_, by simp [hl], st.wf, st.f0⟩
  · by_cases hj : j < as.length
    · rw [List.getElem?_append_left hj] at q
      rw [List.getElem?_append_left (by rw [← hl]; exact hj)]
      exact st.val j d q
    · rw [List.getElem?_append_right (by omega), List.getElem?_replicate] at q
      split at q <;> cases q
  · by_cases hj : j < as.length
    · rw [List.getElem?_append_left hj] at q
      rw [List.getElem?_append_left (by rw [← hl]; exact hj)]
      exact st.own j o q
    · rw [List.getElem?_append_right (by omega), List.getElem?_replicate] at q
      split at q <;> cases q
  · rw [List.getElem?_append_left (by rw [← hl]; exact hr j hj)]
    exact st.pin j hj
end

/-- the facts that a program's top has left -/
structure Top (P : Program) (w : World) (B : Base) (mg : Str → Option Value) (gc : String → Option D) : Prop where
  blt : ∀ s, s ∈ bnames → mg (Str.ofString s) = none
  gcs : ∀ x d, gc x = some d → GcOk B.K w mg x d
  bmg : B.mg = mg
  bpw : B.P = P ∧ B.w = w
/-- a class of exceptions -/
def ExcF0 (K : PySem.W.Frag) (mg : Str → Option Value) (c : String) : Prop := ∃ C bmB Bc newId initId, ExcBaseFacts Bc newId initId bmB ∧ PySem.W.excIn K C bmB newId = true ∧ mg (Str.ofString c) = some (.ref C) ∧ PySem.W.keepIn K (.ref C) = true ∧
  PySem.W.subIn K (.ref C) (.type "BaseException") = some true ∧ PySem.W.typeIn K (.ref C) = some (.type "type")
/-- a class of exceptions; or what one is to a class -/
def ExcF (K : PySem.W.Frag) (mg : Str → Option Value) (c : String) : Prop := match pOf c with
  | some q => XP K mg q.1 q.2
  | none => ExcF0 K mg c
theorem excF_of {K : PySem.W.Frag} {mg : Str → Option Value} {c : String} (hp : pOf c = none) (h : ExcF0 K mg c) : ExcF K mg c := by
  unfold ExcF; rw [hp]; exact h
theorem excP_of {K : PySem.W.Frag} {mg : Str → Option Value} {n c x : String} (hp : pOf n = some (c, x)) (h : XP K mg c x) : ExcF K mg n := by
  unfold ExcF; rw [hp]; exact h
/-- what is called keeps its promise at level k -/
def Callee (P : Program) (w : World) (B : Base) (mg : Str → Option Value) (base : Heap) (Γ : String → Con) (k : Nat) (f : String) : Prop := AnyAt P w B B.K mg base k (Γ f) f
theorem room80 {k : Nat} {A : Around} (r : Room k A) : A.units + 80 < cLine := by have := r.un; omega
theorem def_ok {B : Base} {cf : Cf} {d : Def} {Γ : String → Con} {gc : String → Option D} {con : Con} {P : Program} {w : World} {mg : Str → Option Value} {base : Heap} {x qual : Str} {params : Arguments} {body : List Stmt} {scope : Scope} {dvs : List V} {kws : List (Str × V)} {f : Addr} {fd : FuncData} {ps : List Str} {k : Nat}
    (F : FunD B.K x qual params body scope dvs kws f fd) (S : FnScope cf.N ps scope) (hN : cf.N.length = d.slots.length) (hsc : cf.sc = scope) (chk : chkSs cf d.body body = true) (dbg : ∀ x ∈ cf.N, x ≠ Str.ofString "__debug__" ∧ x ≠ Str.ofString "__classdict__")
    (T : Top P w B mg gc) (hx : ∀ c ∈ cf.xs, ExcF B.K mg c) (hf : ∀ g ∈ cf.fs, Callee P w B mg base Γ k g) (ok : DefOk Γ gc d con) : FnOk P w B.K mg base (L2.CX P w) (k + 1) f fd ps (spCon B mg ps.length con) := by
  refine F.ok S (fun vs H Q E h => h.1) fun cdv A outer s H vs Q E hr hsp => ?_
  obtain ⟨hl, S0, as, F0, K, hla, st, hc, hret, hexc⟩ := hsp
  have gtk : Takes (cxOf (L2.CX P w) P w B.K mg base cf.N qual scope f cdv A outer s H E) (fun cls d' _ H2 => EXw B ⟨Γ, gc, refsOf 0 as, fun c => K (.exc c)⟩ (entOf S0 H F0 vs as) mg cls d' H2) := by
    refine Takes.imp (takes_of rfl rfl rfl rfl) fun cls d' σ H' h => ?_
    obtain ⟨c, C, h1, h2, rfl, rfl, σ2, env2, S2, F2, st2⟩ := h
    exact hexc c σ2 env2 S2 H' F2 C h1 st2 h2
  have hr64 := room80 hr
  have g : GS B cf ⟨Γ, gc, refsOf 0 as, fun c => K (.exc c)⟩ (entOf S0 H F0 vs as) (cxOf (L2.CX P w) P w B.K mg base cf.N qual scope f cdv A outer s H E) :=
    { c := { g := ⟨rfl, rfl, S.nd, hsc.symm, rfl, hr64, T.blt, dbg⟩
             fb := fun _ _ => rfl
             refs := rfl
             fns := fun f' hf' => ⟨k, hr, hf f' hf'⟩
             gcs := T.gcs
             bmg := T.bmg
             bpw := T.bpw
             pas := passes_call gtk fun _ _ _ _ h => h }
      kind := S.kind
      own := passes_of rfl
      tk := gtk
      xs := fun c hc => by
        have hx2 := hx c hc
        unfold ExcF at hx2
        unfold XEnt
        cases hp : pOf c with
        | some q => rw [hp] at hx2; exact hx2
        | none =>
          rw [hp] at hx2
          obtain ⟨C, bmB, Bc, n1, n2, h1, h2, h3, h4, h5, h6⟩ := hx2
          exact ⟨C, bmB, Bc, n1, n2, h1, h2, h3, h4, raises_own h5 h6⟩
      stk := ⟨rfl, rfl⟩ }
  refine ⟨_, soundSs d.body g chk, ?_⟩
  have hrefs : ∀ j ∈ refsOf 0 as, j < as.length := fun j hj => by
    obtain ⟨_, o, e⟩ := refsOf_mem.mp hj
    have := (List.getElem?_eq_some_iff.mp e).1
    omega
  have st' : StOk B (entOf S0 H F0 vs as) (L2.start cf.N vs) (startE d.slots.length as) S0 H F0 := by
    unfold L2.start startE
    rw [← hN, hla]
    exact st.begin hrefs
  have fin : ∀ (r : R) env' v σ' S' H' F' fr, finW (refsOf 0 as) K r env' → Same S0 S' → StOk B (entOf S0 H F0 vs as) σ' env' S' H' F' → RelR B (entOf S0 H F0 vs as) σ' S' H' F' r v fr → Q v H' := by
    intro r env' v σ' S' H' F' fr k e st2 rel
    obtain ⟨outs, ho, k⟩ := outsOf_get k
    cases r with
    | v d' => exact hret (.v d') outs σ' env' S' H' F' fr v k st2 ho rel fun i z => by cases z
    | t o => exact hret (.t o) outs σ' env' S' H' F' fr v k st2 ho rel fun i z => by cases z
    | l i =>
      obtain ⟨hi, k⟩ := free_ok k
      split at k
      · rename_i o e2
        obtain ⟨t1, t2⟩ := st2.take e2 hi rel.1
        exact hret (.t o) outs σ' _ S' H' _ _ v k t1 (ho.other hi) t2 fun i z => by cases z
      · rename_i d' e2
        obtain ⟨v', q1, q2⟩ := st2.val i d' e2
        rw [rel.1] at q1; cases q1
        exact hret (.v d') outs σ' env' S' H' F' [] v k st2 ho ⟨q2, rfl⟩ fun i z => by cases z
      · exact k.elim
  exact ⟨S0, _, F0, _, st', ok as K hc, fun env' σ' S' H' F' k e st2 => fin (.v .non) env' .non σ' S' H' F' [] k e st2 ⟨rfl, rfl⟩, fin⟩
end Nf
/-! from def to def; the law's end -/
namespace Nf
open PySem PySem.Spec L2

theorem says_mem {fa : List He.Fa} {fn : List He.DefD} {K : PySem.W.Frag} (c : He.SaysD fa fn K) {f : He.Fa} (h : f ∈ fa) : f.ok K = true := by
  obtain ⟨i, hi, e⟩ := List.mem_iff_getElem.mp h
  exact He.SaysD.fact c i (f := f) (by rw [List.getElem?_eq_getElem hi, e])
/-- the promises so far -/
def promises : List (String × Con) → String → Con
  | [], _ => fun _ _ => False
  | (n, c) :: r, f => if f = n then c else promises r f
def Tab (P : Program) (w : World) (B : Base) (mg : Str → Option Value) (base : Heap) (k : Nat) (l : List (String × Con)) : Prop := ∀ f ∈ l.map (·.1), Callee P w B mg base (promises l) k f
theorem tab_nil {P : Program} {w : World} {B : Base} {mg : Str → Option Value} {base : Heap} {k : Nat} : Tab P w B mg base k [] := fun f h => by cases h
theorem CalAt.mono {P : Program} {w : World} {B : Base} {K : PySem.W.Frag} {mg : Str → Option Value} {base : Heap} {k k' : Nat} {con : Con} {f : String} (h : CalAt P w B K mg base k con f) (hk : k ≤ k') : CalAt P w B K mg base k' con f := by
  obtain ⟨fa, fd, ps, h1, h2, h⟩ := h
  rcases h with ⟨h3, n, dvs, ds, h4, h5, h6, h7⟩ | ⟨kw, g, gV, h3, h4, h5, h6, h7⟩
  · exact ⟨fa, fd, ps, h1, h2, .inl ⟨h3, n, dvs, ds, h4, h5, h6, h7.mono hk⟩⟩
  · exact ⟨fa, fd, ps, h1, h2, .inr ⟨kw, g, gV, h3, h4, h5, h6, h7.mono hk⟩⟩
theorem AnyAt.mono {P : Program} {w : World} {B : Base} {K : PySem.W.Frag} {mg : Str → Option Value} {base : Heap} {k k' : Nat} {con : Con} {f : String} (h : AnyAt P w B K mg base k con f) (hk : k ≤ k') : AnyAt P w B K mg base k' con f := by
  rcases h with ⟨h1, h2⟩ | ⟨cls, m, C, g, fd, ps, n, h1, h2, h3, h4, h5, h6, h7, h8⟩ | ⟨cls, m, C, g, fd, ps, n, j, h1, h2, h3, h4, h5, h6, h7, h8⟩
  · exact .inl ⟨h1, h2.mono hk⟩
  · exact .inr (.inl ⟨cls, m, C, g, fd, ps, n, h1, h2, h3, h4, h5, h6, h7, h8.mono hk⟩)
  · exact .inr (.inr ⟨cls, m, C, g, fd, ps, n, k' - 1, h1, h2, h3, h4, h5, h6, by omega, h8.mono (by omega)⟩)
theorem Callee.congr {P : Program} {w : World} {B : Base} {mg : Str → Option Value} {base : Heap} {Γ Γ' : String → Con} {k k' : Nat} {f : String} (h : Callee P w B mg base Γ k f) (hk : k ≤ k') (e : Γ' f = Γ f) : Callee P w B mg base Γ' k' f := by
  unfold Callee at h ⊢
  rw [e]
  exact h.mono hk
theorem tab_add {P : Program} {w : World} {B : Base} {mg : Str → Option Value} {base : Heap} {k k' : Nat} {l : List (String × Con)} {n : String} {con : Con}
    (t : Tab P w B mg base k l) (hk : k ≤ k') (hn : n ∉ l.map (·.1)) (h : AnyAt P w B B.K mg base k' con n) : Tab P w B mg base k' ((n, con) :: l) := by
  intro f hf
  by_cases e : f = n
  · subst e
    have e2 : promises ((f, con) :: l) f = con := if_pos rfl
    unfold Callee
    rw [e2]
    exact h
  · rcases List.mem_cons.mp hf with h | h
    · exact (e h).elim
    · exact (t f h).congr hk (if_neg e)
/-- one def more -/
theorem tab_cons {P : Program} {w : World} {B : Base} {mg : Str → Option Value} {base : Heap} {k : Nat} {l : List (String × Con)} {n : String} {con : Con} {fa : Addr} {fd : FuncData} {ps : List Str}
    (t : Tab P w B mg base k l) (hq : nmOf n = n ∧ kwOf n = none ∧ mtOf n = none) (hn : n ∉ l.map (·.1)) (hm : mg (Str.ofString n) = some (.ref fa)) (hk : PySem.W.keepIn B.K (.ref fa) = true) (hb : Binds B.K fd ps []) (hl : ∀ as K, con as K → as.length = ps.length)
    (F : FnOk P w B.K mg base (L2.CX P w) (k + 1) fa fd ps (spCon B mg ps.length con)) : Tab P w B mg base (k + 1) ((n, con) :: l) :=
  tab_add t (Nat.le_succ _) hn (.inl ⟨hq.2.2, fa, fd, ps, by rw [hq.1]; exact hm, hk, .inl ⟨hq.2.1, ps.length, [], [], hb, .nil, hl, F.imp fun us H Q E ⟨vs, e, h⟩ => by rw [List.append_nil] at e; subst e; exact h⟩⟩)
/-- a def that calls itself: con j is what it promises to the depth j -/
theorem tab_rec {P : Program} {w : World} {B : Base} {mg : Str → Option Value} {base : Heap} {k : Nat} {l : List (String × Con)} {n : String} {con : Nat → Con} {fa : Addr} {fd : FuncData} {ps : List Str}
    (t : Tab P w B mg base k l) (hq : nmOf n = n ∧ kwOf n = none ∧ mtOf n = none) (hn : n ∉ l.map (·.1)) (hm : mg (Str.ofString n) = some (.ref fa)) (hk : PySem.W.keepIn B.K (.ref fa) = true) (hb : Binds B.K fd ps []) (hl : ∀ j as K, con j as K → as.length = ps.length)
    (h0 : ∀ as K, ¬ con 0 as K) (step : ∀ j, Tab P w B mg base (k + 1 + j) ((n, con j) :: l) → FnOk P w B.K mg base (L2.CX P w) (k + 1 + j + 1) fa fd ps (spCon B mg ps.length (con (j + 1)))) : ∀ j, Tab P w B mg base (k + 1 + j) ((n, con j) :: l)
  | 0 => tab_cons t hq hn hm hk hb (hl 0) ⟨fun vs H Q E sp => sp.1, fun A outer s H args us vs Q E r e b v sp => by
      obtain ⟨_, _, as, _, K, _, _, hc, _⟩ := sp
      exact (h0 as K hc).elim⟩
  | j + 1 => by
    have T := tab_rec t hq hn hm hk hb hl h0 step j
    have t' : Tab P w B mg base (k + 1 + j) l := fun f hf => (t f hf).congr (by omega) rfl
    exact tab_cons t' hq hn hm hk hb (hl _) (step j T)
/-- a method more; a class that is made -/
theorem tab_meth {P : Program} {w : World} {B : Base} {mg : Str → Option Value} {base : Heap} {k : Nat} {l : List (String × Con)} {n cls m : String} {con : Con} {C fa : Addr} {fd : FuncData} {ps : List Str}
    (t : Tab P w B mg base k l) (hq : mtOf n = some (false, cls, m)) (hn : n ∉ l.map (·.1)) (hm : mg (Str.ofString cls) = some (.ref C)) (hc : Cls B.K C) (hmt : Meth B.K C (Str.ofString m) fa) (hna : Str.ofString m ∉ attrNames) (hb : Binds B.K fd ps []) (hl : ∀ as K, con as K → as.length = ps.length)
    (F : FnOk P w B.K mg base (L2.CX P w) (k + 1) fa fd ps (spCon B mg ps.length con)) : Tab P w B mg base (k + 1) ((n, con) :: l) :=
  tab_add t (Nat.le_succ _) hn (.inr (.inl ⟨cls, m, C, fa, fd, ps, ps.length, hq, hm, hc, hmt, hna, hb, hl, F⟩))
theorem tab_mk {P : Program} {w : World} {B : Base} {mg : Str → Option Value} {base : Heap} {k : Nat} {l : List (String × Con)} {n cls m : String} {con : Con} {C fa : Addr} {fd : FuncData} {ps : List Str}
    (t : Tab P w B mg base k l) (hq : mtOf n = some (true, cls, m)) (hn : n ∉ l.map (·.1)) (hm : mg (Str.ofString cls) = some (.ref C)) (hmk : Mk B.K C fa) (hc : ClsF B.K C) (hb : Binds B.K fd ps []) (hl : ∀ as K, con as K → as.length = ps.length)
    (F : FnOk P w B.K mg base (L2.CX P w) (k + 1) fa fd ps (spCon B mg ps.length con)) : Tab P w B mg base (k + 2) ((n, con) :: l) :=
  tab_add t (by omega) hn (.inr (.inr ⟨cls, m, C, fa, fd, ps, ps.length, k + 1, hq, hm, hmk, hc, hb, hl, rfl, F⟩))
/-! a def with one default, of four parameters -/
theorem refsOf_sh : ∀ {as : List Slot} {p : Nat}, (∀ s ∈ as, ∃ d, s = .sh d) → refsOf p as = []
  | [], _, _ => rfl
  | s :: as, p, h => by
    obtain ⟨d, rfl⟩ := h s List.mem_cons_self
    exact refsOf_sh (as := as) fun s hs => h s (List.mem_cons_of_mem _ hs)
theorem StOk.noref {B : Base} {S0 H0 S H : Hp} {F0 F : Nat → List Addr} {σ : Sg} {env : Ev} {v v' : List (Option V)} (st : StOk B ⟨S0, H0, F0, v, []⟩ σ env S H F) : StOk B ⟨S0, H0, F0, v', []⟩ σ env S H F :=
  ⟨st.s0, st.sub, st.frame, st.fresh, st.val, st.own, st.priv, st.dj, fun i hi => (by cases hi), st.len, st.wf, st.f0⟩
/-- what a call without the last argument promises -/
def conDfl (d : D) (con : Con) : Con := fun as K => (∀ s ∈ as, ∃ e, s = .sh e) ∧ as.length = 3 ∧ con (as ++ [.sh d]) K
theorem sp_dfl {B : Base} {mg : Str → Option Value} {con : Con} {vs : List V} {H : Hp} {Q : VK} {E : XK} {b : Bool} (h : spCon B mg 3 (conDfl (.bl b) con) vs H Q E) : spCon B mg 4 con (vs ++ [.bl b]) H Q E := by
  obtain ⟨hl, S, as, F, K, la, st, ⟨hs, _, hc⟩, hr, he⟩ := h
  have e1 : refsOf 0 as = [] := refsOf_sh hs
  have hs2 : ∀ s ∈ as ++ [.sh (.bl b)], ∃ e, s = Slot.sh e := fun s m => by
    rcases List.mem_append.mp m with m | m
    · exact hs s m
    · exact ⟨_, List.mem_singleton.mp m⟩
  have e2 : refsOf 0 (as ++ [.sh (.bl b)]) = [] := refsOf_sh hs2
  have q1 : entOf S H F vs as = ⟨S, H, F, vs.map some, []⟩ := by unfold entOf; rw [e1]
  have q2 : entOf S H F (vs ++ [V.bl b]) (as ++ [Slot.sh (D.bl b)]) = ⟨S, H, F, (vs ++ [V.bl b]).map some, []⟩ := by unfold entOf; rw [e2]
  rw [q1] at st hr he
  rw [e1] at hr
  refine ⟨by rw [List.length_append, hl]; rfl, S, as ++ [.sh (.bl b)], F, K, by rw [List.length_append, List.length_append, la]; rfl, ?_, hc, ?_, ?_⟩
  · rw [q2]
    refine ⟨st.s0, st.sub, st.frame, st.fresh, fun i d q => ?_, fun i o q => ?_, st.priv, st.dj, fun i hi => (by cases hi), by simp [la], st.wf, st.f0⟩
    · by_cases hi : i < as.length
      · rw [List.getElem?_append_left hi] at q
        rw [List.map_append, List.getElem?_append_left (by rw [List.length_map, ← la]; exact hi)]
        exact st.val i d q
      · rw [List.getElem?_append_right (by omega)] at q
        have : i - as.length = 0 := by
          by_cases z : i - as.length = 0
          · exact z
          · obtain ⟨m, hm⟩ : ∃ m, i - as.length = m + 1 := ⟨i - as.length - 1, by omega⟩
            rw [hm] at q; cases q
        rw [this] at q
        cases q
        rw [List.map_append, List.getElem?_append_right (by rw [List.length_map, ← la]; omega), List.length_map, ← la, this]
        exact ⟨_, rfl, rfl⟩
    · obtain ⟨e, z⟩ := hs2 _ (List.mem_of_getElem? q)
      cases z
  · intro r outs σ' env' S' H' F' fr v k st' ho rel hn
    rw [q2] at st' rel
    rw [e2] at ho
    exact hr r outs σ' env' S' H' F' fr v k st'.noref ho (by cases r <;> exact rel) hn
  · intro c σ' env' S' H' F' C k st' hC
    rw [q2] at st'
    exact he c σ' env' S' H' F' C k st'.noref hC
theorem tab_dfl {P : Program} {w : World} {B : Base} {mg : Str → Option Value} {base : Heap} {k : Nat} {l : List (String × Con)} {m n : String} {con : Con} {fa : Addr} {fd : FuncData} {ps : List Str} {b : Bool}
    (t : Tab P w B mg base k l) (hq : nmOf m = n ∧ kwOf m = none ∧ mtOf m = none) (hn : m ∉ l.map (·.1)) (hm : mg (Str.ofString n) = some (.ref fa)) (hk : PySem.W.keepIn B.K (.ref fa) = true) (hb : ∃ ds, Vals [V.bl b] ds ∧ Binds B.K fd ps ds)
    (F : FnOk P w B.K mg base (L2.CX P w) k fa fd ps (spCon B mg 4 con)) : Tab P w B mg base k ((m, conDfl (.bl b) con) :: l) := by
  obtain ⟨ds, h1, h2⟩ := hb
  exact tab_add t (Nat.le_refl _) hn (.inl ⟨hq.2.2, fa, fd, ps, by rw [hq.1]; exact hm, hk, .inl ⟨hq.2.1, 3, [V.bl b], ds, h2, h1, fun as K h => h.2.1, F.imp fun us H Q E ⟨vs, e, h⟩ => by subst e; exact sp_dfl h⟩⟩)
theorem tab_kw {P : Program} {w : World} {B : Base} {mg : Str → Option Value} {base : Heap} {k : Nat} {l : List (String × Con)} {m n kw : String} {con : Con} {fa : Addr} {fd : FuncData} {ps : List Str} {g : List Value → List Value → List Value}
    (t : Tab P w B mg base k l) (hq : nmOf m = n ∧ kwOf m = some kw ∧ mtOf m = none) (hn : m ∉ l.map (·.1)) (hm : mg (Str.ofString n) = some (.ref fa)) (hk : PySem.W.keepIn B.K (.ref fa) = true) (hb : KBn B.K fd ps 3 [Str.ofString kw] g (fun vs zs => vs ++ zs)) (hl : ∀ as K, con as K → as.length = 4)
    (F : FnOk P w B.K mg base (L2.CX P w) k fa fd ps (spCon B mg 4 con)) : Tab P w B mg base k ((m, con) :: l) :=
  tab_add t (Nat.le_refl _) hn (.inl ⟨hq.2.2, fa, fd, ps, by rw [hq.1]; exact hm, hk, .inr ⟨kw, g, _, hq.2.1, hb, fun _ _ => rfl, hl, F⟩⟩)
theorem vals_nil {ds : List Value} (h : Vals [] ds) : ds = [] := by cases h; rfl
theorem has_of {l : List (String × Con)} {g : String} {con : Con} (h : promises l g = con) : Has (promises l) g con := fun as K k => by rw [h]; exact k
theorem mem_tab {P : Program} {w : World} {B : Base} {mg : Str → Option Value} {base : Heap} {k : Nat} {l : List (String × Con)} {fs : List String} (t : Tab P w B mg base k l) (h : fs.all (fun g => (l.map (·.1)).contains g) = true) : ∀ g ∈ fs, Callee P w B mg base (promises l) k g :=
  fun g hg => t g (by have := List.all_eq_true.mp h g hg; simpa using this)
/-- the frame of a def's check -/
def cfOf (d : Def) (sc : Scope) (fs xs : List String) : Cf := ⟨d.slots.map Str.ofString, sc, fun _ => true, fs, xs⟩
def topOf (p : Program) (i : Nat) : He.DefD := match p.main.body[i]? with
  | some (.FunctionDef n a b _ _ _ sc _ _ _) => ⟨(n, none), n, n, a, b, sc, [], []⟩
  | _ => ⟨("law", none), "law", "law", ⟨[], [], none, [], [], none, []⟩, [], ⟨.function, [], false, false, []⟩, [], []⟩
/-- a method within a class of the text -/
def topOfM (p : Program) (i j : Nat) : He.DefD := match p.main.body[i]? with
  | some (.ClassDef c _ _ b _ _ _ _ _ _ _) => (match b[j]? with
    | some (.FunctionDef n a s _ _ _ sc _ _ _) => ⟨(c, some n), n, ⟨c.cps ++ #[46] ++ n.cps⟩, a, s, sc, [], []⟩
    | _ => ⟨("law", none), "law", "law", ⟨[], [], none, [], [], none, []⟩, [], ⟨.function, [], false, false, []⟩, [], []⟩)
  | _ => ⟨("law", none), "law", "law", ⟨[], [], none, [], [], none, []⟩, [], ⟨.function, [], false, false, []⟩, [], []⟩
def topOfD (p : Program) (i : Nat) (ds : List He.Dv) : He.DefD := { topOf p i with dfl := ds }
/-- what is checked of a def's text -/
def chkDef (d : Def) (ps : List Str) (fs xs : List String) (t : He.DefD) : Bool := C8.scC (d.slots.map Str.ofString) ps t.scope && chkSs (cfOf d t.scope fs xs) d.body t.body &&
  (d.slots.map Str.ofString).all (fun x => !(x == Str.ofString "__debug__") && !(x == Str.ofString "__classdict__"))
theorem def_in {B : Base} {d : Def} {Γ : String → Con} {gc : String → Option D} {con : Con} {P : Program} {w : World} {mg : Str → Option Value} {base : Heap} {t : He.DefD} {dvs : List V} {kws : List (Str × V)} {f : Addr} {fd : FuncData} {ps : List Str} {k : Nat} {fs xs : List String}
    (F : FunD B.K t.name t.qual t.params t.body t.scope dvs kws f fd) (chk : chkDef d ps fs xs t = true)
    (T : Top P w B mg gc) (hx : ∀ c ∈ xs, ExcF B.K mg c) (hf : ∀ g ∈ fs, Callee P w B mg base Γ k g) (ok : DefOk Γ gc d con) : FnOk P w B.K mg base (L2.CX P w) (k + 1) f fd ps (spCon B mg ps.length con) := by
  unfold chkDef at chk
  rw [Bool.and_eq_true, Bool.and_eq_true] at chk
  refine def_ok (cf := cfOf d t.scope fs xs) F (C8.fnScope_by chk.1.1) (List.length_map _) rfl chk.1.2 (fun x hx => ?_) T hx hf ok
  have := List.all_eq_true.mp chk.2 x hx
  simp only [Bool.and_eq_true, Bool.not_eq_true', beq_eq_false_iff_ne] at this
  exact this

/-! the end -/
def baseOf (P : Program) (w : World) (K : PySem.W.Frag) (mg : Str → Option Value) : Base := ⟨K, mg, P, w⟩
/-- what the law promises -/
def conLaw (n : Nat) : Con := fun as K => ∃ ns : List Int, as = [.sh (.fz (ns.map D.int))] ∧ ns.length ≤ n ∧ (∀ z ∈ ns, Builtin.Int.intBits z ≤ 1048576) ∧ K (.ret (.v (.bl true)) [])
theorem law_sp {B : Base} {mg : Str → Option Value} {n : Nat} {H : Hp} {a : Addr} {ns : List Int} (hn : ns.length ≤ n) (hb : ∀ z ∈ ns, Builtin.Int.intBits z ≤ 1048576) (hS : SqL B.K H a (ns.map V.int)) :
    spCon B mg 1 (conLaw n) [.ref a] H (fun v _ => v = .bl true) fun _ _ _ => False := by
  refine ⟨rfl, H, [.sh (.fz (ns.map D.int))], fun _ => [], fun o => o = .ret (.v (.bl true)) [], rfl, ⟨Same.refl _, Same.refl _, fun b o q _ => q, fun b q1 q2 => (q2 q1).elim, fun i d q => ?_, fun i o q => ?_, fun i b hb => (by cases hb), fun i j b hb => (by cases hb), fun i hi => (by cases hi), rfl, fun _ _ => rfl, fun i b hb => (by cases hb)⟩,
    ⟨ns, rfl, hn, hb, rfl⟩, fun r outs σ' env' S' H' F' fr v k st ho rel hl => ?_, fun c σ' env' S' H' F' C k => by cases k⟩
  · cases i with
    | zero =>
      cases q
      exact ⟨.ref a, rfl, by unfold Rep; exact ⟨a, _, rfl, hS, .of_ints ns⟩⟩
    | succ i => cases q
  · cases i <;> cases q
  · cases k
    exact rel.1
theorem cx_no {P : Program} {w : World} {H : Hp} {s : Shared} {e : Value} {s' : Shared} (h : L2.CX P w [] H s (fun _ _ _ => False) e s') : False := by
  obtain ⟨_, _, _, _, _, _, _, _, _, _, _, _, z⟩ := h
  exact z
end Nf
/-! the head of a law whose module has written dicts and tuples -/
namespace Nf
open PySem PySem.Spec L2
/-- a value of the module is this data -/
def dOk0 : D → Value → Bool
  | .non, .none => true
  | .bl b, .bool c => decide (b = c)
  | .int i, .int j _ => decide (i = j)
  | .str s, .str y _ => decide ((⟨s.toArray⟩ : Str) = y)
  | _, _ => false
def dOkL : List D → List Value → Bool
  | [], [] => true
  | d :: ds, u :: us => dOk0 d u && dOkL ds us
  | _, _ => false
def dOk (K : PySem.W.Frag) (d : D) (u : Value) : Bool := match d, u with
  | .tup ds, .ref a => (match K.lookup a with
    | some ⟨.type c, _, .seq its _, _⟩ => decide (c = "tuple") && (decide (its.size ≤ sizeLine) && dOkL ds its.toList)
    | _ => false)
  | _, _ => dOk0 d u
theorem dOk0_ok {K : PySem.W.Frag} {d : D} {u : Value} (h : dOk0 d u = true) : ∃ v, RelV v u ∧ ∀ S, Rep K S d v := by
  cases d with
  | non => cases u with
    | none => exact ⟨.non, rfl, fun S => rfl⟩
    | _ => cases h
  | bl b => cases u with
    | bool c =>
      have e : b = c := of_decide_eq_true h
      subst e
      exact ⟨.bl b, rfl, fun S => rfl⟩
    | _ => cases h
  | int i => cases u with
    | int j t =>
      have e : i = j := of_decide_eq_true h
      subst e
      exact ⟨.int i, ⟨t, rfl⟩, fun S => rfl⟩
    | _ => cases h
  | str s => cases u with
    | str y t =>
      have e : (⟨s.toArray⟩ : Str) = y := of_decide_eq_true h
      subst e
      exact ⟨.str ⟨s.toArray⟩, ⟨t, rfl⟩, fun S => rfl⟩
    | _ => cases h
  | tup ds => cases u <;> cases h
  | lst ds => cases u <;> cases h
  | fz ds => cases u <;> cases h
  | dic ks vs => cases u <;> cases h
theorem dOkL_ok {K : PySem.W.Frag} : ∀ {ds : List D} {us : List Value}, dOkL ds us = true → ∃ vs, Vals vs us ∧ ∀ S, RepL K S ds vs
  | [], [], _ => ⟨[], .nil, fun _ => RepL.nil⟩
  | [], _ :: _, h => by cases h
  | _ :: _, [], h => by cases h
  | d :: ds, u :: us, h => by
    obtain ⟨h1, h2⟩ := He.ba (show (dOk0 d u && dOkL ds us) = true from h)
    obtain ⟨v, r, p⟩ := dOk0_ok (K := K) h1
    obtain ⟨vs, rs, ps⟩ := dOkL_ok (K := K) h2
    exact ⟨v :: vs, .cons r rs, fun S => .cons (p S) (ps S)⟩
theorem dOk_ok {K : PySem.W.Frag} {d : D} {u : Value} (h : dOk K d u = true) : ∃ v, RelV v u ∧ ∀ S, Rep K S d v := by
  unfold dOk at h
  split at h
  · rename_i ds a
    split at h
    · rename_i c od its n sl q
      obtain ⟨h1, h2⟩ := He.ba h
      obtain ⟨h3, h4⟩ := He.ba h2
      obtain ⟨vs, rs, ps⟩ := dOkL_ok (K := K) h4
      refine ⟨.ref a, rfl, fun S => ?_⟩
      unfold Rep
      exact ⟨a, vs, rfl, .inr ⟨_, its, n, q, congrArg Value.type (of_decide_eq_true h1), rfl, of_decide_eq_true h3, rs⟩, ps S⟩
    · cases h
  · exact dOk0_ok h
inductive Gf where
  | con (x : Str) (d : D)
  | dic (x : Str) (kvs : List (Str × D))
  | xp (c x : String)
/-- what isinstance must know of an exception's class -/
def excCB (K : PySem.W.Frag) (C : Addr) : Bool := He.eqO (PySem.W.findIn K (.ref C) "__getattribute__") (some (some (.builtin "BaseException.__getattribute__"))) && (He.eqO (PySem.W.findIn K (.ref C) "__getattr__") (some none) && (decide (PySem.W.subIn K (.ref C) (.type "BaseException") = some true) && (PySem.W.hasDictIn K C && (He.eqO (PySem.W.findIn K (.ref C) "__class__") (some (some (.builtin "object.__class__"))) && (He.eqO (PySem.W.specialIn K (.builtin "object.__class__") "__get__") (some (some (.builtin "getset_descriptor.__get__"))) && (decide (PySem.W.takesIn K (.builtin "object.__class__") = some true) && decide (PySem.W.mroIn K C (.type "object") = some true)))))))
theorem excCB_ok {K : PySem.W.Frag} {C : Addr} (h : excCB K C = true) : ExcC K C := by
  obtain ⟨h1, h⟩ := He.ba h
  obtain ⟨h2, h⟩ := He.ba h
  obtain ⟨h3, h⟩ := He.ba h
  obtain ⟨h4, h⟩ := He.ba h
  obtain ⟨h5, h⟩ := He.ba h
  obtain ⟨h6, h⟩ := He.ba h
  obtain ⟨h7, h8⟩ := He.ba h
  exact ⟨He.eqO_ok h1, He.eqO_ok h2, of_decide_eq_true h3, h4, He.eqO_ok h5, He.eqO_ok h6, of_decide_eq_true h7, of_decide_eq_true h8⟩
/-- the class of that name -/
def clsU (K : PySem.W.Frag) (x : String) : Value := if x = "ValueError" then .type "ValueError" else .ref (He.ga K (Str.ofString x))
def xpB (K : PySem.W.Frag) (c x : String) : Bool := He.eqO (PySem.W.nsIn K mainGlobals (Str.ofString c)) (some (some (.ref (He.ga K (Str.ofString c))))) && (He.eqO (PySem.W.nsIn K mainGlobals (Str.ofString x)) (some (if x = "ValueError" then none else some (clsU K x))) && (excCB K (He.ga K (Str.ofString c)) && (decide (PySem.W.exmOne K (.ref (He.ga K (Str.ofString c))) (clsU K x) = some (isX c x)) && decide (PySem.W.kitOne K (.ref (He.ga K (Str.ofString c))) (clsU K x) = some (isX c x)))))
theorem boot_VE : bootBuiltins (Str.ofString "ValueError") = some (.type "ValueError") := by decide +kernel
theorem xp_ok {K : PySem.W.Frag} {h : Heap} {mg : Str → Option Value} (X : K.In h) (G : h.Ns mainGlobals mg) {c x : String} (q : xpB K c x = true) : XP K mg c x := by
  obtain ⟨h1, q⟩ := He.ba q
  obtain ⟨h2, q⟩ := He.ba q
  obtain ⟨h3, q⟩ := He.ba q
  obtain ⟨h4, h5⟩ := He.ba q
  have m1 := PySem.W.mg_of X G (He.eqO_ok h1)
  have e2 := He.eqO_ok h2
  have h4 := of_decide_eq_true h4
  have h5 := of_decide_eq_true h5
  unfold clsU at h4 h5 e2
  by_cases z : x = "ValueError"
  · subst z
    rw [if_pos rfl] at e2 h4 h5
    exact ⟨_, .ty "ValueError", _, m1, excCB_ok h3, .ty _, .inr ⟨PySem.W.mg_none_of X G e2, boot_VE, by decide⟩, h4, h5⟩
  · rw [if_neg z] at e2 h4 h5
    rw [if_neg z] at e2
    exact ⟨_, .ref _, _, m1, excCB_ok h3, .own _, .inl (PySem.W.mg_of X G e2), h4, h5⟩
def Gf.ok (K : PySem.W.Frag) : Gf → Bool
  | .con x d => (match PySem.W.nsIn K mainGlobals x with
    | some (some u) => dOk K d u
    | _ => false)
  | .dic x kvs => He.eqO (PySem.W.nsIn K mainGlobals x) (some (some (.ref (He.ga K x)))) && kvs.all fun q => (match PySem.W.nsIn K (He.ga K x) q.1 with
    | some (some u) => dOk K q.2 u
    | _ => false)
  | .xp c x => xpB K c x
def tabsOf : List Gf → List He.Tab
  | [] => []
  | .con _ _ :: r => tabsOf r
  | .xp _ _ :: r => tabsOf r
  | .dic x kvs :: r => (fun K => He.ga K x, kvs.map (·.1)) :: tabsOf r
abbrev AlN : Type := He.AlT × Bool
def obsN (fa : List He.Fa) (fn : List He.DefD) (gs : List Gf) (K : PySem.W.Frag) : AlN := (He.obsT fa fn (tabsOf gs) K, gs.all fun g => g.ok K)
def valN (fn : List He.DefD) (gs : List Gf) (w : World) : AlN := (He.valT fn (tabsOf gs) w, true)
def obsNG (n : Nat) (fa : List He.Fa) (fn : List He.DefD) (gs : List Gf) (g : Addr → Option Obj) : AlN := obsN fa fn gs (He.frG g (He.asD g n))
def SaysN (fa : List He.Fa) (fn : List He.DefD) (gs : List Gf) (w : World) (K : PySem.W.Frag) : Prop := obsN fa fn gs K = valN fn gs w
def hookN (n : Nat) (fa : List He.Fa) (fn : List He.DefD) (gs : List Gf) : PySem.W.Hook where
  α := AlN
  obs := fun s => obsNG n fa fn gs s.heap.get?
  val := fun w => valN fn gs w
  says := fun w h => ∃ K : PySem.W.Frag, K.In h ∧ SaysN fa fn gs w K
  of := fun _ _ e => ⟨_, He.frG_in, e⟩
  keeps := fun _ _ _ ⟨K, hK, c⟩ k => ⟨K, PySem.W.Frag.In.keeps hK k, c⟩
theorem obsNG_eq {n : Nat} {fa : List He.Fa} {fn : List He.DefD} {gs : List Gf} {g : Addr → Option Obj} {s : Shared} (h : ∀ a, g a = s.heap.get? a) : obsNG n fa fn gs g = (hookN n fa fn gs).obs s := by
  have e : g = s.heap.get? := funext h
  rw [e] <;> rfl
section
variable {fa : List He.Fa} {fn : List He.DefD} {gs : List Gf} {w : World} {K : PySem.W.Frag}
theorem SaysN.t (c : SaysN fa fn gs w K) : He.SaysT fa fn (tabsOf gs) w K := congrArg (fun z : AlN => z.1) c
theorem SaysN.d (c : SaysN fa fn gs w K) : He.SaysD fa fn K := c.t.d
theorem SaysN.g (c : SaysN fa fn gs w K) {g : Gf} (h : g ∈ gs) : g.ok K = true :=
  List.all_eq_true.mp (show (gs.all fun g => g.ok K) = true from congrArg (fun z : AlN => z.2) c) g h
theorem SaysN.tab (c : SaysN fa fn gs w K) {x : Str} {kvs : List (Str × D)} (h : Gf.dic x kvs ∈ gs) : He.dicW K (He.ga K x) = some (He.keysIn w.params (kvs.map (·.1))) := by
  have e : (tabsOf gs).map (fun t => He.dicW K (t.1 K)) = (tabsOf gs).map fun t => some (He.keysIn w.params t.2) := congrArg (fun z : He.AlT => z.2) c.t
  have m : ∀ {gs : List Gf}, Gf.dic x kvs ∈ gs → ((fun K => He.ga K x, kvs.map (·.1)) : He.Tab) ∈ tabsOf gs := by
    intro gs
    induction gs with
    | nil => intro h; cases h
    | cons g r ih =>
      intro h
      cases h with
      | head => exact .head _
      | tail _ h2 =>
        cases g with
        | con _ _ => exact ih h2
        | xp _ _ => exact ih h2
        | dic _ _ => exact .tail _ (ih h2)
  obtain ⟨i, hi⟩ := List.getElem?_of_mem (m h)
  have e2 : ((tabsOf gs).map fun t => He.dicW K (t.1 K))[i]? = ((tabsOf gs).map fun t => some (He.keysIn w.params t.2))[i]? := by rw [e]
  rw [List.getElem?_map, List.getElem?_map, hi] at e2
  exact Option.some.inj e2
theorem keyOf_some {e : DictEntry} {k : Str} {i : Int} (h : He.keyOf e = some (k, i)) : ∃ t, e.key = .str k t := by
  unfold He.keyOf at h
  split at h
  · rename_i x t q
    have h4 := Option.some.inj h
    obtain ⟨h5, h6⟩ := Prod.mk.inj h4
    exact ⟨t, by rw [q, h5]⟩
  · cases h
theorem isStr_of {v : Value} {x z : Str} {t : Tok} (h : v = .str x t) (hn : x ≠ z) : v.isStr z = false := by
  subst h
  unfold Value.isStr
  cases q : (x == z) with
  | false => first | exact q | rfl
  | true => exact (hn (eq_of_beq q)).elim
theorem keys_of {P : Params} : ∀ {l : List DictEntry} {ks : List Str}, l.map He.keyOf = He.keysIn P ks →
    l.length = ks.length ∧ (∀ (i : Nat) (k : Str), ks[i]? = some k → ∃ en t, l[i]? = some en ∧ en.key = .str k t) ∧ ∀ z, z ∉ ks → l.find? (·.key.isStr z) = none ∧ l.any (·.refKey) = false
  | [], [], _ => ⟨rfl, fun i k h => (by simp at h), fun z _ => ⟨rfl, rfl⟩⟩
  | [], _ :: _, h => by cases h
  | _ :: _, [], h => by cases h
  | e :: r, k :: ks, h => by
    have h1 : He.keyOf e :: r.map He.keyOf = some (k, PyData.keyHash P k) :: He.keysIn P ks := h
    injection h1 with h2 h3
    obtain ⟨i1, i2, i3⟩ := keys_of h3
    obtain ⟨t, ht⟩ := keyOf_some h2
    refine ⟨by simp [i1], fun i k' hk => ?_, fun z hz => ?_⟩
    · cases i with
      | zero =>
        cases hk
        exact ⟨e, t, rfl, ht⟩
      | succ i => exact i2 i k' (by simpa using hk)
    · obtain ⟨g1, g2⟩ := i3 z (fun hm => hz (.tail _ hm))
      have hn : k ≠ z := fun hh => hz (hh ▸ .head _)
      refine ⟨?_, ?_⟩
      · rw [List.find?_cons, isStr_of ht hn]
        exact g1
      · rw [List.any_cons, g2]
        unfold DictEntry.refKey
        rw [ht]
        rfl
section
variable {h : Heap} {mg : Str → Option Value} {x : String}
theorem gf_con (X : K.In h) (G : h.Ns mainGlobals mg) {d : D} (c : (Gf.con (Str.ofString x) d).ok K = true) (hd : isDic d = false) : GcOk K w mg x d := by
  unfold Gf.ok at c
  dsimp only at c
  split at c
  · rename_i u e
    obtain ⟨v, r, p⟩ := dOk_ok c
    exact .inl ⟨hd, v, u, PySem.W.mg_of X G e, r, p⟩
  · cases c
theorem gf_dic (X : K.In h) (G : h.Ns mainGlobals mg) {kvs : List (Str × D)} (c : (Gf.dic (Str.ofString x) kvs).ok K = true)
    (ht : He.dicW K (He.ga K (Str.ofString x)) = some (He.keysIn w.params (kvs.map (·.1)))) : GcOk K w mg x (.dic (kvs.map fun q => .str (tl q.1)) (kvs.map (·.2))) := by
  obtain ⟨es, n, D⟩ := He.dicW_ok ht
  obtain ⟨c1, c2⟩ := He.ba (show (He.eqO (PySem.W.nsIn K mainGlobals (Str.ofString x)) (some (some (.ref (He.ga K (Str.ofString x))))) && kvs.all fun q => (match PySem.W.nsIn K (He.ga K (Str.ofString x)) q.1 with
    | some (some u) => dOk K q.2 u
    | _ => false)) = true from c)
  have hk : es.toList.map He.keyOf = He.keysIn w.params (kvs.map (·.1)) := by
    unfold He.dicW at ht
    rw [D.at_] at ht
    dsimp only at ht
    split at ht
    · exact Option.some.inj ht
    · cases ht
  obtain ⟨k1, k2, k3⟩ := keys_of hk
  refine .inr ⟨kvs, He.ga K (Str.ofString x), es, n, rfl, PySem.W.mg_of X G (He.eqO_ok c1), D, ⟨by simpa using k1, fun i k e => ?_⟩, fun z hz => ?_, fun q hq => ?_⟩
  · obtain ⟨en, t, e1, e2⟩ := k2 i k e
    exact ⟨en, t, by simpa using e1, e2⟩
  · obtain ⟨g1, g2⟩ := k3 z (fun hm => by
      obtain ⟨q, hq, e⟩ := List.mem_map.mp hm
      exact hz q hq e)
    unfold PySem.W.nsIn
    rw [D.at_]
    dsimp only
    rw [g1]
    simp only [g2]
    rfl
  · have h2 := List.all_eq_true.mp c2 q hq
    split at h2
    · rename_i u e
      obtain ⟨v, r, p⟩ := dOk_ok h2
      exact ⟨u, v, e, r, p⟩
    · cases h2
end
end
end Nf
/-! reasoning over data -/
namespace Nf
open PySem PySem.Spec L2
theorem ite2 {b : Bool} {p q : Prop} (h1 : b = true → p) (h2 : ¬ b = true → q) : if b = true then p else q := by
  by_cases h : b = true
  · rw [if_pos h]; exact h1 h
  · rw [if_neg h]; exact h2 h
theorem iteT {b : Bool} {p q : Prop} (h : b = true) (h1 : p) : if b = true then p else q := by rw [if_pos h]; exact h1
theorem iteF {b : Bool} {p q : Prop} (h : b = false) (h1 : q) : if b = true then p else q := by rw [if_neg (by rw [h]; simp)]; exact h1
theorem boolK2 {b : Bool} {p q : Prop} (h1 : b = true → p) (h2 : b = false → q) : boolK (.v (.bl b)) p q := by
  cases b with
  | true => exact h1 rfl
  | false => exact h2 rfl
theorem size_small {n : Nat} (h : n ≤ 100000) : n < sizeLine := Nat.lt_of_le_of_lt h (by decide)
theorem size_le {n : Nat} (h : n ≤ 100000) : n ≤ sizeLine := Nat.le_of_lt (size_small h)
theorem forW_pre {α : Type} {tgW : D → Ev → (Ev → Prop) → Prop} {body : Ev → Fn → Prop} {xs : List α} (enc : α → D) (I : List α → Ev → Prop) {env : Ev} {fn : Fn} (h0 : I [] env)
    (hs : ∀ pre x post env (k : Ev → Prop), xs = pre ++ x :: post → I pre env → (∀ env', I (pre ++ [x]) env' → k env') → tgW (enc x) env fun env1 => body env1 ⟨k, fn.rt⟩) (hd : ∀ env, I xs env → fn.nx env) : forW tgW body (xs.map enc) env fn := by
  have main : ∀ (post pre : List α) (env : Ev), xs = pre ++ post → I pre env → forW tgW body (post.map enc) env fn := by
    intro post
    induction post with
    | nil => intro pre env e h; rw [List.append_nil] at e; subst e; rw [List.map_nil, forW_nil]; exact hd env h
    | cons x post ih =>
      intro pre env e h
      rw [List.map_cons, forW_cons]
      exact hs pre x post env (fun env2 => forW tgW body (post.map enc) env2 fn) e h fun env' h' => ih (pre ++ [x]) env' (by rw [e, List.append_assoc]; rfl) h'
  exact main xs [] env rfl h0
theorem forW_preD {tgW : D → Ev → (Ev → Prop) → Prop} {body : Ev → Fn → Prop} {xs : List D} (I : List D → Ev → Prop) {env : Ev} {fn : Fn} (h0 : I [] env)
    (hs : ∀ pre x post env (k : Ev → Prop), xs = pre ++ x :: post → I pre env → (∀ env', I (pre ++ [x]) env' → k env') → tgW x env fun env1 => body env1 ⟨k, fn.rt⟩) (hd : ∀ env, I xs env → fn.nx env) : forW tgW body xs env fn := by
  have := forW_pre (xs := xs) (tgW := tgW) (body := body) id I h0 hs hd
  rwa [List.map_id] at this
theorem forW_c {tgW : D → Ev → (Ev → Prop) → Prop} {body : Ev → Fn → Prop} {d : D} {ds : List D} {env : Ev} {fn : Fn} (h : tgW d env fun env1 => body env1 ⟨fun env2 => forW tgW body ds env2 fn, fn.rt⟩) : forW tgW body (d :: ds) env fn := by rw [forW_cons]; exact h
theorem forW_n {tgW : D → Ev → (Ev → Prop) → Prop} {body : Ev → Fn → Prop} {env : Ev} {fn : Fn} (h : fn.nx env) : forW tgW body [] env fn := by rw [forW_nil]; exact h
/-- by the turn -/
theorem forW_ix {tgW : D → Ev → (Ev → Prop) → Prop} {body : Ev → Fn → Prop} {lo : Int} {n : Nat} (I : Nat → Ev → Prop) {env : Ev} {fn : Fn} (h0 : I 0 env)
    (hs : ∀ i env (k : Ev → Prop), i < n → I i env → (∀ env', I (i + 1) env' → k env') → tgW (.int (lo + (i : Nat))) env fun env1 => body env1 ⟨k, fn.rt⟩) (hd : ∀ env, I n env → fn.nx env) : forW tgW body (rangeD lo n) env fn := by
  unfold rangeD
  refine forW_pre (fun i : Nat => D.int (lo + (i : Nat))) (fun pre env => I pre.length env) h0 (fun pre x post env k e h hk => ?_) fun env h => hd env (by simpa using h)
  have hl : pre.length < n := by
    have := congrArg List.length e
    simp at this
    omega
  have hx : x = pre.length := by
    have h1 : (List.range n)[pre.length]? = some x := by rw [e]; simp
    rw [List.getElem?_range hl] at h1
    exact (Option.some.inj h1).symm
  subst hx
  exact hs _ env k hl h fun env' h' => hk env' (by simpa using h')
theorem compW_fm {α : Type} {own : List Nat} {tgW : D → Ev → (Ev → Prop) → Prop} {condW : Ev → (Bool → Ev → Prop) → Prop} {eltW : Ev → (D → Ev → Prop) → Prop} {xs : List α} (enc : α → D) (f : α → Option D) {env : Ev} {K : List D → Ev → Prop} (hz : xs.length ≤ 100000)
    (h : ∀ x ∈ xs, ∀ (kt : D → Ev → Prop) (kf : Ev → Prop), (∀ y, f x = some y → ∀ e, wipeE own e = env → kt y e) → (f x = none → ∀ e, wipeE own e = env → kf e) → tgW (enc x) env fun e1 => condW e1 fun b e2 => if b = true then eltW e2 kt else kf e2)
    (hK : K (xs.filterMap f) env) : compW own tgW condW eltW (xs.map enc) [] env K := by
  have main : ∀ (post pre : List α), xs = pre ++ post → compW own tgW condW eltW (post.map enc) (pre.filterMap f) env K := by
    intro post
    induction post with
    | nil => intro pre e; rw [List.append_nil] at e; subst e; rw [List.map_nil, compW_nil]; exact hK
    | cons x post ih =>
      intro pre e
      rw [List.map_cons, compW_cons]
      have hm : x ∈ xs := by rw [e]; simp
      refine h x hm (fun y e3 => (pre.filterMap f).length < sizeLine ∧ compW own tgW condW eltW (post.map enc) (pre.filterMap f ++ [y]) (wipeE own e3) K) (fun e2 => compW own tgW condW eltW (post.map enc) (pre.filterMap f) (wipeE own e2) K) (fun y hy e3 he => ?_) fun hn e2 he => ?_
      · refine ⟨size_small ?_, ?_⟩
        · have h1 := List.length_filterMap_le f pre
          have h2 := congrArg List.length e
          simp at h2
          omega
        · have := ih (pre ++ [x]) (by rw [e, List.append_assoc]; rfl)
          rw [List.filterMap_append] at this
          rw [he]
          simpa [hy] using this
      · have := ih (pre ++ [x]) (by rw [e, List.append_assoc]; rfl)
        rw [List.filterMap_append] at this
        rw [he]
        simpa [hn] using this
  exact main xs [] rfl
theorem mulL {i j : Int} (h1 : -(2 ^ 64) < i) (h2 : i < 2 ^ 64) : CMul i j ∨ CMulW i j := .inl (.inl ⟨h1, h2⟩)
theorem mulR {i j : Int} (h1 : -(2 ^ 64) < j) (h2 : j < 2 ^ 64) : CMul i j ∨ CMulW i j := .inl (.inr ⟨h1, h2⟩)
theorem atI_last {α : Type} (xs : List α) (x : α) : atI (xs ++ [x]) (-1) = some x := by
  unfold atI ixN
  rw [if_neg (by omega), if_pos (by simp; omega)]
  have e : ((-1 : Int) + ((xs ++ [x]).length : Int)).toNat = xs.length := by simp; omega
  rw [e]
  simp
theorem atI_nat {α : Type} (xs : List α) (i : Nat) : atI xs (i : Int) = xs[i]? := by
  unfold atI ixN
  by_cases h : i < xs.length
  · rw [if_pos (by omega), if_pos (by omega)]; simp
  · rw [if_pos (by omega), if_neg (by omega)]
    rw [List.getElem?_eq_none (by omega)]; rfl
theorem atI_int {α : Type} (xs : List α) (i : Int) (h : 0 ≤ i) : atI xs i = xs[i.toNat]? := by
  obtain ⟨n, rfl⟩ : ∃ n : Nat, i = n := ⟨i.toNat, by omega⟩
  rw [atI_nat]; rfl
theorem cutL_len {α : Type} (xs : List α) (lo hi : Option Int) : (cutL xs lo hi).length ≤ xs.length := by
  unfold cutL
  rw [List.length_take, List.length_drop]
  omega
theorem sIx_ge (n d : Nat) (i : Int) (h : 0 ≤ i) : HT.sIx n d (some i) = min i.toNat n := by
  show (if i < 0 then (i + (n : Int)).toNat else min i.toNat n) = _
  rw [if_neg (by omega)]
/-- xs[:j] -/
theorem cut_to {α : Type} (xs : List α) (j : Int) (h : 0 ≤ j) : cutL xs none (some j) = xs.take j.toNat := by
  unfold cutL
  rw [sIx_ge _ _ _ h]
  show (xs.drop 0).take (min j.toNat xs.length - 0) = _
  rw [List.drop_zero, Nat.sub_zero]
  by_cases e : j.toNat ≤ xs.length
  · rw [Nat.min_eq_left e]
  · rw [Nat.min_eq_right (by omega), List.take_length, List.take_of_length_le (by omega)]
/-- xs[i:] -/
theorem cut_from {α : Type} (xs : List α) (i : Int) (h : 0 ≤ i) : cutL xs (some i) none = xs.drop i.toNat := by
  unfold cutL
  rw [sIx_ge _ _ _ h]
  show (xs.drop (min i.toNat xs.length)).take (xs.length - min i.toNat xs.length) = _
  by_cases e : i.toNat ≤ xs.length
  · rw [Nat.min_eq_left e, List.take_of_length_le (by simp)]
  · rw [Nat.min_eq_right (by omega), List.drop_length, List.drop_of_length_le (by omega)]; simp
/-- xs[i:j] -/
theorem cut_in {α : Type} (xs : List α) (i j : Int) (h : 0 ≤ i) (h2 : 0 ≤ j) : cutL xs (some i) (some j) = (xs.drop i.toNat).take (j.toNat - i.toNat) := by
  unfold cutL
  rw [sIx_ge _ _ _ h, sIx_ge _ _ _ h2]
  by_cases e : i.toNat ≤ xs.length
  · rw [Nat.min_eq_left e]
    by_cases e2 : j.toNat ≤ xs.length
    · rw [Nat.min_eq_left e2]
    · rw [Nat.min_eq_right (by omega)]
      rw [List.take_of_length_le (by simp), List.take_of_length_le (by simp; omega)]
  · have e3 : min i.toNat xs.length = xs.length := Nat.min_eq_right (by omega)
    rw [e3, List.drop_length, List.drop_of_length_le (by omega)]
    simp
end Nf
/-! the laws' own small defs: cells, digits; is_prices -/
namespace Nf
open PySem PySem.Spec L2
def ir__law_cell : Def := ⟨"_law_cell", 2, ["_law_script", "_law_at", "_law_number", "_law_cell_here"],
  (.cons (.iff (.cmp .lt (.cons (.var 1) (.cons (.op .len (.cons (.var 0) .nil)) .nil))) (.cons (.ret (.op .idx (.cons (.var 0) (.cons (.var 1) .nil)))) .nil) .nil) (.cons (.asg (.name 2) (.op .add (.cons (.cst (.int 104729)) (.cons (.op .mul (.cons (.op .mul (.cons (.cst (.int 7919)) (.cons (.var 1) .nil))) (.cons (.var 1) .nil))) .nil)))) (.cons (.loop (.name 3) (.ex (.op .sl01 (.cons (.var 0) (.cons (.cst (.int 63)) .nil)))) (.cons (.asg (.name 2) (.op .mod (.cons (.op .add (.cons (.op .mul (.cons (.var 2) (.cons (.cst (.int 613)) .nil))) (.cons (.var 3) .nil))) (.cons (.cst (.int 2147483629)) .nil)))) .nil)) (.cons (.asg (.name 2) (.op .mod (.cons (.op .add (.cons (.op .mul (.cons (.var 2) (.cons (.cst (.int 48271)) .nil))) (.cons (.op .mul (.cons (.cst (.int 16807)) (.cons (.var 1) .nil))) .nil))) (.cons (.cst (.int 2147483647)) .nil)))) (.cons (.ret (.op .mod (.cons (.op .mul (.cons (.var 2) (.cons (.var 2) .nil))) (.cons (.cst (.int 2147483629)) .nil)))) .nil)))))⟩

/-- a cell behind the script's end -/
def cellF (ns : List Int) (i : Int) : Int :=
  let a := (ns.take 63).foldl (fun a c => (a * 613 + c) % 2147483629) (104729 + 7919 * i * i)
  let b := (a * 48271 + 16807 * i) % 2147483647
  b * b % 2147483629
def cellV (ns : List Int) (i : Nat) : Int := if h : i < ns.length then ns[i] else cellF ns i
def encS (ns : List Int) : D := .fz (ns.map D.int)
def con_cell : Con := fun as K => ∃ ns i, as = [.sh (encS ns), .sh (.int ((i : Nat) : Int))] ∧ i ≤ 1000000 ∧ K (.ret (.v (.int (cellV ns i))) [])
theorem cellF_ge (ns : List Int) (i : Int) : 0 ≤ cellF ns i ∧ cellF ns i < 2147483629 := by
  unfold cellF
  exact ⟨Int.emod_nonneg _ (by decide), Int.emod_lt_of_pos _ (by decide)⟩
theorem ok_cell (Γ : String → Con) (gc : String → Option D) : DefOk Γ gc ir__law_cell con_cell := by
  rintro as K ⟨ns, i, rfl, hi, h⟩
  refine ite2 (fun e => ?_) (fun e => ?_)
  · have e' : ((i : Nat) : Int) < ((ns.map D.int).length : Int) := of_decide_eq_true e
    rw [List.length_map] at e'
    have hl : i < ns.length := by omega
    refine optW_some (a := .int ns[i]) ?_ ?_
    · rw [atI_nat, List.getElem?_map, List.getElem?_eq_getElem hl]; rfl
    · have : cellV ns i = ns[i] := dif_pos hl
      rw [this] at h
      exact h
  · have e' : ¬ ((i : Nat) : Int) < ((ns.map D.int).length : Int) := fun z => e (decide_eq_true z)
    rw [List.length_map] at e'
    have hl : ¬ i < ns.length := by omega
    have hv : cellV ns i = cellF ns i := dif_neg hl
    rw [hv] at h
    have hb : (i : Int) ≤ 1000000 := by omega
    have hb0 : (0 : Int) ≤ (i : Int) := by omega
    refine ⟨mulR (by omega) (by omega), mulR (by omega) (by omega), ?_⟩
    show forW _ _ (cutL (ns.map D.int) none (some 63)) _ _
    rw [cut_to _ _ (by decide), ← List.map_take]
    refine forW_pre D.int (fun pre env => ∃ g, env = [.sh (encS ns), .sh (.int ((i : Nat) : Int)), .sh (.int (pre.foldl (fun a c => (a * 613 + c) % 2147483629) (104729 + 7919 * (i : Int) * (i : Int)))), g]) ⟨_, rfl⟩ (fun pre x post env k e hI hk => ?_) fun env hI => ?_
    · obtain ⟨g, rfl⟩ := hI
      refine ⟨mulR (by decide) (by decide), (by decide : (0 : Int) < 2147483629), hk _ ⟨.sh (.int x), ?_⟩⟩
      rw [List.foldl_append]
      rfl
    · obtain ⟨g, rfl⟩ := hI
      refine ⟨mulR (by decide) (by decide), mulL (by decide) (by decide), (by decide : (0 : Int) < 2147483647), ?_⟩
      have hm : ∀ x : Int, 0 ≤ x % 2147483647 ∧ x % 2147483647 < 2147483647 := fun x => ⟨Int.emod_nonneg _ (by decide), Int.emod_lt_of_pos _ (by decide)⟩
      refine ⟨mulL ?_ ?_, (by decide : (0 : Int) < 2147483629), h⟩
      · have := (hm ((((ns.take 63).foldl (fun a c => (a * 613 + c) % 2147483629) (104729 + 7919 * (i : Int) * (i : Int))) * 48271 + 16807 * (i : Int)))).1; omega
      · have := (hm ((((ns.take 63).foldl (fun a c => (a * 613 + c) % 2147483629) (104729 + 7919 * (i : Int) * (i : Int))) * 48271 + 16807 * (i : Int)))).2; omega
def ir__law_digits : Def := ⟨"_law_digits", 3, ["_law_cell_here", "_law_base", "_law_many", "_law_found", "_law_left", "_law_k"],
  (.cons (.asg (.name 3) (.lst .nil)) (.cons (.asg (.name 4) (.var 0)) (.cons (.loop (.name 5) (.range (.cons (.var 2) .nil)) (.cons (.append 3 (.op .mod (.cons (.var 4) (.cons (.var 1) .nil)))) (.cons (.asg (.name 4) (.op .fdiv (.cons (.var 4) (.cons (.var 1) .nil)))) .nil))) (.cons (.iff (.andv (.cons (.cmp .gt (.cons (.var 2) (.cons (.cst (.int 0)) .nil))) (.cons (.cmp .eq (.cons (.var 4) (.cons (.cst (.int 0)) .nil))) (.cons (.cmp .eq (.cons (.op .idx (.cons (.var 3) (.cons (.op .neg (.cons (.cst (.int 1)) .nil)) .nil))) (.cons (.cst (.int 0)) .nil))) .nil)))) (.cons (.asg (.name 4) (.op .mod (.cons (.op .add (.cons (.op .mul (.cons (.var 0) (.cons (.cst (.int 48271)) .nil))) (.cons (.op .mul (.cons (.cst (.int 104729)) (.cons (.var 2) .nil))) .nil))) (.cons (.cst (.int 2147483647)) .nil)))) (.cons (.asg (.name 3) (.lst .nil)) (.cons (.loop (.name 5) (.range (.cons (.var 2) .nil)) (.cons (.asg (.name 4) (.op .mod (.cons (.op .add (.cons (.op .add (.cons (.op .mul (.cons (.var 4) (.cons (.cst (.int 69621)) .nil))) (.cons (.op .mul (.cons (.op .mul (.cons (.cst (.int 16807)) (.cons (.var 5) .nil))) (.cons (.var 5) .nil))) .nil))) (.cons (.cst (.int 7)) .nil))) (.cons (.cst (.int 2147483629)) .nil)))) (.cons (.append 3 (.op .mod (.cons (.op .fdiv (.cons (.op .mod (.cons (.op .mul (.cons (.var 4) (.cons (.var 4) .nil))) (.cons (.cst (.int 2147483647)) .nil))) (.cons (.cst (.int 3)) .nil))) (.cons (.var 1) .nil)))) .nil))) .nil))) .nil) (.cons (.ret (.var 3)) .nil)))))⟩

def dgA (c b : Int) : Nat → List Int × Int
  | 0 => ([], c)
  | i + 1 => ((dgA c b i).1 ++ [(dgA c b i).2 % b], (dgA c b i).2 / b)
def dgB (c b : Int) : Nat → List Int × Int
  | 0 => ([], c)
  | i + 1 => let l := ((dgB c b i).2 * 69621 + 16807 * (i : Nat) * (i : Nat) + 7) % 2147483629
    ((dgB c b i).1 ++ [l * l % 2147483647 / 3 % b], l)
/-- the digits -/
def digitsV (c b : Int) (n : Nat) : List Int := if 0 < n ∧ (dgA c b n).2 = 0 ∧ (dgA c b n).1.getLast? = some 0 then (dgB ((c * 48271 + 104729 * n) % 2147483647) b n).1 else (dgA c b n).1
theorem dgA_len (c b : Int) : ∀ n, (dgA c b n).1.length = n
  | 0 => rfl
  | n + 1 => by simp [dgA, dgA_len c b n]
theorem dgB_len (c b : Int) : ∀ n, (dgB c b n).1.length = n
  | 0 => rfl
  | n + 1 => by simp [dgB, dgB_len c b n]
theorem dgA_in {c b : Int} (hb : 0 < b) : ∀ n, ∀ d ∈ (dgA c b n).1, 0 ≤ d ∧ d < b
  | 0, d, h => by cases h
  | n + 1, d, h => by
    rcases List.mem_append.mp h with h | h
    · exact dgA_in hb n d h
    · rw [List.mem_singleton.mp h]
      exact ⟨Int.emod_nonneg _ (by omega), Int.emod_lt_of_pos _ hb⟩
theorem dgB_in {c b : Int} (hb : 0 < b) : ∀ n, ∀ d ∈ (dgB c b n).1, 0 ≤ d ∧ d < b
  | 0, d, h => by cases h
  | n + 1, d, h => by
    rcases List.mem_append.mp h with h | h
    · exact dgB_in hb n d h
    · rw [List.mem_singleton.mp h]
      exact ⟨Int.emod_nonneg _ (by omega), Int.emod_lt_of_pos _ hb⟩
theorem dgB_le {c b : Int} (h : 0 ≤ c ∧ c < 2147483647) : ∀ n, 0 ≤ (dgB c b n).2 ∧ (dgB c b n).2 < 2147483647
  | 0 => h
  | n + 1 => by
    show 0 ≤ _ % 2147483629 ∧ _ % 2147483629 < (2147483647 : Int)
    exact ⟨Int.emod_nonneg _ (by decide), Int.lt_of_lt_of_le (Int.emod_lt_of_pos _ (by decide)) (by decide)⟩
theorem digitsV_len (c b : Int) (n : Nat) : (digitsV c b n).length = n := by
  unfold digitsV
  split
  · exact dgB_len _ _ _
  · exact dgA_len _ _ _
theorem digitsV_in {c b : Int} {n : Nat} (hb : 0 < b) : ∀ d ∈ digitsV c b n, 0 ≤ d ∧ d < b := by
  unfold digitsV
  split
  · exact dgB_in hb n
  · exact dgA_in hb n
def con_digits : Con := fun as K => ∃ c b n, as = [.sh (.int c), .sh (.int b), .sh (.int ((n : Nat) : Int))] ∧ 0 < b ∧ b < 2 ^ 64 ∧ n ≤ 10000 ∧ K (.ret (.t (.lst ((digitsV c b n).map D.int))) [])
theorem fdivOk {j : Int} (h : 0 < j) (h2 : j < 2 ^ 64) : 0 < j ∧ j.natAbs.log2 < 9000 := by
  refine ⟨h, ?_⟩
  have h3 : j.natAbs < 2 ^ 64 := by omega
  have h4 : j.natAbs.log2 < 64 := (Nat.log2_lt (by omega)).mpr h3
  omega
theorem ok_digits (Γ : String → Con) (gc : String → Option D) : DefOk Γ gc ir__law_digits con_digits := by
  rintro as K ⟨c, b, n, rfl, hb, hb2, hn, h⟩
  refine ⟨⟨by omega, by omega⟩, ?_⟩
  refine forW_ix (n := n) (fun i env => ∃ g, env = [.sh (.int c), .sh (.int b), .sh (.int ((n : Nat) : Int)), .ow (.lst ((dgA c b i).1.map D.int)), .sh (.int (dgA c b i).2), g]) ⟨_, rfl⟩ (fun i env k hi hI hk => ?_) fun env hI => ?_
  · obtain ⟨g, rfl⟩ := hI
    refine ⟨hb, ?_⟩
    refine ⟨size_small (by rw [List.length_map, dgA_len]; omega), fdivOk hb hb2, hk _ ⟨.sh (.int (0 + (i : Nat))), ?_⟩⟩
    simp [dgA]
  · obtain ⟨g, rfl⟩ := hI
    have fin0 : digitsV c b n = (dgA c b n).1 → finW [] K (.l 3) [.sh (.int c), .sh (.int b), .sh (.int ((n : Nat) : Int)), .ow (.lst ((dgA c b n).1.map D.int)), .sh (.int (dgA c b n).2), g] := fun e => by rw [e] at h; exact h
    refine ite2 (fun e1 => ?_) (fun e1 => ?_)
    · have hn0 : (0 : Int) < ((n : Nat) : Int) := of_decide_eq_true e1
      refine ⟨rfl, rfl, ite2 (fun e2 => ?_) (fun e2 => ?_)⟩
      · have e2' : (dgA c b n).2 = 0 := eq_of_beq e2
        obtain ⟨l, x, hl⟩ : ∃ l x, (dgA c b n).1 = l ++ [x] := by
          cases n with
          | zero => omega
          | succ n => exact ⟨_, _, rfl⟩
        refine optW_some (a := .int x) (by rw [hl, List.map_append]; exact atI_last _ _) ?_
        refine ⟨rfl, rfl, ite2 (fun e3 => ?_) (fun e3 => ?_)⟩
        · have e3' : x = 0 := eq_of_beq e3
          have hd : digitsV c b n = (dgB ((c * 48271 + 104729 * n) % 2147483647) b n).1 := if_pos ⟨by omega, e2', by rw [hl, e3']; simp⟩
          rw [hd] at h
          refine ⟨mulR (by decide) (by decide), mulL (by decide) (by decide), (by decide : (0 : Int) < 2147483647), ⟨by omega, by omega⟩, ?_⟩
          have hc0 : 0 ≤ (c * 48271 + 104729 * (n : Int)) % 2147483647 ∧ (c * 48271 + 104729 * (n : Int)) % 2147483647 < 2147483647 := ⟨Int.emod_nonneg _ (by decide), Int.emod_lt_of_pos _ (by decide)⟩
          refine forW_ix (n := n) (fun i env => ∃ g, env = [.sh (.int c), .sh (.int b), .sh (.int ((n : Nat) : Int)), .ow (.lst ((dgB ((c * 48271 + 104729 * (n : Int)) % 2147483647) b i).1.map D.int)), .sh (.int (dgB ((c * 48271 + 104729 * (n : Int)) % 2147483647) b i).2), g]) ⟨_, rfl⟩ (fun i env k hi hI hk => ?_) fun env hI => ?_
          · obtain ⟨g, rfl⟩ := hI
            have hm := dgB_le (b := b) hc0 i
            have hm2 := dgB_le (b := b) hc0 (i + 1)
            refine ⟨mulR (by decide) (by decide), mulL (by decide) (by decide), mulR (by omega) (by omega), (by decide : (0 : Int) < 2147483629), ?_⟩
            have hi0 : (0 : Int) + (i : Nat) = (i : Nat) := by omega
            have e5 : ((dgB ((c * 48271 + 104729 * (n : Int)) % 2147483647) b i).2 * 69621 + 16807 * (0 + ((i : Nat) : Int)) * (0 + ((i : Nat) : Int)) + 7) % 2147483629 = (dgB ((c * 48271 + 104729 * (n : Int)) % 2147483647) b (i + 1)).2 := by rw [hi0]; rfl
            have hlt : ((dgB ((c * 48271 + 104729 * (n : Int)) % 2147483647) b i).2 * 69621 + 16807 * (0 + ((i : Nat) : Int)) * (0 + ((i : Nat) : Int)) + 7) % 2147483629 < 2 ^ 64 := by rw [e5]; omega
            have hge : -(2 ^ 64) < ((dgB ((c * 48271 + 104729 * (n : Int)) % 2147483647) b i).2 * 69621 + 16807 * (0 + ((i : Nat) : Int)) * (0 + ((i : Nat) : Int)) + 7) % 2147483629 := by rw [e5]; omega
            refine ⟨mulL hge hlt, (by decide : (0 : Int) < 2147483647), ⟨by decide, by decide⟩, hb, size_small (by rw [List.length_map, dgB_len]; omega), hk _ ⟨.sh (.int (0 + (i : Nat))), ?_⟩⟩
            rw [e5]
            have e6 : (dgB ((c * 48271 + 104729 * (n : Int)) % 2147483647) b (i + 1)).1 = (dgB ((c * 48271 + 104729 * (n : Int)) % 2147483647) b i).1 ++ [(dgB ((c * 48271 + 104729 * (n : Int)) % 2147483647) b (i + 1)).2 * (dgB ((c * 48271 + 104729 * (n : Int)) % 2147483647) b (i + 1)).2 % 2147483647 / 3 % b] := rfl
            rw [e6, List.map_append]
            rfl
          · obtain ⟨g, rfl⟩ := hI
            exact h
        · refine fin0 (if_neg fun z => ?_)
          obtain ⟨_, _, z⟩ := z
          rw [hl] at z
          simp at z
          exact e3 (beq_iff_eq.mpr z)
      · exact fin0 (if_neg fun z => e2 (beq_iff_eq.mpr z.2.1))
    · exact fin0 (if_neg fun z => e1 (decide_eq_true (show (0 : Int) < (n : Nat) by omega)))
theorem len_cell : ∀ as K, con_cell as K → as.length = 2 := by rintro as K ⟨_, _, rfl, _⟩; rfl
theorem len_digits : ∀ as K, con_digits as K → as.length = 3 := by rintro as K ⟨_, _, _, rfl, _⟩; rfl
end Nf
/-! pools of letters, texts -/
namespace Nf
open PySem PySem.Spec L2
def enc1 (c : Nat) : D := .str [c]
def abc : List Nat := [97, 98, 99, 100, 101, 102, 103, 104, 105, 106, 107, 108, 109, 110, 111, 112, 113, 114, 115, 116, 117, 118, 119, 120, 121, 122]
def ir__law_pool : Def := ⟨"_law_pool", 1, ["_law_cell_here", "_law_letters", "_law_few", "_law_k"],
  (.cons (.asg (.name 1) (.cst (.str [97, 98, 99, 100, 101, 102, 103, 104, 105, 106, 107, 108, 109, 110, 111, 112, 113, 114, 115, 116, 117, 118, 119, 120, 121, 122]))) (.cons (.asg (.name 2) (.op .idx (.cons (.lst (.cons (.cst (.int 26)) (.cons (.cst (.int 2)) (.cons (.cst (.int 3)) (.cons (.cst (.int 4)) .nil))))) (.cons (.op .mod (.cons (.var 0) (.cons (.cst (.int 4)) .nil))) .nil)))) (.cons (.ret (.comp (.op .idx (.cons (.var 1) (.cons (.op .mod (.cons (.op .add (.cons (.op .fdiv (.cons (.var 0) (.cons (.cst (.int 4)) .nil))) (.cons (.var 3) .nil))) (.cons (.cst (.int 26)) .nil))) .nil))) (.name 3) (.range (.cons (.var 2) .nil)) .no [3])) .nil)))⟩

def fewV (c : Int) : Nat := match (c % 4).toNat with
  | 0 => 26
  | 1 => 2
  | 2 => 3
  | _ => 4
def poolV (c : Int) : List Nat := (List.range (fewV c)).map fun k => 97 + ((c / 4 + (k : Nat)) % 26).toNat
theorem fewV_in (c : Int) : 2 ≤ fewV c ∧ fewV c ≤ 26 := by
  unfold fewV
  split <;> decide
theorem poolV_len (c : Int) : (poolV c).length = fewV c := by unfold poolV; simp
theorem abc_get {j : Nat} (h : j < 26) : abc[j]? = some (97 + j) := by
  have key : ∀ j : Fin 26, abc[j.val]? = some (97 + j.val) := by decide
  exact key ⟨j, h⟩
theorem poolV_in (c : Int) : ∀ x ∈ poolV c, 97 ≤ x ∧ x ≤ 122 := by
  intro x hx
  obtain ⟨k, _, rfl⟩ := List.mem_map.mp hx
  have h1 : 0 ≤ (c / 4 + (k : Nat)) % 26 := Int.emod_nonneg _ (by decide)
  have h2 : (c / 4 + (k : Nat)) % 26 < 26 := Int.emod_lt_of_pos _ (by decide)
  omega
def con_pool : Con := fun as K => ∃ c, as = [.sh (.int c)] ∧ K (.ret (.t (.lst ((poolV c).map enc1))) [])
theorem ok_pool (Γ : String → Con) (gc : String → Option D) : DefOk Γ gc ir__law_pool con_pool := by
  rintro as K ⟨c, rfl, h⟩
  have hf := fewV_in c
  have go : ∀ n : Nat, fewV c = n → atI [D.int 26, .int 2, .int 3, .int 4] (c % 4) = some (.int (n : Nat)) := by
    intro n hn
    have e : c % 4 = 0 ∨ c % 4 = 1 ∨ c % 4 = 2 ∨ c % 4 = 3 := by omega
    unfold fewV at hn
    rcases e with e | e | e | e <;> rw [e] at hn ⊢ <;> subst hn <;> rfl
  refine ⟨(by decide : (0 : Int) < 4), optW_some (go _ rfl) ?_⟩
  refine ⟨⟨by omega, by omega⟩, ?_⟩
  refine compW_fm (xs := List.range (fewV c)) (fun i : Nat => D.int (0 + (i : Nat))) (fun k => some (enc1 (97 + ((c / 4 + (k : Nat)) % 26).toNat))) (by rw [List.length_range]; omega) (fun x hx kt kf h1 h2 => ?_) ?_
  · refine ⟨⟨by decide, by decide⟩, (by decide : (0 : Int) < 26), by decide, ?_⟩
    have e0 : (0 : Int) + ((x : Nat) : Int) = (x : Nat) := by omega
    have m1 : 0 ≤ (c / 4 + (0 + ((x : Nat) : Int))) % 26 := Int.emod_nonneg _ (by decide)
    have m2 : (c / 4 + (0 + ((x : Nat) : Int))) % 26 < 26 := Int.emod_lt_of_pos _ (by decide)
    refine optW_some (a := 97 + ((c / 4 + (0 + ((x : Nat) : Int))) % 26).toNat) ?_ (h1 _ ?_ _ rfl)
    · show atI abc _ = _
      rw [atI_int _ _ m1]
      exact abc_get (by omega)
    · rw [e0]; rfl
  · rw [List.filterMap_eq_map']
    have e : (List.range (fewV c)).map (fun k => enc1 (97 + ((c / 4 + (k : Nat)) % 26).toNat)) = (poolV c).map enc1 := by unfold poolV; rw [List.map_map]; rfl
    rw [e]
    exact h
theorem len_pool : ∀ as K, con_pool as K → as.length = 1 := by rintro as K ⟨_, rfl, _⟩; rfl
def ir__law_text : Def := ⟨"_law_text", 3, ["_law_pool_here", "_law_cell_here", "_law_many", "_law_digit"],
  (.cons (.ret (.mop .join (.cst (.str [])) (.cons (.comp (.op .idx (.cons (.var 0) (.cons (.var 3) .nil))) (.name 3) (.ex (.call "_law_digits" (.cons (.var 1) (.cons (.op .len (.cons (.var 0) .nil)) (.cons (.var 2) .nil))) [] [])) .no [3]) .nil))) .nil)⟩

def textV (p : List Nat) (c : Int) (n : Nat) : List Nat := (digitsV c (p.length : Nat) n).map fun d => p.getD d.toNat 0
theorem textV_len (p : List Nat) (c : Int) (n : Nat) : (textV p c n).length = n := by unfold textV; rw [List.length_map, digitsV_len]
theorem textV_in {p : List Nat} {c : Int} {n : Nat} (hp : 0 < p.length) : ∀ x ∈ textV p c n, x ∈ p := by
  intro x hx
  obtain ⟨d, hd, rfl⟩ := List.mem_map.mp hx
  have := digitsV_in (c := c) (n := n) (b := (p.length : Nat)) (by omega) d hd
  have h : d.toNat < p.length := by omega
  rw [List.getD_eq_getElem?_getD, List.getElem?_eq_getElem h]
  exact List.getElem_mem h
def con_text : Con := fun as K => ∃ (p : List Nat) (c : Int) (n : Nat), as = [.sh (.lst (p.map enc1)), .sh (.int c), .sh (.int ((n : Nat) : Int))] ∧ 0 < p.length ∧ p.length ≤ 1000 ∧ n ≤ 10000 ∧ K (.ret (.v (.str (textV p c n))) [])
theorem flat1 (l : List Nat) : (l.map fun x => [x]).flatten = l := by
  induction l with
  | nil => rfl
  | cons x l ih => rw [List.map_cons, List.flatten_cons, ih]; rfl
theorem sum1 (l : List Nat) : ((l.map fun x => [x]).map (·.length)).sum = l.length := by
  induction l with
  | nil => rfl
  | cons x l ih => rw [List.map_cons, List.map_cons, List.sum_cons, ih, List.length_cons]; simp; omega
theorem ok_text (Γ : String → Con) (gc : String → Option D) (hd : Has Γ "_law_digits" con_digits) : DefOk Γ gc ir__law_text con_text := by
  rintro as K ⟨p, c, n, rfl, hp, hp2, hn, h⟩
  have hL : (p.map enc1).length = p.length := List.length_map _
  refine hd _ _ ⟨c, ((p.map enc1).length : Nat), n, rfl, by rw [hL]; omega, by rw [hL]; omega, hn, ?_⟩
  have hlen : (digitsV c ((p.map enc1).length : Nat) n).length = n := digitsV_len _ _ _
  have hin := digitsV_in (c := c) (n := n) (b := ((p.map enc1).length : Nat)) (by rw [hL]; omega)
  have ht : textV p c n = (digitsV c ((p.map enc1).length : Nat) n).map fun d => p.getD d.toNat 0 := by unfold textV; rw [hL]
  generalize digitsV c ((p.map enc1).length : Nat) n = ds at hlen hin ht
  refine compW_fm (xs := ds) D.int (fun d => some (enc1 (p.getD d.toNat 0))) (by omega) (fun x hx kt kf h1 h2 => ?_) ?_
  · have hx' := hin x hx
    rw [hL] at hx'
    have hb : x.toNat < p.length := by omega
    refine optW_some (a := enc1 (p.getD x.toNat 0)) ?_ (h1 _ rfl _ rfl)
    rw [atI_int _ _ hx'.1, List.getElem?_map, List.getD_eq_getElem?_getD, List.getElem?_eq_getElem hb]
    rfl
  · rw [List.filterMap_eq_map']
    refine ⟨(textV p c n).map fun x => [x], ?_, ?_, ?_⟩
    · rw [ht, List.map_map, List.map_map]; rfl
    · rw [sum1, textV_len]; omega
    · rw [flat1]; exact h
theorem len_text : ∀ as K, con_text as K → as.length = 3 := by rintro as K ⟨_, _, _, rfl, _⟩; rfl
end Nf
/-! patterns: shown, read -/
namespace Nf
open PySem PySem.Spec L2
/-- signs that occur: letters and a few more -/
def plainS (s : List Nat) : Prop := s.length ≤ 2000 ∧ ∀ c ∈ s, c < 128
theorem eqOk_str {s : List Nat} (h : plainS s) : eqOk (.str s) = true := by
  show (PySem.PyData.canLay0 (.str ⟨s.toArray⟩) && decide (PySem.PyData.depth (.str ⟨s.toArray⟩) ≤ 64)) = true
  have h1 : PySem.PyData.canLay0 (.str ⟨s.toArray⟩) = true := by
    simp only [PySem.PyData.canLay0]
    show (s.toArray.all fun c => decide (c < 0x110000)) = true
    rw [List.all_toArray, List.all_eq_true]
    intro c hc
    have := h.2 c hc
    exact decide_eq_true (by omega)
  have h2 : PySem.PyData.depth (.str ⟨s.toArray⟩) ≤ 64 := by simp [PySem.PyData.depth]
  rw [h1, decide_eq_true h2]; rfl
theorem deq_str (a b : List Nat) : deq (.str a) (.str b) = decide (a = b) := by
  show ((⟨a.toArray⟩ : Str) == ⟨b.toArray⟩) = decide (a = b)
  by_cases h : a = b
  · subst h; simp
  · rw [decide_eq_false h]
    refine beq_eq_false_iff_ne.mpr fun z => h ?_
    have := congrArg (fun x : Str => x.cps.toList) z
    simpa using this
theorem deq_int (a b : Int) : deq (.int a) (.int b) = decide (a = b) := by
  show (a == b) = decide (a = b)
  by_cases h : a = b <;> simp [h]
theorem plain_abc : plainS abc := ⟨by decide, by decide⟩
theorem plain_one {c : Nat} (h : c < 128) : plainS [c] := ⟨by simp, by simpa using h⟩
def encP (p : List (List Nat)) : D := .tup (p.map D.str)
def ir_pattern_of : Def := ⟨"pattern_of", 1, ["word"],
  (.cons (.ret (.op .tuple1 (.cons (.op .list1 (.cons (.var 0) .nil)) .nil))) .nil)⟩

def con_pattern_of : Con := fun as K => ∃ w : List Nat, as = [.sh (.str w)] ∧ w.length ≤ 100000 ∧ K (.ret (.v (encP (w.map fun c => [c]))) [])
theorem ok_pattern_of (Γ : String → Con) (gc : String → Option D) : DefOk Γ gc ir_pattern_of con_pattern_of := by
  rintro as K ⟨w, rfl, hw, h⟩
  refine ⟨size_le hw, ?_⟩
  have e : encP (w.map fun c => [c]) = .tup (w.map fun c => D.str [c]) := by unfold encP; rw [List.map_map]; rfl
  rw [e] at h
  exact h
theorem len_pattern_of : ∀ as K, con_pattern_of as K → as.length = 1 := by rintro as K ⟨_, rfl, _⟩; rfl
def ir_show_pattern : Def := ⟨"show_pattern", 1, ["pattern", "text", "one"],
  (.cons (.asg (.name 1) (.cst (.str []))) (.cons (.loop (.name 2) (.ex (.var 0)) (.cons (.iff (.cmp .eq (.cons (.var 2) (.cons (.gl "LETTERS") .nil))) (.cons (.aug 1 .add (.cst (.str [46]))) .nil) (.cons (.iff (.cmp .eq (.cons (.op .len (.cons (.var 2) .nil)) (.cons (.cst (.int 1)) .nil))) (.cons (.aug 1 .add (.var 2)) .nil) (.cons (.aug 1 .add (.op .add (.cons (.op .add (.cons (.cst (.str [91])) (.cons (.var 2) .nil))) (.cons (.cst (.str [93])) .nil)))) .nil)) .nil)) .nil)) (.cons (.ret (.var 1)) .nil)))⟩

def showV1 (one : List Nat) : List Nat := if one = abc then [46] else if one.length = 1 then one else [91] ++ one ++ [93]
def showV (p : List (List Nat)) : List Nat := (p.map showV1).flatten
def con_show : Con := fun as K => ∃ p, as = [.sh (encP p)] ∧ (∀ one ∈ p, one.length ≤ 26 ∧ ∀ c ∈ one, c < 128) ∧ p.length ≤ 1000 ∧ K (.ret (.v (.str (showV p))) [])
theorem showV1_len {one : List Nat} (h : one.length ≤ 26) : (showV1 one).length ≤ 28 := by
  unfold showV1
  split
  · simp
  · split
    · omega
    · simp; omega
theorem flat_len {α : Type} {f : α → List Nat} {n : Nat} : ∀ {l : List α}, (∀ x ∈ l, (f x).length ≤ n) → ((l.map f).flatten).length ≤ n * l.length
  | [], _ => Nat.zero_le _
  | x :: l, h => by
    rw [List.map_cons, List.flatten_cons, List.length_append, List.length_cons, Nat.mul_succ]
    have := flat_len (l := l) fun y hy => h y (List.mem_cons_of_mem _ hy)
    have := h x List.mem_cons_self
    omega
theorem ok_show (Γ : String → Con) (gc : String → Option D) (hl : gc "LETTERS" = some (.str abc)) : DefOk Γ gc ir_show_pattern con_show := by
  rintro as K ⟨p, rfl, hp, hn, h⟩
  refine forW_pre D.str (fun pre env => ∃ g, env = [.sh (encP p), .sh (.str (showV pre)), g]) ⟨_, rfl⟩ (fun pre x post env k e hI hk => ?_) fun env hI => ?_
  · obtain ⟨g, rfl⟩ := hI
    have hx := hp x (by rw [e]; simp)
    have hb : (showV pre).length ≤ 28000 := by
      have h1 := flat_len (f := showV1) (n := 28) (l := pre) fun y hy => showV1_len (hp y (by rw [e]; simp [hy])).1
      have h2 := congrArg List.length e
      simp at h2
      have : (showV pre).length ≤ 28 * pre.length := h1
      omega
    have hs : showV (pre ++ [x]) = showV pre ++ showV1 x := by unfold showV; simp
    rw [hs] at hk
    have px : plainS x := ⟨by omega, hx.2⟩
    refine optW_some hl ⟨eqOk_str px, eqOk_str plain_abc, ite2 (fun e1 => ?_) (fun e1 => ?_)⟩
    · have e1' : x = abc := by rw [deq_str] at e1; exact of_decide_eq_true e1
      have e2 : showV1 x = [46] := if_pos e1'
      rw [e2] at hk
      exact ⟨size_le (by show _ + 1 ≤ _; omega), hk _ ⟨_, rfl⟩⟩
    · have e1' : x ≠ abc := by rw [deq_str] at e1; exact fun z => e1 (decide_eq_true z)
      refine ⟨size_le (by omega), rfl, rfl, ite2 (fun e2 => ?_) (fun e2 => ?_)⟩
      · have e2' : x.length = 1 := by rw [deq_int] at e2; have := of_decide_eq_true e2; omega
        have e3 : showV1 x = x := by unfold showV1; rw [if_neg e1', if_pos e2']
        rw [e3] at hk
        exact ⟨size_le (by omega), hk _ ⟨_, rfl⟩⟩
      · have e2' : x.length ≠ 1 := fun z => e2 (by rw [deq_int]; exact decide_eq_true (by omega))
        have e3 : showV1 x = [91] ++ x ++ [93] := by unfold showV1; rw [if_neg e1', if_neg e2']
        rw [e3] at hk
        exact ⟨size_le (by show 1 + _ ≤ _; omega), size_le (by show ([91] ++ x).length + 1 ≤ _; simp; omega), size_le (by show _ + ([91] ++ x ++ [93]).length ≤ _; simp; omega), hk _ ⟨_, rfl⟩⟩
  · obtain ⟨g, rfl⟩ := hI
    exact h
theorem len_show : ∀ as K, con_show as K → as.length = 1 := by rintro as K ⟨_, rfl, _⟩; rfl
def ir_is_rising : Def := ⟨"is_rising", 1, ["one", "ahead", "sign"],
  (.cons (.asg (.name 1) (.cst (.str []))) (.cons (.loop (.name 2) (.ex (.var 0)) (.cons (.iff (.orv (.cons (.cmp .notin (.cons (.var 2) (.cons (.gl "LETTERS") .nil))) (.cons (.cmp .le (.cons (.var 2) (.cons (.var 1) .nil))) .nil))) (.cons (.ret (.cst (.bl false))) .nil) .nil) (.cons (.asg (.name 1) (.var 2)) .nil))) (.cons (.ret (.cst (.bl true))) .nil)))⟩

def risingA : List Nat → List Nat → Bool
  | _, [] => true
  | ah, c :: r => if c ∈ abc ∧ ah < [c] then risingA [c] r else false
def con_rising : Con := fun as K => ∃ s, as = [.sh (.str s)] ∧ K (.ret (.v (.bl (risingA [] s))) [])
theorem ok_rising (Γ : String → Con) (gc : String → Option D) (hl : gc "LETTERS" = some (.str abc)) : DefOk Γ gc ir_is_rising con_rising := by
  rintro as K ⟨s, rfl, h⟩
  refine forW_pre (fun c : Nat => D.str [c]) (fun pre env => ∃ ah g, env = [.sh (.str s), .sh (.str ah), g] ∧ ∀ post, s = pre ++ post → risingA [] s = risingA ah post) ⟨[], _, rfl, fun post e => by rw [e]; rfl⟩ (fun pre x post env k e hI hk => ?_) fun env hI => ?_
  · obtain ⟨ah, g, rfl, ha⟩ := hI
    have e0 := ha (x :: post) e
    refine optW_some hl (ite2 (fun e1 => ?_) (fun e1 => ?_))
    · have e1' : ¬ x ∈ abc := by simpa using e1
      have : risingA [] s = false := by rw [e0]; exact if_neg fun z => e1' z.1
      rw [this] at h
      exact h
    · have e1' : x ∈ abc := by
        have : ¬ (!decide (x ∈ abc)) = true := e1
        simpa using this
      refine ite2 (fun e2 => ?_) (fun e2 => ?_)
      · have e2' : ¬ ah < [x] := by
          have : (!decide (ah < [x])) = true := e2
          simpa using this
        have : risingA [] s = false := by rw [e0]; exact if_neg fun z => e2' z.2
        rw [this] at h
        exact h
      · have e2' : ah < [x] := by
          have : ¬ (!decide (ah < [x])) = true := e2
          simpa using this
        refine hk _ ⟨[x], _, rfl, fun post' e3 => ?_⟩
        have e4 : post' = post := by
          rw [e, List.append_assoc] at e3
          have := List.append_cancel_left e3
          simpa using this.symm
        subst e4
        rw [e0]
        exact if_pos ⟨e1', e2'⟩
  · obtain ⟨ah, g, rfl, ha⟩ := hI
    have e0 := ha [] (by simp)
    rw [e0] at h
    exact h
theorem len_rising : ∀ as K, con_rising as K → as.length = 1 := by rintro as K ⟨_, rfl, _⟩; rfl
end Nf
/-! columns -/
namespace Nf
open PySem PySem.Spec L2
def encO : Option Int → D
  | none => .non
  | some i => .int i
def encCol (c : List (Option Int)) : D := .tup (c.map encO)
/-- the prices: a sign of the text alone, a lacking one, an exchanged one, a turned pair -/
structure Pr where
  ins : Int
  lack : Int
  exch : Int
  turn : Int
def encPr (p : Pr) : D := .tup [.int p.ins, .int p.lack, .int p.exch, .int p.turn]
def ir_fits : Def := ⟨"fits", 2, ["one", "sign"],
  (.cons (.ret (.op .inn (.cons (.var 1) (.cons (.var 0) .nil)))) .nil)⟩

def con_fits : Con := fun as K => ∃ (z : List Nat) (c : Nat), as = [.sh (.str z), .sh (.str [c])] ∧ K (.ret (.v (.bl (decide (c ∈ z)))) [])
theorem ok_fits (Γ : String → Con) (gc : String → Option D) : DefOk Γ gc ir_fits con_fits := by
  rintro as K ⟨z, c, rfl, h⟩
  exact h
theorem len_fits : ∀ as K, con_fits as K → as.length = 2 := by rintro as K ⟨_, _, rfl, _⟩; rfl
def ir_lower : Def := ⟨"lower", 2, ["one", "other"],
  (.cons (.iff (.cmp .is (.cons (.var 0) (.cons (.cst .non) .nil))) (.cons (.ret (.var 1)) .nil) .nil) (.cons (.iff (.cmp .is (.cons (.var 1) (.cons (.cst .non) .nil))) (.cons (.ret (.var 0)) .nil) .nil) (.cons (.ret (.op .min2 (.cons (.var 0) (.cons (.var 1) .nil)))) .nil)))⟩

def lowerO : Option Int → Option Int → Option Int
  | none, b => b
  | some a, none => some a
  | some a, some b => some (min a b)
def con_lower : Con := fun as K => ∃ a b, as = [.sh (encO a), .sh (encO b)] ∧ K (.ret (.v (encO (lowerO a b))) [])
theorem ok_lower (Γ : String → Con) (gc : String → Option D) : DefOk Γ gc ir_lower con_lower := by
  rintro as K ⟨a, b, rfl, h⟩
  cases a <;> cases b <;> exact h
theorem len_lower : ∀ as K, con_lower as K → as.length = 2 := by rintro as K ⟨_, _, rfl, _⟩; rfl
def ir_dearer : Def := ⟨"dearer", 2, ["price", "by"],
  (.cons (.iff (.orv (.cons (.cmp .is (.cons (.var 0) (.cons (.cst .non) .nil))) (.cons (.cmp .eq (.cons (.var 1) (.cons (.cst (.int 0)) .nil))) .nil))) (.cons (.ret (.cst .non)) .nil) .nil) (.cons (.ret (.op .add (.cons (.var 0) (.cons (.var 1) .nil)))) .nil))⟩

def dearerO : Option Int → Int → Option Int
  | none, _ => none
  | some a, b => if b = 0 then none else some (a + b)
def con_dearer : Con := fun as K => ∃ a b, as = [.sh (encO a), .sh (.int b)] ∧ K (.ret (.v (encO (dearerO a b))) [])
theorem ok_dearer (Γ : String → Con) (gc : String → Option D) : DefOk Γ gc ir_dearer con_dearer := by
  rintro as K ⟨a, b, rfl, h⟩
  cases a with
  | none => exact h
  | some i =>
    refine ⟨rfl, rfl, ite2 (fun e => ?_) (fun e => ?_)⟩
    · have e' : b = 0 := by rw [deq_int] at e; exact of_decide_eq_true e
      rw [e'] at h
      exact h
    · have e' : b ≠ 0 := fun z => e (by rw [deq_int]; exact decide_eq_true z)
      rw [show dearerO (some i) b = some (i + b) from if_neg e'] at h
      exact h
theorem len_dearer : ∀ as K, con_dearer as K → as.length = 2 := by rintro as K ⟨_, _, rfl, _⟩; rfl
def ir_met : Def := ⟨"met", 4, ["price", "one", "sign", "exchanged"],
  (.cons (.iff (.ex (.call "fits" (.cons (.var 1) (.cons (.var 2) .nil)) [] [])) (.cons (.ret (.var 0)) .nil) .nil) (.cons (.ret (.call "dearer" (.cons (.var 0) (.cons (.var 3) .nil)) [] [])) .nil))⟩

def metO (p : Option Int) (one : List Nat) (c : Nat) (ex : Int) : Option Int := if c ∈ one then p else dearerO p ex
def con_met : Con := fun as K => ∃ p one c ex, as = [.sh (encO p), .sh (.str one), .sh (.str [c]), .sh (.int ex)] ∧ K (.ret (.v (encO (metO p one c ex))) [])
theorem encO_ret {K : R → Prop} {o : Option Int} (h : K (.v (encO o))) : K (.v (encO o)) := h
theorem ok_met (Γ : String → Con) (gc : String → Option D) (hf : Has Γ "fits" con_fits) (hd : Has Γ "dearer" con_dearer) : DefOk Γ gc ir_met con_met := by
  rintro as K ⟨p, one, c, ex, rfl, h⟩
  refine hf _ _ ⟨one, c, rfl, ite2 (fun e => ?_) (fun e => ?_)⟩
  · have e' : c ∈ one := of_decide_eq_true e
    rw [show metO p one c ex = p from if_pos e'] at h
    exact h
  · have e' : ¬ c ∈ one := fun z => e (decide_eq_true z)
    rw [show metO p one c ex = dearerO p ex from if_neg e'] at h
    exact hd _ _ ⟨p, ex, rfl, h⟩
theorem len_met : ∀ as K, con_met as K → as.length = 4 := by rintro as K ⟨_, _, _, _, rfl, _⟩; rfl
def ir_crossed : Def := ⟨"crossed", 3, ["pattern", "at", "signs"],
  (.cons (.ret (.andv (.cons (.call "fits" (.cons (.op .idx (.cons (.var 0) (.cons (.op .sub (.cons (.var 1) (.cons (.cst (.int 2)) .nil))) .nil))) (.cons (.op .idx (.cons (.var 2) (.cons (.cst (.int 1)) .nil))) .nil)) [] []) (.cons (.call "fits" (.cons (.op .idx (.cons (.var 0) (.cons (.op .sub (.cons (.var 1) (.cons (.cst (.int 1)) .nil))) .nil))) (.cons (.op .idx (.cons (.var 2) (.cons (.cst (.int 0)) .nil))) .nil)) [] []) .nil)))) .nil)⟩

def con_crossed : Con := fun as K => ∃ (p : List (List Nat)) (k pv cur : Nat), as = [.sh (encP p), .sh (.int ((k + 2 : Nat) : Int)), .sh (.str [pv, cur])] ∧ k + 2 ≤ p.length ∧ K (.ret (.v (.bl (decide (cur ∈ p.getD k []) && decide (pv ∈ p.getD (k + 1) [])))) [])
theorem getP {p : List (List Nat)} {k : Nat} (h : k < p.length) : atI (p.map D.str) ((k : Nat) : Int) = some (.str (p.getD k [])) := by
  rw [atI_nat, List.getElem?_map, List.getD_eq_getElem?_getD, List.getElem?_eq_getElem h]; rfl
theorem ok_crossed (Γ : String → Con) (gc : String → Option D) (hf : Has Γ "fits" con_fits) : DefOk Γ gc ir_crossed con_crossed := by
  rintro as K ⟨p, k, pv, cur, rfl, hk, h⟩
  have hz : ([pv, cur] : List Nat).length ≤ sizeLine := size_le (by simp)
  have e1 : (((k + 2 : Nat) : Nat) : Int) - 2 = (k : Nat) := by omega
  have e2 : (((k + 2 : Nat) : Nat) : Int) - 1 = ((k + 1 : Nat) : Int) := by omega
  refine optW_some (a := .str (p.getD k [])) (by rw [e1]; exact getP (by omega)) ⟨hz, optW_some (a := cur) rfl ?_⟩
  refine hf _ _ ⟨_, cur, rfl, ?_⟩
  cases q : decide (cur ∈ p.getD k []) with
  | false => rw [q] at h; exact h
  | true =>
    rw [q] at h
    refine optW_some (a := .str (p.getD (k + 1) [])) (by rw [e2]; exact getP (by omega)) ⟨hz, optW_some (a := pv) rfl ?_⟩
    exact hf _ _ ⟨_, pv, rfl, h⟩
theorem len_crossed : ∀ as K, con_crossed as K → as.length = 3 := by rintro as K ⟨_, _, _, _, rfl, _⟩; rfl
def ir_first_column : Def := ⟨"first_column", 2, ["pattern", "prices", "column", "one"],
  (.cons (.asg (.name 2) (.lst (.cons (.cst (.int 0)) .nil))) (.cons (.loop (.name 3) (.ex (.var 0)) (.cons (.append 2 (.call "dearer" (.cons (.op .idx (.cons (.var 2) (.cons (.op .neg (.cons (.cst (.int 1)) .nil)) .nil))) (.cons (.op .idx (.cons (.var 1) (.cons (.cst (.int 1)) .nil))) .nil)) [] [])) .nil)) (.cons (.ret (.op .tuple1 (.cons (.var 2) .nil))) .nil)))⟩

def firstCol (lp : Int) : Nat → List (Option Int)
  | 0 => [some 0]
  | n + 1 => firstCol lp n ++ [dearerO ((firstCol lp n).getLast?.getD none) lp]
theorem firstCol_len (lp : Int) : ∀ n, (firstCol lp n).length = n + 1
  | 0 => rfl
  | n + 1 => by simp [firstCol, firstCol_len lp n]
theorem last_of {l : List (Option Int)} {n : Nat} (h : l.length = n + 1) : ∃ r x, l = r ++ [x] := by
  have hne : l ≠ [] := by intro z; rw [z] at h; cases h
  exact ⟨l.dropLast, l.getLast hne, (List.dropLast_concat_getLast hne).symm⟩
def con_first : Con := fun as K => ∃ p pr, as = [.sh (encP p), .sh (encPr pr)] ∧ p.length ≤ 1000 ∧ K (.ret (.v (encCol (firstCol pr.lack p.length))) [])
theorem ok_first (Γ : String → Con) (gc : String → Option D) (hd : Has Γ "dearer" con_dearer) : DefOk Γ gc ir_first_column con_first := by
  rintro as K ⟨p, pr, rfl, hl, h⟩
  refine forW_pre D.str (fun pre env => ∃ g, env = [.sh (encP p), .sh (encPr pr), .ow (.lst ((firstCol pr.lack pre.length).map encO)), g]) ⟨_, rfl⟩ (fun pre x post env k e hI hk => ?_) fun env hI => ?_
  · obtain ⟨g, rfl⟩ := hI
    have hi := congrArg List.length e
    simp at hi
    have hL := firstCol_len pr.lack pre.length
    obtain ⟨r, y, hy⟩ := last_of hL
    have e2 : firstCol pr.lack (pre ++ [x]).length = firstCol pr.lack pre.length ++ [dearerO y pr.lack] := by
      rw [List.length_append]
      show firstCol pr.lack pre.length ++ [dearerO ((firstCol pr.lack pre.length).getLast?.getD none) pr.lack] = _
      rw [hy]; simp
    rw [e2] at hk
    rw [hy] at hL hk ⊢
    refine optW_some (a := encO y) (by rw [List.map_append]; exact atI_last _ _) ?_
    refine hd _ _ ⟨y, pr.lack, rfl, ?_⟩
    refine ⟨size_small (by rw [List.length_map, hL]; omega), hk _ ⟨.sh (.str x), ?_⟩⟩
    rw [List.map_append (l₁ := r ++ [y])]
    rfl
  · obtain ⟨g, rfl⟩ := hI
    exact h
theorem len_first : ∀ as K, con_first as K → as.length = 2 := by rintro as K ⟨_, _, rfl, _⟩; rfl
end Nf
/-! columns: from one to the next, all -/
namespace Nf
open PySem PySem.Spec L2
def ir_next_column : Def := ⟨"next_column", 5, ["pattern", "prices", "columns", "signs", "free", "ahead", "first", "column", "at", "price"],
  (.cons (.asg (.name 5) (.op .idx (.cons (.var 2) (.cons (.cst (.int 0)) .nil)))) (.cons (.asg (.name 6) (.call "dearer" (.cons (.op .idx (.cons (.var 5) (.cons (.cst (.int 0)) .nil))) (.cons (.op .idx (.cons (.var 1) (.cons (.cst (.int 0)) .nil))) .nil)) [] [])) (.cons (.iff (.ex (.var 4)) (.cons (.asg (.name 6) (.cst (.int 0))) .nil) .nil) (.cons (.asg (.name 7) (.lst (.cons (.var 6) .nil))) (.cons (.loop (.name 8) (.range (.cons (.cst (.int 1)) (.cons (.op .add (.cons (.op .len (.cons (.var 0) .nil)) (.cons (.cst (.int 1)) .nil))) .nil))) (.cons (.asg (.name 9) (.call "met" (.cons (.op .idx (.cons (.var 5) (.cons (.op .sub (.cons (.var 8) (.cons (.cst (.int 1)) .nil))) .nil))) (.cons (.op .idx (.cons (.var 0) (.cons (.op .sub (.cons (.var 8) (.cons (.cst (.int 1)) .nil))) .nil))) (.cons (.op .idx (.cons (.var 3) (.cons (.op .neg (.cons (.cst (.int 1)) .nil)) .nil))) (.cons (.op .idx (.cons (.var 1) (.cons (.cst (.int 2)) .nil))) .nil)))) [] [])) (.cons (.asg (.name 9) (.call "lower" (.cons (.var 9) (.cons (.call "dearer" (.cons (.op .idx (.cons (.var 5) (.cons (.var 8) .nil))) (.cons (.op .idx (.cons (.var 1) (.cons (.cst (.int 0)) .nil))) .nil)) [] []) .nil)) [] [])) (.cons (.asg (.name 9) (.call "lower" (.cons (.var 9) (.cons (.call "dearer" (.cons (.op .idx (.cons (.var 7) (.cons (.op .neg (.cons (.cst (.int 1)) .nil)) .nil))) (.cons (.op .idx (.cons (.var 1) (.cons (.cst (.int 1)) .nil))) .nil)) [] []) .nil)) [] [])) (.cons (.iff (.andv (.cons (.cmp .gt (.cons (.var 8) (.cons (.cst (.int 1)) .nil))) (.cons (.cmp .gt (.cons (.op .len (.cons (.var 3) .nil)) (.cons (.cst (.int 1)) .nil))) (.cons (.ex (.call "crossed" (.cons (.var 0) (.cons (.var 8) (.cons (.var 3) .nil))) [] [])) .nil)))) (.cons (.asg (.name 9) (.call "lower" (.cons (.var 9) (.cons (.call "dearer" (.cons (.op .idx (.cons (.op .idx (.cons (.var 2) (.cons (.cst (.int 1)) .nil))) (.cons (.op .sub (.cons (.var 8) (.cons (.cst (.int 2)) .nil))) .nil))) (.cons (.op .idx (.cons (.var 1) (.cons (.cst (.int 3)) .nil))) .nil)) [] []) .nil)) [] [])) .nil) .nil) (.cons (.append 7 (.var 9)) .nil)))))) (.cons (.ret (.op .tuple1 (.cons (.var 7) .nil))) .nil))))))⟩

/-- the price at row k + 1, before a turned pair -/
def cellC (p : List (List Nat)) (pr : Pr) (ahead : List (Option Int)) (cur : Nat) (k : Nat) (low : Option Int) : Option Int :=
  lowerO (lowerO (metO (ahead.getD k none) (p.getD k []) cur pr.exch) (dearerO (ahead.getD (k + 1) none) pr.ins)) (dearerO low pr.lack)
def cellT (p : List (List Nat)) (pr : Pr) (prev : Option (Nat × List (Option Int))) (cur : Nat) (k : Nat) (c : Option Int) : Option Int := match prev with
  | none => c
  | some (pv, bef) => match k with
    | 0 => c
    | k + 1 => if cur ∈ p.getD k [] ∧ pv ∈ p.getD (k + 1) [] then lowerO c (dearerO (bef.getD k none) pr.turn) else c
def nextC (p : List (List Nat)) (pr : Pr) (ahead : List (Option Int)) (prev : Option (Nat × List (Option Int))) (cur : Nat) (free : Bool) : Nat → List (Option Int)
  | 0 => [if free = true then some 0 else dearerO (ahead.getD 0 none) pr.ins]
  | k + 1 => nextC p pr ahead prev cur free k ++ [cellT p pr prev cur k (cellC p pr ahead cur k ((nextC p pr ahead prev cur free k).getLast?.getD none))]
theorem nextC_len (p : List (List Nat)) (pr : Pr) (ahead : List (Option Int)) (prev : Option (Nat × List (Option Int))) (cur : Nat) (free : Bool) : ∀ k, (nextC p pr ahead prev cur free k).length = k + 1
  | 0 => rfl
  | k + 1 => by simp [nextC, nextC_len p pr ahead prev cur free k]
def colsOf (ahead : List (Option Int)) : Option (Nat × List (Option Int)) → List (List (Option Int))
  | none => [ahead]
  | some (_, bef) => [ahead, bef]
def signsOf (cur : Nat) : Option (Nat × List (Option Int)) → List Nat
  | none => [cur]
  | some (pv, _) => [pv, cur]
def con_next : Con := fun as K => ∃ p pr ahead prev cur free, as = [.sh (encP p), .sh (encPr pr), .sh (.lst ((colsOf ahead prev).map encCol)), .sh (.str (signsOf cur prev)), .sh (.bl free)] ∧
  p.length ≤ 1000 ∧ ahead.length = p.length + 1 ∧ (∀ pv bef, prev = some (pv, bef) → bef.length = p.length + 1) ∧ K (.ret (.v (encCol (nextC p pr ahead prev cur free p.length))) [])
theorem getC {c : List (Option Int)} {k : Nat} (h : k < c.length) : atI (c.map encO) ((k : Nat) : Int) = some (encO (c.getD k none)) := by
  rw [atI_nat, List.getElem?_map, List.getD_eq_getElem?_getD, List.getElem?_eq_getElem h]; rfl
theorem last_sign (cur : Nat) (prev : Option (Nat × List (Option Int))) : (signsOf cur prev).length ≤ sizeLine ∧ atI (signsOf cur prev) (-1) = some cur := by
  cases prev with
  | none => exact ⟨size_le (by simp [signsOf]), rfl⟩
  | some q => exact ⟨size_le (by simp [signsOf]), rfl⟩
theorem ok_next (Γ : String → Con) (gc : String → Option D) (hm : Has Γ "met" con_met) (hl : Has Γ "lower" con_lower) (hd : Has Γ "dearer" con_dearer) (hc : Has Γ "crossed" con_crossed) : DefOk Γ gc ir_next_column con_next := by
  rintro as K ⟨p, pr, ahead, prev, cur, free, rfl, hp, ha, hb, h⟩
  have h0 : atI ((colsOf ahead prev).map encCol) 0 = some (encCol ahead) := by cases prev <;> rfl
  refine optW_some h0 ?_
  refine optW_some (a := encO (ahead.getD 0 none)) (getC (k := 0) (by omega)) ?_
  refine hd _ _ ⟨ahead.getD 0 none, pr.ins, rfl, ?_⟩
  -- the loop, from the column's first price on
  have loop : ∀ f0 : Option Int, f0 = (if free = true then some 0 else dearerO (ahead.getD 0 none) pr.ins) → ∀ (fn : Fn) (g8 g9 : Slot),
      (∀ g8 g9, fn.nx [.sh (encP p), .sh (encPr pr), .sh (.lst ((colsOf ahead prev).map encCol)), .sh (.str (signsOf cur prev)), .sh (.bl free), .sh (encCol ahead), .sh (encO f0), .ow (.lst ((nextC p pr ahead prev cur free p.length).map encO)), g8, g9]) →
      wpS ⟨Γ, gc, [], fun c => K (.exc c)⟩ (.loop (.name 8) (.range (.cons (.cst (.int 1)) (.cons (.op .add (.cons (.op .len (.cons (.var 0) .nil)) (.cons (.cst (.int 1)) .nil))) .nil))) (.cons (.asg (.name 9) (.call "met" (.cons (.op .idx (.cons (.var 5) (.cons (.op .sub (.cons (.var 8) (.cons (.cst (.int 1)) .nil))) .nil))) (.cons (.op .idx (.cons (.var 0) (.cons (.op .sub (.cons (.var 8) (.cons (.cst (.int 1)) .nil))) .nil))) (.cons (.op .idx (.cons (.var 3) (.cons (.op .neg (.cons (.cst (.int 1)) .nil)) .nil))) (.cons (.op .idx (.cons (.var 1) (.cons (.cst (.int 2)) .nil))) .nil)))) [] [])) (.cons (.asg (.name 9) (.call "lower" (.cons (.var 9) (.cons (.call "dearer" (.cons (.op .idx (.cons (.var 5) (.cons (.var 8) .nil))) (.cons (.op .idx (.cons (.var 1) (.cons (.cst (.int 0)) .nil))) .nil)) [] []) .nil)) [] [])) (.cons (.asg (.name 9) (.call "lower" (.cons (.var 9) (.cons (.call "dearer" (.cons (.op .idx (.cons (.var 7) (.cons (.op .neg (.cons (.cst (.int 1)) .nil)) .nil))) (.cons (.op .idx (.cons (.var 1) (.cons (.cst (.int 1)) .nil))) .nil)) [] []) .nil)) [] [])) (.cons (.iff (.andv (.cons (.cmp .gt (.cons (.var 8) (.cons (.cst (.int 1)) .nil))) (.cons (.cmp .gt (.cons (.op .len (.cons (.var 3) .nil)) (.cons (.cst (.int 1)) .nil))) (.cons (.ex (.call "crossed" (.cons (.var 0) (.cons (.var 8) (.cons (.var 3) .nil))) [] [])) .nil)))) (.cons (.asg (.name 9) (.call "lower" (.cons (.var 9) (.cons (.call "dearer" (.cons (.op .idx (.cons (.op .idx (.cons (.var 2) (.cons (.cst (.int 1)) .nil))) (.cons (.op .sub (.cons (.var 8) (.cons (.cst (.int 2)) .nil))) .nil))) (.cons (.op .idx (.cons (.var 1) (.cons (.cst (.int 3)) .nil))) .nil)) [] []) .nil)) [] [])) .nil) .nil) (.cons (.append 7 (.var 9)) .nil))))))
        [.sh (encP p), .sh (encPr pr), .sh (.lst ((colsOf ahead prev).map encCol)), .sh (.str (signsOf cur prev)), .sh (.bl free), .sh (encCol ahead), .sh (encO f0), .ow (.lst [encO f0]), g8, g9] fn := by
    intro f0 hf0 fn g8 g9 hfn
    have hpl : ((p.map D.str).length : Int) = (p.length : Nat) := by rw [List.length_map]
    refine ⟨⟨by decide, by decide, by rw [hpl]; omega, by rw [hpl]; omega⟩, ?_⟩
    show forW _ _ (rangeD 1 ((((p.map D.str).length : Nat) : Int) + 1 - 1).toNat) _ _
    rw [show ((((p.map D.str).length : Nat) : Int) + 1 - 1).toNat = p.length by rw [hpl]; omega]
    refine forW_ix (fun k env => ∃ g8 g9, env = [.sh (encP p), .sh (encPr pr), .sh (.lst ((colsOf ahead prev).map encCol)), .sh (.str (signsOf cur prev)), .sh (.bl free), .sh (encCol ahead), .sh (encO f0), .ow (.lst ((nextC p pr ahead prev cur free k).map encO)), g8, g9]) ⟨g8, g9, by rw [hf0]; rfl⟩ (fun k env kk hk hI hkk => ?_) fun env hI => ?_
    · obtain ⟨g8, g9, rfl⟩ := hI
      have e1 : (1 : Int) + ((k : Nat) : Int) - 1 = (k : Nat) := by omega
      have e2 : (1 : Int) + ((k : Nat) : Int) = ((k + 1 : Nat) : Int) := by omega
      refine optW_some (a := encO (ahead.getD k none)) (by rw [e1]; exact getC (by omega)) ?_
      refine optW_some (a := .str (p.getD k [])) (by rw [e1]; exact getP hk) ?_
      obtain ⟨s1, s2⟩ := last_sign cur prev
      refine ⟨s1, optW_some s2 ?_⟩
      refine hm _ _ ⟨ahead.getD k none, p.getD k [], cur, pr.exch, rfl, ?_⟩
      refine optW_some (a := encO (ahead.getD (k + 1) none)) (by rw [e2]; exact getC (by omega)) ?_
      refine hd _ _ ⟨ahead.getD (k + 1) none, pr.ins, rfl, ?_⟩
      refine hl _ _ ⟨_, _, rfl, ?_⟩
      have hL := nextC_len p pr ahead prev cur free k
      obtain ⟨r, y, hy⟩ := last_of hL
      refine optW_some (a := encO y) (by rw [hy, List.map_append]; exact atI_last _ _) ?_
      refine hd _ _ ⟨y, pr.lack, rfl, ?_⟩
      refine hl _ _ ⟨_, _, rfl, ?_⟩
      have hlast : (nextC p pr ahead prev cur free k).getLast?.getD none = y := by rw [hy]; simp
      have hstep : nextC p pr ahead prev cur free (k + 1) = nextC p pr ahead prev cur free k ++ [cellT p pr prev cur k (cellC p pr ahead cur k y)] := by
        show nextC p pr ahead prev cur free k ++ [cellT p pr prev cur k (cellC p pr ahead cur k ((nextC p pr ahead prev cur free k).getLast?.getD none))] = _
        rw [hlast]
      rw [hstep, List.map_append] at hkk
      have hsz : ((nextC p pr ahead prev cur free k).map encO).length < sizeLine := size_small (by rw [List.length_map, hL]; omega)
      have fin : ∀ c, c = cellT p pr prev cur k (cellC p pr ahead cur k y) → ∀ g : Slot, kk ([.sh (encP p), .sh (encPr pr), .sh (.lst ((colsOf ahead prev).map encCol)), .sh (.str (signsOf cur prev)), .sh (.bl free), .sh (encCol ahead), .sh (encO f0), .ow (.lst ((nextC p pr ahead prev cur free k).map encO ++ [encO c])), g, .sh (encO c)]) := fun c hc g => by
        subst hc
        exact hkk _ ⟨g, _, rfl⟩
      have hcell : lowerO (lowerO (metO (ahead.getD k none) (p.getD k []) cur pr.exch) (dearerO (ahead.getD (k + 1) none) pr.ins)) (dearerO y pr.lack) = cellC p pr ahead cur k y := rfl
      rw [hcell]
      generalize hcc : cellC p pr ahead cur k y = cc at fin
      refine ite2 (fun e3 => ?_) (fun e3 => ?_)
      · have hk1 : 1 ≤ k := by have := of_decide_eq_true e3; omega
        obtain ⟨j, rfl⟩ : ∃ j, k = j + 1 := ⟨k - 1, by omega⟩
        cases prev with
        | none =>
          exact ⟨size_le (by simp [signsOf]), ⟨hsz, fin cc rfl _⟩⟩
        | some q =>
          obtain ⟨pv, bef⟩ := q
          have hbl := hb pv bef rfl
          refine ⟨size_le (by simp [signsOf]), ?_⟩
          refine hc _ _ ⟨p, j, pv, cur, by rw [e2]; rfl, by omega, ?_⟩
          have ecell : cellT p pr (some (pv, bef)) cur (j + 1) cc = if cur ∈ p.getD j [] ∧ pv ∈ p.getD (j + 1) [] then lowerO cc (dearerO (bef.getD j none) pr.turn) else cc := rfl
          rw [ecell] at fin
          refine ite2 (fun e4 => ?_) (fun e4 => ?_)
          · have e4' : cur ∈ p.getD j [] ∧ pv ∈ p.getD (j + 1) [] := by simpa using e4
            rw [if_pos e4'] at fin
            have e5 : (1 : Int) + ((j + 1 : Nat) : Int) - 2 = (j : Nat) := by omega
            refine optW_some (a := encO (bef.getD j none)) (by rw [e5]; exact getC (by omega)) ?_
            refine hd _ _ ⟨bef.getD j none, pr.turn, rfl, ?_⟩
            exact hl _ _ ⟨cc, _, rfl, ⟨hsz, fin _ rfl _⟩⟩
          · have e4' : ¬ (cur ∈ p.getD j [] ∧ pv ∈ p.getD (j + 1) []) := fun z => e4 (by simpa using z)
            rw [if_neg e4'] at fin
            exact ⟨hsz, fin _ rfl _⟩
      · have hk0 : k = 0 := by
          have : ¬ (1 : Int) < 1 + ((k : Nat) : Int) := fun z => e3 (decide_eq_true z)
          omega
        subst hk0
        have ecell : cellT p pr prev cur 0 cc = cc := by cases prev <;> rfl
        rw [ecell] at fin
        exact ⟨hsz, fin _ rfl _⟩
    · obtain ⟨g8, g9, rfl⟩ := hI
      exact hfn g8 g9
  cases free with
  | true =>
    refine loop (some 0) rfl _ _ _ fun g8 g9 => ?_
    exact h
  | false =>
    refine loop (dearerO (ahead.getD 0 none) pr.ins) rfl _ _ _ fun g8 g9 => ?_
    exact h
theorem len_next : ∀ as K, con_next as K → as.length = 5 := by rintro as K ⟨_, _, _, _, _, _, rfl, _⟩; rfl
end Nf
/-! all columns -/
namespace Nf
open PySem PySem.Spec L2
def ir_columns_of : Def := ⟨"columns_of", 4, ["pattern", "text", "prices", "free", "found", "at", "signs"],
  (.cons (.asg (.name 4) (.lst (.cons (.call "first_column" (.cons (.var 0) (.cons (.var 2) .nil)) [] []) .nil))) (.cons (.loop (.name 5) (.range (.cons (.op .len (.cons (.var 1) .nil)) .nil)) (.cons (.asg (.name 6) (.op .sl11 (.cons (.var 1) (.cons (.op .max2 (.cons (.cst (.int 0)) (.cons (.op .sub (.cons (.var 5) (.cons (.cst (.int 1)) .nil))) .nil))) (.cons (.op .add (.cons (.var 5) (.cons (.cst (.int 1)) .nil))) .nil))))) (.cons (.append 4 (.call "next_column" (.cons (.var 0) (.cons (.var 2) (.cons (.op .rev2 (.cons (.var 4) .nil)) (.cons (.var 6) (.cons (.var 3) .nil))))) [] [])) .nil))) (.cons (.ret (.var 4)) .nil)))⟩

def colP (p : List (List Nat)) (t : List Nat) (pr : Pr) (free : Bool) : Nat → List (Option Int) × List (Option Int)
  | 0 => (firstCol pr.lack p.length, [])
  | i + 1 => (nextC p pr (colP p t pr free i).1 (match i with
    | 0 => none
    | j + 1 => some (t.getD j 0, (colP p t pr free i).2)) (t.getD i 0) free p.length, (colP p t pr free i).1)
def colV (p : List (List Nat)) (t : List Nat) (pr : Pr) (free : Bool) (i : Nat) : List (Option Int) := (colP p t pr free i).1
def prevV (p : List (List Nat)) (t : List Nat) (pr : Pr) (free : Bool) : Nat → Option (Nat × List (Option Int))
  | 0 => none
  | j + 1 => some (t.getD j 0, colV p t pr free j)
theorem colV_succ (p : List (List Nat)) (t : List Nat) (pr : Pr) (free : Bool) (i : Nat) : colV p t pr free (i + 1) = nextC p pr (colV p t pr free i) (prevV p t pr free i) (t.getD i 0) free p.length := by
  cases i with
  | zero => rfl
  | succ j => rfl
theorem colV_len (p : List (List Nat)) (t : List Nat) (pr : Pr) (free : Bool) (i : Nat) : (colV p t pr free i).length = p.length + 1 := by
  cases i with
  | zero => exact firstCol_len _ _
  | succ i => rw [colV_succ]; exact nextC_len _ _ _ _ _ _ _
def colsV (p : List (List Nat)) (t : List Nat) (pr : Pr) (free : Bool) (n : Nat) : List (List (Option Int)) := (List.range n).map (colV p t pr free)
theorem colsV_succ (p : List (List Nat)) (t : List Nat) (pr : Pr) (free : Bool) (n : Nat) : colsV p t pr free (n + 1) = colsV p t pr free n ++ [colV p t pr free n] := by
  unfold colsV
  rw [List.range_succ, List.map_append]
  rfl
theorem colsV_len (p : List (List Nat)) (t : List Nat) (pr : Pr) (free : Bool) (n : Nat) : (colsV p t pr free n).length = n := by unfold colsV; simp
theorem cols_rev (p : List (List Nat)) (t : List Nat) (pr : Pr) (free : Bool) (i : Nat) : ((colsV p t pr free (i + 1)).map encCol).reverse.take 2 = (colsOf (colV p t pr free i) (prevV p t pr free i)).map encCol := by
  cases i with
  | zero => rfl
  | succ j =>
    rw [colsV_succ, colsV_succ, List.map_append, List.map_append, List.reverse_append, List.reverse_append]
    rfl
theorem signs_cut (p : List (List Nat)) {t : List Nat} (pr : Pr) (free : Bool) {i : Nat} (h : i < t.length) : cutL t (some (max 0 (0 + ((i : Nat) : Int) - 1))) (some (0 + ((i : Nat) : Int) + 1)) = signsOf (t.getD i 0) (prevV p t pr free i) := by
  rw [cut_in _ _ _ (by omega) (by omega)]
  cases i with
  | zero =>
    have e : (max 0 (0 + ((0 : Nat) : Int) - 1)).toNat = 0 := by decide
    have e2 : (0 + ((0 : Nat) : Int) + 1).toNat = 1 := by decide
    rw [e, e2]
    cases t with
    | nil => simp at h
    | cons a t => rfl
  | succ j =>
    have e : (max 0 (0 + ((j + 1 : Nat) : Int) - 1)).toNat = j := by omega
    have e2 : (0 + ((j + 1 : Nat) : Int) + 1).toNat = j + 2 := by omega
    rw [e, e2, show j + 2 - j = 2 by omega]
    have h1 : j < t.length := by omega
    show (t.drop j).take 2 = [t.getD j 0, t.getD (j + 1) 0]
    rw [List.drop_eq_getElem_cons h1, List.drop_eq_getElem_cons h, List.getD_eq_getElem?_getD, List.getD_eq_getElem?_getD, List.getElem?_eq_getElem h1, List.getElem?_eq_getElem h]
    rfl
def con_columns : Con := fun as K => ∃ p t pr free, as = [.sh (encP p), .sh (.str t), .sh (encPr pr), .sh (.bl free)] ∧ p.length ≤ 1000 ∧ t.length ≤ 10000 ∧ K (.ret (.t (.lst ((colsV p t pr free (t.length + 1)).map encCol))) [])
theorem ok_columns (Γ : String → Con) (gc : String → Option D) (hf : Has Γ "first_column" con_first) (hn : Has Γ "next_column" con_next) : DefOk Γ gc ir_columns_of con_columns := by
  rintro as K ⟨p, t, pr, free, rfl, hp, ht, h⟩
  refine hf _ _ ⟨p, pr, rfl, hp, ?_⟩
  refine ⟨size_le (by omega), ⟨by omega, by omega⟩, ?_⟩
  show forW _ _ (rangeD 0 (((t.length : Nat) : Int)).toNat) _ _
  rw [show (((t.length : Nat) : Int)).toNat = t.length by omega]
  refine forW_ix (fun i env => ∃ g1 g2, env = [.sh (encP p), .sh (.str t), .sh (encPr pr), .sh (.bl free), .ow (.lst ((colsV p t pr free (i + 1)).map encCol)), g1, g2]) ⟨_, _, rfl⟩ (fun i env k hi hI hk => ?_) fun env hI => ?_
  · obtain ⟨g1, g2, rfl⟩ := hI
    refine ⟨size_le (by omega), ?_⟩
    have hsg := signs_cut p pr free hi
    refine hn _ _ ⟨p, pr, colV p t pr free i, prevV p t pr free i, t.getD i 0, free, ?_, hp, colV_len _ _ _ _ _, ?_, ?_⟩
    · show [Slot.sh (encP p), .sh (encPr pr), .sh (.lst (((colsV p t pr free (i + 1)).map encCol).reverse.take 2)), .sh (.str (cutL t (some (max 0 (0 + ((i : Nat) : Int) - 1))) (some (0 + ((i : Nat) : Int) + 1)))), .sh (.bl free)] = _
      rw [hsg, cols_rev]
    · intro pv bef e
      cases i with
      | zero => cases e
      | succ j => cases e; exact colV_len _ _ _ _ _
    · rw [← colV_succ]
      refine ⟨size_small (by rw [List.length_map, colsV_len]; omega), hk _ ⟨.sh (.int (0 + ((i : Nat) : Int))), .sh (.str (cutL t (some (max 0 (0 + ((i : Nat) : Int) - 1))) (some (0 + ((i : Nat) : Int) + 1)))), ?_⟩⟩
      rw [colsV_succ p t pr free (i + 1), List.map_append]
      rfl
  · obtain ⟨g1, g2, rfl⟩ := hI
    exact h
theorem len_columns : ∀ as K, con_columns as K → as.length = 4 := by rintro as K ⟨_, _, _, _, rfl, _⟩; rfl
def ir_price_between : Def := ⟨"price_between", 3, ["pattern", "text", "prices"],
  (.cons (.ret (.op .idx (.cons (.op .idx (.cons (.call "columns_of" (.cons (.var 0) (.cons (.var 1) (.cons (.var 2) (.cons (.cst (.bl false)) .nil)))) [] []) (.cons (.op .neg (.cons (.cst (.int 1)) .nil)) .nil))) (.cons (.op .neg (.cons (.cst (.int 1)) .nil)) .nil)))) .nil)⟩

def priceV (p : List (List Nat)) (t : List Nat) (pr : Pr) : Option Int := (colV p t pr false t.length).getLast?.getD none
def con_between : Con := fun as K => ∃ p t pr, as = [.sh (encP p), .sh (.str t), .sh (encPr pr)] ∧ p.length ≤ 1000 ∧ t.length ≤ 10000 ∧ K (.ret (.v (encO (priceV p t pr))) [])
theorem ok_between (Γ : String → Con) (gc : String → Option D) (hc : Has Γ "columns_of" con_columns) : DefOk Γ gc ir_price_between con_between := by
  rintro as K ⟨p, t, pr, rfl, hp, ht, h⟩
  refine hc _ _ ⟨p, t, pr, false, rfl, hp, ht, ?_⟩
  obtain ⟨r, y, hy⟩ := last_of (colV_len p t pr false t.length)
  have hpv : priceV p t pr = y := by unfold priceV; rw [hy]; simp
  rw [hpv] at h
  refine optW_some (a := encCol (colV p t pr false t.length)) (by rw [colsV_succ, List.map_append]; exact atI_last _ _) ?_
  exact optW_some (a := encO y) (by rw [hy, List.map_append]; exact atI_last _ _) h
theorem len_between : ∀ as K, con_between as K → as.length = 3 := by rintro as K ⟨_, _, _, rfl, _⟩; rfl
end Nf
/-! the columns tell the least price of a way from pattern to text -/
namespace Nf
open PySem PySem.Spec L2
/-- the ways, told from the end: pattern and text reversed -/
inductive Ed (pr : Pr) (free : Bool) : List (List Nat) → List Nat → Int → Prop where
  | nil : Ed pr free [] [] 0
  | skip (b : List Nat) : free = true → Ed pr free [] b 0
  | same {o : List Nat} {y : Nat} {a : List (List Nat)} {b : List Nat} {c : Int} : y ∈ o → Ed pr free a b c → Ed pr free (o :: a) (y :: b) c
  | exch {o : List Nat} {y : Nat} {a : List (List Nat)} {b : List Nat} {c : Int} : pr.exch ≠ 0 → Ed pr free a b c → Ed pr free (o :: a) (y :: b) (c + pr.exch)
  | ins {y : Nat} {a : List (List Nat)} {b : List Nat} {c : Int} : pr.ins ≠ 0 → Ed pr free a b c → Ed pr free a (y :: b) (c + pr.ins)
  | lack {o : List Nat} {a : List (List Nat)} {b : List Nat} {c : Int} : pr.lack ≠ 0 → Ed pr free a b c → Ed pr free (o :: a) b (c + pr.lack)
  | turn {o o' : List Nat} {y y' : Nat} {a : List (List Nat)} {b : List Nat} {c : Int} : pr.turn ≠ 0 → y ∈ o' → y' ∈ o → Ed pr free a b c → Ed pr free (o :: o' :: a) (y :: y' :: b) (c + pr.turn)
structure Pr.Ok (pr : Pr) : Prop where
  i : 0 ≤ pr.ins
  l : 0 ≤ pr.lack
  e : 0 ≤ pr.exch
  t : 0 ≤ pr.turn
theorem Ed.ge {pr : Pr} {free : Bool} (ok : pr.Ok) {a : List (List Nat)} {b : List Nat} {c : Int} (h : Ed pr free a b c) : 0 ≤ c := by
  induction h with
  | nil => exact Int.le_refl _
  | skip => exact Int.le_refl _
  | same _ _ ih => exact ih
  | exch _ _ ih => have := ok.e; omega
  | ins _ _ ih => have := ok.i; omega
  | lack _ _ ih => have := ok.l; omega
  | turn _ _ _ _ ih => have := ok.t; omega
/-- at most -/
def Le (o : Option Int) (c : Int) : Prop := ∃ d, o = some d ∧ d ≤ c
theorem lowerO_some {a b : Option Int} {c : Int} (h : lowerO a b = some c) : a = some c ∨ b = some c := by
  cases a with
  | none => exact .inr h
  | some x =>
    cases b with
    | none => exact .inl h
    | some y =>
      have : min x y = c := by simpa [lowerO] using h
      rcases Int.le_total x y with q | q
      · left; rw [← this, Int.min_eq_left q]
      · right; rw [← this, Int.min_eq_right q]
theorem lowerO_l {a b : Option Int} {c : Int} (h : Le a c) : Le (lowerO a b) c := by
  obtain ⟨d, rfl, hd⟩ := h
  cases b with
  | none => exact ⟨d, rfl, hd⟩
  | some y => exact ⟨min d y, rfl, by omega⟩
theorem lowerO_r {a b : Option Int} {c : Int} (h : Le b c) : Le (lowerO a b) c := by
  obtain ⟨d, rfl, hd⟩ := h
  cases a with
  | none => exact ⟨d, rfl, hd⟩
  | some y => exact ⟨min y d, rfl, by omega⟩
theorem dearerO_some {a : Option Int} {b c : Int} (h : dearerO a b = some c) : b ≠ 0 ∧ ∃ d, a = some d ∧ c = d + b := by
  cases a with
  | none => cases h
  | some x =>
    by_cases n : b = 0
    · rw [show dearerO (some x) b = none from if_pos n] at h; cases h
    · rw [show dearerO (some x) b = some (x + b) from if_neg n] at h
      cases h
      exact ⟨n, x, rfl, rfl⟩
theorem dearerO_le {a : Option Int} {b c : Int} (h : Le a c) (hb : b ≠ 0) : Le (dearerO a b) (c + b) := by
  obtain ⟨d, rfl, hd⟩ := h
  exact ⟨d + b, if_neg hb, by omega⟩
theorem firstCol_at (lp : Int) : ∀ n k, k ≤ n → (firstCol lp n).getD k none = (firstCol lp k).getLast?.getD none
  | 0, k, h => by
    have : k = 0 := by omega
    subst this; rfl
  | n + 1, k, h => by
    by_cases e : k = n + 1
    · subst e
      obtain ⟨r, x, hx⟩ := last_of (firstCol_len lp (n + 1))
      have hl := firstCol_len lp (n + 1)
      rw [hx] at hl ⊢
      simp at hl
      rw [List.getD_eq_getElem?_getD]
      simp [hl]
    · rw [← firstCol_at lp n k (by omega)]
      show (firstCol lp n ++ _).getD k none = _
      rw [List.getD_eq_getElem?_getD, List.getD_eq_getElem?_getD, List.getElem?_append_left (by rw [firstCol_len]; omega)]
theorem nextC_at (p : List (List Nat)) (pr : Pr) (ahead : List (Option Int)) (prev : Option (Nat × List (Option Int))) (cur : Nat) (free : Bool) : ∀ n k, k ≤ n → (nextC p pr ahead prev cur free n).getD k none = (nextC p pr ahead prev cur free k).getLast?.getD none
  | 0, k, h => by
    have : k = 0 := by omega
    subst this; rfl
  | n + 1, k, h => by
    by_cases e : k = n + 1
    · subst e
      have hl := nextC_len p pr ahead prev cur free (n + 1)
      obtain ⟨r, x, hx⟩ := last_of hl
      rw [hx] at hl ⊢
      simp at hl
      rw [List.getD_eq_getElem?_getD]
      simp [hl]
    · rw [← nextC_at p pr ahead prev cur free n k (by omega)]
      show (nextC p pr ahead prev cur free n ++ _).getD k none = _
      rw [List.getD_eq_getElem?_getD, List.getD_eq_getElem?_getD, List.getElem?_append_left (by rw [nextC_len]; omega)]
theorem getLast_snoc (l : List (Option Int)) (x : Option Int) : (l ++ [x]).getLast?.getD none = x := by simp
/-- the cell of row k, column i -/
def dp (p : List (List Nat)) (t : List Nat) (pr : Pr) (free : Bool) (i k : Nat) : Option Int := (colV p t pr free i).getD k none
section
variable {p : List (List Nat)} {t : List Nat} {pr : Pr} {free : Bool}
theorem dp_00 : dp p t pr free 0 0 = some 0 := by
  show (firstCol pr.lack p.length).getD 0 none = some 0
  rw [firstCol_at _ _ _ (Nat.zero_le _)]; rfl
theorem dp_0s {k : Nat} (h : k < p.length) : dp p t pr free 0 (k + 1) = dearerO (dp p t pr free 0 k) pr.lack := by
  show (firstCol pr.lack p.length).getD (k + 1) none = dearerO ((firstCol pr.lack p.length).getD k none) pr.lack
  rw [firstCol_at _ _ _ h, firstCol_at _ _ _ (Nat.le_of_lt h)]
  exact getLast_snoc _ _
theorem dp_s0 {i : Nat} : dp p t pr free (i + 1) 0 = if free = true then some 0 else dearerO (dp p t pr free i 0) pr.ins := by
  unfold dp
  rw [colV_succ, nextC_at _ _ _ _ _ _ _ _ (Nat.zero_le _)]
  rfl
theorem dp_ss {i k : Nat} (h : k < p.length) : dp p t pr free (i + 1) (k + 1) = cellT p pr (prevV p t pr free i) (t.getD i 0) k
    (lowerO (lowerO (metO (dp p t pr free i k) (p.getD k []) (t.getD i 0) pr.exch) (dearerO (dp p t pr free i (k + 1)) pr.ins)) (dearerO (dp p t pr free (i + 1) k) pr.lack)) := by
  unfold dp
  rw [colV_succ, nextC_at _ _ _ _ _ _ _ _ h, nextC_at _ _ _ _ _ _ _ _ (Nat.le_of_lt h)]
  exact getLast_snoc _ _
theorem take_rev {α : Type} {l : List α} {k : Nat} (h : k < l.length) : (l.take (k + 1)).reverse = l[k] :: (l.take k).reverse := by
  rw [List.take_succ, List.getElem?_eq_getElem h]
  simp
theorem getP_eq {k : Nat} (h : k < p.length) : p.getD k [] = p[k] := by rw [List.getD_eq_getElem?_getD, List.getElem?_eq_getElem h]; rfl
theorem getT_eq {k : Nat} (h : k < t.length) : t.getD k 0 = t[k] := by rw [List.getD_eq_getElem?_getD, List.getElem?_eq_getElem h]; rfl
/-- what a cell tells is the price of a way -/
theorem dp_way : ∀ (i k : Nat), i ≤ t.length → k ≤ p.length → ∀ c, dp p t pr free i k = some c → Ed pr free (p.take k).reverse (t.take i).reverse c
  | 0, 0, _, _, c, h => by rw [dp_00] at h; cases h; exact .nil
  | 0, k + 1, hi, hk, c, h => by
    rw [dp_0s hk] at h
    obtain ⟨n, d, h1, rfl⟩ := dearerO_some h
    rw [take_rev hk]
    exact .lack n (dp_way 0 k hi (by omega) d h1)
  | i + 1, 0, hi, hk, c, h => by
    rw [dp_s0] at h
    rw [take_rev hi]
    split at h
    · rename_i f
      cases h
      exact .skip _ f
    · obtain ⟨n, d, h1, rfl⟩ := dearerO_some h
      exact .ins n (dp_way i 0 (by omega) hk d h1)
  | i + 1, k + 1, hi, hk, c, h => by
    have plain : ∀ c, lowerO (lowerO (metO (dp p t pr free i k) (p.getD k []) (t.getD i 0) pr.exch) (dearerO (dp p t pr free i (k + 1)) pr.ins)) (dearerO (dp p t pr free (i + 1) k) pr.lack) = some c → Ed pr free (p.take (k + 1)).reverse (t.take (i + 1)).reverse c := by
      intro c h
      rcases lowerO_some h with h | h
      · rcases lowerO_some h with h | h
        · rw [getP_eq hk, getT_eq hi] at h
          rw [take_rev hk, take_rev hi]
          unfold metO at h
          split at h
          · rename_i m
            exact .same m (dp_way i k (by omega) (by omega) c h)
          · obtain ⟨n, d, h1, rfl⟩ := dearerO_some h
            exact .exch n (dp_way i k (by omega) (by omega) d h1)
        · obtain ⟨n, d, h1, rfl⟩ := dearerO_some h
          rw [take_rev hi]
          exact .ins n (dp_way i (k + 1) (by omega) hk d h1)
      · obtain ⟨n, d, h1, rfl⟩ := dearerO_some h
        rw [take_rev hk]
        exact .lack n (dp_way (i + 1) k hi (by omega) d h1)
    rw [dp_ss hk] at h
    cases i with
    | zero => exact plain c h
    | succ j =>
      cases k with
      | zero => exact plain c h
      | succ m =>
        have e : cellT p pr (prevV p t pr free (j + 1)) (t.getD (j + 1) 0) (m + 1) = fun c => if t.getD (j + 1) 0 ∈ p.getD m [] ∧ t.getD j 0 ∈ p.getD (m + 1) [] then lowerO c (dearerO (dp p t pr free j m) pr.turn) else c := rfl
        rw [e] at h
        simp only at h
        split at h
        · rename_i cr
          rcases lowerO_some h with h | h
          · exact plain c h
          · obtain ⟨n, d, h1, rfl⟩ := dearerO_some h
            rw [getT_eq hi, getP_eq (by omega : m < p.length), getT_eq (by omega : j < t.length), getP_eq hk] at cr
            rw [take_rev hk, take_rev (by omega : m < p.length), take_rev hi, take_rev (by omega : j < t.length)]
            exact .turn n cr.1 cr.2 (dp_way j m (by omega) (by omega) d h1)
        · exact plain c h
termination_by i k => i + k
/-- no way is cheaper -/
theorem dp_best (ok : pr.Ok) : ∀ (i k : Nat), i ≤ t.length → k ≤ p.length → ∀ c, Ed pr free (p.take k).reverse (t.take i).reverse c → Le (dp p t pr free i k) c
  | 0, 0, _, _, c, h => by
    rw [dp_00]
    exact ⟨0, rfl, h.ge ok⟩
  | 0, k + 1, hi, hk, c, h => by
    rw [take_rev hk] at h
    rw [dp_0s hk]
    have h' : Ed pr free (p[k] :: (p.take k).reverse) [] c := h
    generalize ha : (p.take k).reverse = a at h'
    cases h' with
    | lack n h1 => subst ha; exact dearerO_le (dp_best ok 0 k hi (by omega) _ h1) n
  | i + 1, 0, hi, hk, c, h => by
    rw [take_rev hi] at h
    rw [dp_s0]
    have h' : Ed pr free [] (t[i] :: (t.take i).reverse) c := h
    generalize hb : (t.take i).reverse = b at h'
    cases h' with
    | skip _ f => rw [if_pos f]; exact ⟨0, rfl, Int.le_refl _⟩
    | ins n h1 =>
      subst hb
      split
      · exact ⟨0, rfl, by have := h1.ge ok; have := ok.i; omega⟩
      · exact dearerO_le (dp_best ok i 0 (by omega) hk _ h1) n
  | i + 1, k + 1, hi, hk, c, h => by
    have hp := getP_eq hk
    have ht := getT_eq hi
    have up : ∀ c, Le (lowerO (lowerO (metO (dp p t pr free i k) (p.getD k []) (t.getD i 0) pr.exch) (dearerO (dp p t pr free i (k + 1)) pr.ins)) (dearerO (dp p t pr free (i + 1) k) pr.lack)) c → Le (dp p t pr free (i + 1) (k + 1)) c := by
      intro c q
      rw [dp_ss hk]
      cases i with
      | zero => exact q
      | succ j =>
        cases k with
        | zero => exact q
        | succ m =>
          show Le (if _ ∧ _ then lowerO _ _ else _) c
          split
          · exact lowerO_l q
          · exact q
    rw [take_rev hk, take_rev hi] at h
    generalize ha : (p.take k).reverse = a at h
    generalize hb : (t.take i).reverse = b at h
    cases h with
    | same m h1 =>
      refine up c (lowerO_l (lowerO_l ?_))
      unfold metO
      rw [hp, ht, if_pos m]
      subst ha hb
      exact dp_best ok i k (by omega) (by omega) c h1
    | exch n h1 =>
      refine up _ (lowerO_l (lowerO_l ?_))
      subst ha hb
      have ih := dp_best ok i k (by omega) (by omega) _ h1
      unfold metO
      split
      · obtain ⟨d, e1, e2⟩ := ih
        exact ⟨d, e1, by have := ok.e; omega⟩
      · exact dearerO_le ih n
    | ins n h1 =>
      refine up _ (lowerO_l (lowerO_r (dearerO_le (dp_best ok i (k + 1) (by omega) hk _ ?_) n)))
      rw [take_rev hk, ha, hb]
      exact h1
    | lack n h1 =>
      refine up _ (lowerO_r (dearerO_le (dp_best ok (i + 1) k hi (by omega) _ ?_) n))
      rw [take_rev hi, ha, hb]
      exact h1
    | turn n m1 m2 h1 =>
      rename_i o' y' a' b' c'
      cases k with
      | zero => cases ha
      | succ m =>
        cases i with
        | zero => cases hb
        | succ j =>
          have hm : m < p.length := by omega
          have hj : j < t.length := by omega
          rw [take_rev hm] at ha
          rw [take_rev hj] at hb
          cases ha
          cases hb
          rw [dp_ss hk]
          show Le (if t.getD (j + 1) 0 ∈ p.getD m [] ∧ t.getD j 0 ∈ p.getD (m + 1) [] then lowerO _ (dearerO (dp p t pr free j m) pr.turn) else _) _
          rw [if_pos ⟨by rw [ht, getP_eq hm]; exact m1, by rw [hp, getT_eq hj]; exact m2⟩]
          exact lowerO_r (dearerO_le (dp_best ok j m (by omega) (by omega) _ h1) n)
termination_by i k => i + k
end
theorem price_way {p : List (List Nat)} {t : List Nat} {pr : Pr} {c : Int} (h : priceV p t pr = some c) : Ed pr false p.reverse t.reverse c := by
  have e : dp p t pr false t.length p.length = some c := by
    rw [← h]
    unfold dp priceV
    obtain ⟨r, x, hx⟩ := last_of (colV_len p t pr false t.length)
    have hl := colV_len p t pr false t.length
    rw [hx] at hl ⊢
    simp at hl
    rw [List.getD_eq_getElem?_getD]
    simp [hl]
  have := dp_way t.length p.length (Nat.le_refl _) (Nat.le_refl _) c e
  rwa [List.take_length, List.take_length] at this
theorem price_best {p : List (List Nat)} {t : List Nat} {pr : Pr} {c : Int} (ok : pr.Ok) (h : Ed pr false p.reverse t.reverse c) : Le (priceV p t pr) c := by
  have e : dp p t pr false t.length p.length = priceV p t pr := by
    unfold dp priceV
    obtain ⟨r, x, hx⟩ := last_of (colV_len p t pr false t.length)
    have hl := colV_len p t pr false t.length
    rw [hx] at hl ⊢
    simp at hl
    rw [List.getD_eq_getElem?_getD]
    simp [hl]
  rw [← e]
  exact dp_best ok t.length p.length (Nat.le_refl _) (Nat.le_refl _) c (by rw [List.take_length, List.take_length]; exact h)
end Nf
/-! the laws' patterns and prices -/
namespace Nf
open PySem PySem.Spec L2
/-- a class: letters, rising -/
structure Cls (s : List Nat) : Prop where
  ne : s ≠ []
  up : s.Pairwise (· < ·)
  lt : ∀ c ∈ s, 97 ≤ c ∧ c ≤ 122
theorem up_len : ∀ {s : List Nat} {a b : Nat}, s.Pairwise (· < ·) → (∀ c ∈ s, a ≤ c ∧ c < b) → s.length ≤ b - a
  | [], a, b, _, _ => Nat.zero_le _
  | x :: s, a, b, h, g => by
    obtain ⟨h1, h2⟩ := List.pairwise_cons.mp h
    have hx := g x List.mem_cons_self
    have := up_len (s := s) (a := x + 1) (b := b) h2 fun c hc => ⟨h1 c hc, (g c (List.mem_cons_of_mem _ hc)).2⟩
    simp
    omega
theorem Cls.len {s : List Nat} (h : Cls s) : s.length ≤ 26 := by
  have := up_len (a := 97) (b := 123) h.up fun c hc => ⟨(h.lt c hc).1, by have := (h.lt c hc).2; omega⟩
  omega
theorem cls_one {c : Nat} (h : 97 ≤ c ∧ c ≤ 122) : Cls [c] := ⟨by simp, by simp, fun x hx => by rw [List.mem_singleton.mp hx]; exact h⟩
theorem cls_abc : Cls abc := ⟨by decide, by decide, by decide⟩
theorem Cls.plain {s : List Nat} (h : Cls s) : plainS s := ⟨by have := h.len; omega, fun c hc => by have := (h.lt c hc).2; omega⟩
def ir__law_class : Def := ⟨"_law_class", 2, ["_law_pool_here", "_law_number", "_law_letters", "_law_way", "_law_found", "_law_letter"],
  (.cons (.asg (.name 2) (.cst (.str [97, 98, 99, 100, 101, 102, 103, 104, 105, 106, 107, 108, 109, 110, 111, 112, 113, 114, 115, 116, 117, 118, 119, 120, 121, 122]))) (.cons (.asg (.name 3) (.op .mod (.cons (.var 1) (.cons (.cst (.int 4)) .nil)))) (.cons (.asg (.name 1) (.op .fdiv (.cons (.var 1) (.cons (.cst (.int 4)) .nil)))) (.cons (.iff (.andv (.cons (.cmp .eq (.cons (.var 3) (.cons (.cst (.int 0)) .nil))) (.cons (.cmp .eq (.cons (.op .mod (.cons (.var 1) (.cons (.cst (.int 5)) .nil))) (.cons (.cst (.int 0)) .nil))) .nil))) (.cons (.ret (.var 2)) .nil) .nil) (.cons (.iff (.cmp .lt (.cons (.var 3) (.cons (.cst (.int 2)) .nil))) (.cons (.ret (.op .idx (.cons (.var 0) (.cons (.op .mod (.cons (.var 1) (.cons (.op .len (.cons (.var 0) .nil)) .nil))) .nil)))) .nil) .nil) (.cons (.iff (.cmp .eq (.cons (.var 3) (.cons (.cst (.int 2)) .nil))) (.cons (.ret (.mop .join (.cst (.str [])) (.cons (.op .sset (.cons (.lst (.cons (.op .idx (.cons (.var 0) (.cons (.op .mod (.cons (.var 1) (.cons (.op .len (.cons (.var 0) .nil)) .nil))) .nil))) (.cons (.op .idx (.cons (.var 0) (.cons (.op .mod (.cons (.op .fdiv (.cons (.var 1) (.cons (.cst (.int 26)) .nil))) (.cons (.op .len (.cons (.var 0) .nil)) .nil))) .nil))) .nil))) .nil)) .nil))) .nil) .nil) (.cons (.asg (.name 4) (.cst (.str []))) (.cons (.asg (.name 1) (.op .add (.cons (.op .mod (.cons (.var 1) (.cons (.cst (.int 67108863)) .nil))) (.cons (.cst (.int 1)) .nil)))) (.cons (.loop (.name 5) (.ex (.var 2)) (.cons (.iff (.cmp .eq (.cons (.op .mod (.cons (.var 1) (.cons (.cst (.int 2)) .nil))) (.cons (.cst (.int 1)) .nil))) (.cons (.asg (.name 4) (.op .add (.cons (.var 4) (.cons (.var 5) .nil)))) .nil) .nil) (.cons (.asg (.name 1) (.op .fdiv (.cons (.var 1) (.cons (.cst (.int 2)) .nil)))) .nil))) (.cons (.ret (.var 4)) .nil))))))))))⟩

def con_class : Con := fun as K => ∃ (p : List Nat) (n : Int), as = [.sh (.lst (p.map enc1)), .sh (.int n)] ∧ 0 < p.length ∧ p.length ≤ 26 ∧ (∀ x ∈ p, 97 ≤ x ∧ x ≤ 122) ∧ ∀ s, Cls s → K (.ret (.v (.str s)) [])
theorem pool_ix {p : List Nat} (hp : 0 < p.length) (n : Int) : ∃ c ∈ p, atI (p.map enc1) (n % ((p.map enc1).length : Nat)) = some (enc1 c) := by
  have hL : (p.map enc1).length = p.length := List.length_map _
  rw [hL]
  have m1 : 0 ≤ n % (p.length : Int) := Int.emod_nonneg _ (by omega)
  have m2 : n % (p.length : Int) < p.length := Int.emod_lt_of_pos _ (by omega)
  have hb : (n % (p.length : Int)).toNat < p.length := by omega
  refine ⟨p[(n % (p.length : Int)).toNat], List.getElem_mem hb, ?_⟩
  rw [atI_int _ _ m1, List.getElem?_map, List.getElem?_eq_getElem hb]
  rfl
theorem two_sorted {a b : Nat} {ys : List (List Nat)} (h : ys.Pairwise (· < ·)) (m : ∀ k, k ∈ ys ↔ k ∈ [[a], [b]]) (ha : 97 ≤ a ∧ a ≤ 122) (hb : 97 ≤ b ∧ b ≤ 122) : ys.length ≤ 2 ∧ Cls ys.flatten := by
  have sub : ∀ k ∈ ys, k = [a] ∨ k = [b] := fun k hk => by simpa using (m k).mp hk
  have irr : ∀ x : List Nat, ¬ x < x := fun x => List.lt_irrefl x
  have lt1 : ∀ x y : Nat, ([x] : List Nat) < [y] → x < y := fun x y q => by simpa [List.cons_lt_cons_iff] using q
  match ys, h, m, sub with
  | [], h, m, sub => exact absurd ((m [a]).mpr (by simp)) (by simp)
  | [x], h, m, sub =>
    refine ⟨by simp, ?_⟩
    rcases sub x (by simp) with rfl | rfl
    · exact cls_one ha
    · exact cls_one hb
  | [x, y], h, m, sub =>
    refine ⟨by simp, ?_⟩
    have hxy : x < y := by simpa using h
    have fin : ∀ c e : Nat, (97 ≤ c ∧ c ≤ 122) → (97 ≤ e ∧ e ≤ 122) → ([c] : List Nat) < [e] → Cls [[c], [e]].flatten := fun c e hc he q =>
      ⟨by simp, by simpa using lt1 c e q, fun z hz => by
        have : z = c ∨ z = e := by simpa using hz
        rcases this with rfl | rfl
        · exact hc
        · exact he⟩
    rcases sub x (by simp) with rfl | rfl
    · rcases sub y (by simp) with rfl | rfl
      · exact (irr _ hxy).elim
      · exact fin _ _ ha hb hxy
    · rcases sub y (by simp) with rfl | rfl
      · exact fin _ _ hb ha hxy
      · exact (irr _ hxy).elim
  | x :: y :: z :: r, h, m, sub =>
    have hxy : x < y := (List.pairwise_cons.mp h).1 y (by simp)
    have hxz : x < z := (List.pairwise_cons.mp h).1 z (by simp)
    have hyz : y < z := (List.pairwise_cons.mp (List.pairwise_cons.mp h).2).1 z (by simp)
    rcases sub x (by simp) with rfl | rfl <;> rcases sub y (by simp) with rfl | rfl <;> rcases sub z (by simp) with rfl | rfl <;> first
      | exact (irr _ hxy).elim
      | exact (irr _ hxz).elim
      | exact (irr _ hyz).elim
theorem sum_small {a b : Nat} {ys : List (List Nat)} (hl : ys.length ≤ 2) (h2 : ∀ k, k ∈ ys ↔ k ∈ [[a], [b]]) : (ys.map (·.length)).sum ≤ 1000000 := by
  have : ∀ l : List (List Nat), (∀ k ∈ l, k.length ≤ 1) → (l.map (·.length)).sum ≤ l.length := by
    intro l
    induction l with
    | nil => intro _; simp
    | cons x l ih =>
      intro h
      have h1 := h x List.mem_cons_self
      have h3 := ih fun k hk => h k (List.mem_cons_of_mem _ hk)
      rw [List.map_cons, List.sum_cons, List.length_cons]
      omega
  have := this ys fun k hk => by
    have : k = [a] ∨ k = [b] := by simpa using (h2 k).mp hk
    rcases this with rfl | rfl <;> simp
  omega
theorem ok_class (Γ : String → Con) (gc : String → Option D) : DefOk Γ gc ir__law_class con_class := by
  rintro as K ⟨p, n, rfl, hp, hp2, hin, h⟩
  refine ⟨(by decide : (0 : Int) < 4), ⟨by decide, by decide⟩, ?_⟩
  refine ⟨rfl, rfl, ite2 (fun e1 => ?_) fun e1 => ?_⟩
  · refine ⟨(by decide : (0 : Int) < 5), rfl, rfl, ite2 (fun e2 => ?_) fun e2 => ?_⟩
    · exact h _ cls_abc
    · refine iteF rfl (ite2 (fun e3 => ?_) fun e3 => ?_)
      · refine ⟨by have : (0 : Int) < ((p.map enc1).length : Nat) := by rw [List.length_map]; omega
                   exact this, ?_⟩
        obtain ⟨c, hc, e⟩ := pool_ix hp (n / 4)
        exact optW_some e (h _ (cls_one (hin c hc)))
      · have e1' : n % 4 = 0 := by rw [deq_int] at e1; exact of_decide_eq_true e1
        have e3' : ¬ n % 4 < 2 := fun z => e3 (decide_eq_true z)
        omega
  · refine iteF rfl (ite2 (fun e3 => ?_) fun e3 => ?_)
    · refine ⟨by have : (0 : Int) < ((p.map enc1).length : Nat) := by rw [List.length_map]; omega
                 exact this, ?_⟩
      obtain ⟨c, hc, e⟩ := pool_ix hp (n / 4)
      exact optW_some e (h _ (cls_one (hin c hc)))
    · refine ⟨rfl, rfl, ite2 (fun e4 => ?_) fun e4 => ?_⟩
      · refine ⟨by have : (0 : Int) < ((p.map enc1).length : Nat) := by rw [List.length_map]; omega
                   exact this, ?_⟩
        obtain ⟨c, hc, ec⟩ := pool_ix hp (n / 4)
        obtain ⟨b, hb, eb⟩ := pool_ix hp (n / 4 / 26)
        refine optW_some ec ⟨⟨by decide, by decide⟩, by have : (0 : Int) < ((p.map enc1).length : Nat) := by rw [List.length_map]; omega
                                                        exact this, ?_⟩
        refine optW_some eb (.inl ⟨[[c], [b]], rfl, by simp, fun ys h1 h2 => ?_⟩)
        obtain ⟨hl, hc2⟩ := two_sorted h1 h2 (hin c hc) (hin b hb)
        exact ⟨ys, rfl, sum_small hl h2, h _ hc2⟩
      · refine ⟨(by decide : (0 : Int) < 67108863), ?_⟩
        have m1 : 0 ≤ n / 4 % 67108863 := Int.emod_nonneg _ (by decide)
        have m2 : n / 4 % 67108863 < 67108863 := Int.emod_lt_of_pos _ (by decide)
        generalize hm : n / 4 % 67108863 + 1 = m
        refine forW_pre (xs := abc) enc1 (fun pre env => ∃ (r : Int) (s : List Nat) (g : Slot), env = [.sh (.lst (p.map enc1)), .sh (.int r), .sh (.str abc), .sh (.int (n % 4)), .sh (.str s), g] ∧ 0 ≤ r ∧ r < 2 ^ (26 - pre.length) ∧ (s = [] → 0 < r) ∧ s.Pairwise (· < ·) ∧ ∀ c ∈ s, 97 ≤ c ∧ c < 97 + pre.length)
          ⟨m, [], _, by rw [← hm]; rfl, by omega, by show m < 2 ^ 26; omega, fun _ => by omega, by simp, by simp⟩ (fun pre x post env k e hI hk => ?_) fun env hI => ?_
        · obtain ⟨r, s, g, rfl, h0, hr, hne, hup, hlt⟩ := hI
          have hx : pre.length < 26 ∧ x = 97 + pre.length := by
            have hl := congrArg List.length e
            have e26 : abc.length = 26 := rfl
            rw [e26] at hl
            simp at hl
            have h1 : abc[pre.length]? = some x := by rw [e]; simp
            rw [abc_get (by omega)] at h1
            exact ⟨by omega, (Option.some.inj h1).symm⟩
          have hpow : (2 : Int) ^ (26 - pre.length) = 2 * 2 ^ (26 - (pre ++ [x]).length) := by
            have : 26 - pre.length = (26 - (pre ++ [x]).length) + 1 := by simp; omega
            rw [this, Int.pow_succ]; omega
          have hd : r / 2 < 2 ^ (26 - (pre ++ [x]).length) := by omega
          refine ⟨(by decide : (0 : Int) < 2), rfl, rfl, ite2 (fun e5 => ?_) fun e5 => ?_⟩
          · rw [deq_int] at e5
            have e5' : r % 2 = 1 := of_decide_eq_true e5
            have hsl : s.length ≤ 26 := by
              have := up_len (a := 97) (b := 97 + pre.length) hup hlt
              omega
            refine ⟨by show s.length + 1 ≤ sizeLine; exact size_le (by omega), ⟨by decide, by decide⟩, hk _ ⟨r / 2, s ++ [x], .sh (enc1 x), rfl, by omega, hd, fun z => (by simp at z), ?_, ?_⟩⟩
            · refine List.pairwise_append.mpr ⟨hup, by simp, fun a ha b hb => ?_⟩
              rw [List.mem_singleton.mp hb]
              have := (hlt a ha).2
              omega
            · intro c hc
              rcases List.mem_append.mp hc with q | q
              · have := hlt c q
                simp; omega
              · rw [List.mem_singleton.mp q]
                simp; omega
          · rw [deq_int] at e5
            have e5' : ¬ r % 2 = 1 := fun z => e5 (decide_eq_true z)
            refine ⟨⟨by decide, by decide⟩, hk _ ⟨r / 2, s, .sh (enc1 x), rfl, by omega, hd, fun z => ?_, hup, fun c hc => ?_⟩⟩
            · have := hne z
              omega
            · have := hlt c hc
              simp; omega
        · obtain ⟨r, s, g, rfl, h0, hr, hne, hup, hlt⟩ := hI
          refine h _ ⟨fun z => ?_, hup, fun c hc => ?_⟩
          · have := hne z
            have e : (abc.length) = 26 := rfl
            rw [e] at hr
            omega
          · have := hlt c hc
            have e : (abc.length) = 26 := rfl
            omega
theorem len_class : ∀ as K, con_class as K → as.length = 2 := by rintro as K ⟨_, _, rfl, _⟩; rfl
end Nf
/-! the laws' patterns and prices, further -/
namespace Nf
open PySem PySem.Spec L2
/-- a comprehension whose items are only known by what holds of them -/
theorem compW_rel {α : Type} {own : List Nat} {tgW : D → Ev → (Ev → Prop) → Prop} {condW : Ev → (Bool → Ev → Prop) → Prop} {eltW : Ev → (D → Ev → Prop) → Prop} {xs : List α} (enc : α → D) (R : D → Prop) {env : Ev} {K : List D → Ev → Prop} (hz : xs.length ≤ 100000)
    (h : ∀ x ∈ xs, ∀ (kt : D → Ev → Prop) (kf : Ev → Prop), (∀ y, R y → ∀ e, wipeE own e = env → kt y e) → tgW (enc x) env fun e1 => condW e1 fun b e2 => if b = true then eltW e2 kt else kf e2)
    (hK : ∀ ys, ys.length = xs.length → (∀ y ∈ ys, R y) → K ys env) : compW own tgW condW eltW (xs.map enc) [] env K := by
  have main : ∀ (post : List α) (acc : List D), (∀ x ∈ post, x ∈ xs) → acc.length + post.length = xs.length → (∀ y ∈ acc, R y) → compW own tgW condW eltW (post.map enc) acc env K := by
    intro post
    induction post with
    | nil => intro acc _ e g; rw [List.map_nil, compW_nil]; exact hK acc (by simpa using e) g
    | cons x post ih =>
      intro acc m e g
      rw [List.map_cons, compW_cons]
      simp at e
      refine h x (m x List.mem_cons_self) (fun y e3 => acc.length < sizeLine ∧ compW own tgW condW eltW (post.map enc) (acc ++ [y]) (wipeE own e3) K) (fun e2 => compW own tgW condW eltW (post.map enc) acc (wipeE own e2) K) fun y hy e3 he => ⟨size_small (by omega), ?_⟩
      rw [he]
      refine ih (acc ++ [y]) (fun z hz => m z (List.mem_cons_of_mem _ hz)) (by simp; omega) fun z hz => ?_
      rcases List.mem_append.mp hz with q | q
      · exact g z q
      · rw [List.mem_singleton.mp q]; exact hy
  exact main xs [] (fun _ h => h) (by simp) fun _ h => by cases h
def ssTl : Nat → Ss → Ss
  | 0, s => s
  | n + 1, .cons _ s => ssTl n s
  | _ + 1, .nil => .nil
theorem imm_encP (p : List (List Nat)) : imm (encP p) = true := by
  show immL (p.map D.str) = true
  induction p with
  | nil => rfl
  | cons x p ih => simp only [List.map_cons, immL, imm, ih]; rfl
theorem zipD_self : ∀ xs : List D, zipD xs xs = xs.map fun x => .tup [x, x]
  | [] => rfl
  | x :: xs => by rw [zipD, zipD_self xs]; rfl
theorem strs_of {R : List Nat → Prop} : ∀ {ys : List D}, (∀ y ∈ ys, ∃ s, y = .str s ∧ R s) → ∃ p : List (List Nat), ys = p.map D.str ∧ ∀ s ∈ p, R s
  | [], _ => ⟨[], rfl, fun _ h => by cases h⟩
  | y :: ys, h => by
    obtain ⟨s, e, hs⟩ := h y List.mem_cons_self
    obtain ⟨p, e2, hp⟩ := strs_of (ys := ys) fun z hz => h z (List.mem_cons_of_mem _ hz)
    refine ⟨s :: p, by rw [e, e2]; rfl, fun z hz => ?_⟩
    rcases List.mem_cons.mp hz with q | q
    · rw [q]; exact hs
    · exact hp z q
def ir__law_pattern : Def := ⟨"_law_pattern", 3, ["_law_pool_here", "_law_cell_here", "_law_many", "_law_digit"],
  (.cons (.ret (.op .tuple1 (.cons (.comp (.call "_law_class" (.cons (.var 0) (.cons (.var 3) .nil)) [] []) (.name 3) (.ex (.call "_law_digits" (.cons (.var 1) (.cons (.op .mul (.cons (.cst (.int 4)) (.cons (.cst (.int 67108863)) .nil))) (.cons (.var 2) .nil))) [] [])) .no [3]) .nil))) .nil)⟩

/-- a law's pattern -/
def PatOk (p : List (List Nat)) : Prop := ∀ s ∈ p, Cls s
def con_pattern : Con := fun as K => ∃ (p : List Nat) (c : Int) (n : Nat), as = [.sh (.lst (p.map enc1)), .sh (.int c), .sh (.int ((n : Nat) : Int))] ∧ 0 < p.length ∧ p.length ≤ 26 ∧ (∀ x ∈ p, 97 ≤ x ∧ x ≤ 122) ∧ n ≤ 1000 ∧ ∀ q, q.length = n → PatOk q → K (.ret (.v (encP q)) [])
theorem ok_pattern (Γ : String → Con) (gc : String → Option D) (hd : Has Γ "_law_digits" con_digits) (hc : Has Γ "_law_class" con_class) : DefOk Γ gc ir__law_pattern con_pattern := by
  rintro as K ⟨p, c, n, rfl, hp, hp2, hin, hn, h⟩
  refine ⟨mulR (by decide) (by decide), ?_⟩
  refine hd _ _ ⟨c, _, n, rfl, by decide, by decide, by omega, ?_⟩
  refine compW_rel (xs := digitsV c (4 * 67108863) n) D.int (fun y => ∃ s, y = .str s ∧ Cls s) (by rw [digitsV_len]; omega) (fun x hx kt kf h1 => ?_) fun ys hl hy => ?_
  · exact hc _ _ ⟨p, x, rfl, hp, hp2, hin, fun s hs => h1 _ ⟨s, rfl, hs⟩ _ rfl⟩
  · obtain ⟨q, rfl, hq⟩ := strs_of hy
    exact h q (by rw [List.length_map, digitsV_len] at hl; exact hl) hq
theorem len_pattern : ∀ as K, con_pattern as K → as.length = 3 := by rintro as K ⟨_, _, _, rfl, _⟩; rfl
def ir__law_prices : Def := ⟨"_law_prices", 1, ["_law_cell_here"],
  (.cons (.iff (.cmp .eq (.cons (.op .mod (.cons (.var 0) (.cons (.cst (.int 4)) .nil))) (.cons (.cst (.int 0)) .nil))) (.cons (.ret (.tup (.cons (.cst (.int 1)) (.cons (.cst (.int 1)) (.cons (.cst (.int 1)) (.cons (.cst (.int 0)) .nil)))))) .nil) .nil) (.cons (.iff (.cmp .eq (.cons (.op .mod (.cons (.var 0) (.cons (.cst (.int 4)) .nil))) (.cons (.cst (.int 1)) .nil))) (.cons (.ret (.op .idx (.cons (.lst (.cons (.tup (.cons (.cst (.int 1)) (.cons (.cst (.int 1)) (.cons (.cst (.int 1)) (.cons (.cst (.int 1)) .nil))))) (.cons (.tup (.cons (.cst (.int 0)) (.cons (.cst (.int 0)) (.cons (.cst (.int 1)) (.cons (.cst (.int 0)) .nil))))) (.cons (.tup (.cons (.cst (.int 2)) (.cons (.cst (.int 2)) (.cons (.cst (.int 3)) (.cons (.cst (.int 0)) .nil))))) (.cons (.tup (.cons (.cst (.int 0)) (.cons (.cst (.int 0)) (.cons (.cst (.int 1)) (.cons (.cst (.int 1)) .nil))))) (.cons (.tup (.cons (.cst (.int 1)) (.cons (.cst (.int 1)) (.cons (.cst (.int 0)) (.cons (.cst (.int 0)) .nil))))) .nil)))))) (.cons (.op .mod (.cons (.op .fdiv (.cons (.var 0) (.cons (.cst (.int 4)) .nil))) (.cons (.cst (.int 5)) .nil))) .nil)))) .nil) .nil) (.cons (.ret (.op .tuple1 (.cons (.call "_law_digits" (.cons (.op .fdiv (.cons (.var 0) (.cons (.cst (.int 4)) .nil))) (.cons (.cst (.int 10)) (.cons (.cst (.int 4)) .nil))) [] []) .nil))) .nil)))⟩

/-- a law's prices -/
structure Pr.In (pr : Pr) : Prop extends pr.Ok where
  i9 : pr.ins ≤ 9
  l9 : pr.lack ≤ 9
  e9 : pr.exch ≤ 9
  t9 : pr.turn ≤ 9
def con_prices : Con := fun as K => ∃ c, as = [.sh (.int c)] ∧ ∀ pr : Pr, pr.In → K (.ret (.v (encPr pr)) [])
theorem five_pick {n : Int} {xs : List D} (hl : xs.length = 5) (R : D → Prop) (h : ∀ x ∈ xs, R x) : ∃ d, atI xs (n % 5) = some d ∧ R d := by
  have m1 : 0 ≤ n % 5 := Int.emod_nonneg _ (by decide)
  have m2 : n % 5 < 5 := Int.emod_lt_of_pos _ (by decide)
  have hb : (n % 5).toNat < xs.length := by omega
  exact ⟨xs[(n % 5).toNat], by rw [atI_int _ _ m1, List.getElem?_eq_getElem hb], h _ (List.getElem_mem hb)⟩
theorem ok_prices (Γ : String → Con) (gc : String → Option D) (hd : Has Γ "_law_digits" con_digits) : DefOk Γ gc ir__law_prices con_prices := by
  rintro as K ⟨c, rfl, h⟩
  have k : ∀ a b x y : Int, 0 ≤ a ∧ a ≤ 9 → 0 ≤ b ∧ b ≤ 9 → 0 ≤ x ∧ x ≤ 9 → 0 ≤ y ∧ y ≤ 9 → K (.ret (.v (.tup [.int a, .int b, .int x, .int y])) []) := fun a b x y h1 h2 h3 h4 =>
    h ⟨a, b, x, y⟩ ⟨⟨h1.1, h2.1, h3.1, h4.1⟩, h1.2, h2.2, h3.2, h4.2⟩
  refine ⟨(by decide : (0 : Int) < 4), rfl, rfl, ite2 (fun e1 => ?_) fun e1 => ?_⟩
  · exact k 1 1 1 0 (by decide) (by decide) (by decide) (by decide)
  · refine ⟨(by decide : (0 : Int) < 4), rfl, rfl, ite2 (fun e2 => ?_) fun e2 => ?_⟩
    · refine ⟨⟨by decide, by decide⟩, (by decide : (0 : Int) < 5), ?_⟩
      obtain ⟨d, e, hd2⟩ := five_pick (n := c / 4) (xs := [.tup [.int 1, .int 1, .int 1, .int 1], .tup [.int 0, .int 0, .int 1, .int 0], .tup [.int 2, .int 2, .int 3, .int 0], .tup [.int 0, .int 0, .int 1, .int 1], .tup [.int 1, .int 1, .int 0, .int 0]]) rfl (fun d => K (.ret (.v d) [])) (by
        intro d hd2
        simp only [List.mem_cons, List.not_mem_nil, or_false] at hd2
        rcases hd2 with rfl | rfl | rfl | rfl | rfl
        · exact k _ _ _ _ (by decide) (by decide) (by decide) (by decide)
        · exact k _ _ _ _ (by decide) (by decide) (by decide) (by decide)
        · exact k _ _ _ _ (by decide) (by decide) (by decide) (by decide)
        · exact k _ _ _ _ (by decide) (by decide) (by decide) (by decide)
        · exact k _ _ _ _ (by decide) (by decide) (by decide) (by decide))
      exact optW_some e hd2
    · refine ⟨⟨by decide, by decide⟩, ?_⟩
      refine hd _ _ ⟨c / 4, 10, 4, rfl, by decide, by decide, by decide, ?_⟩
      have hl := digitsV_len (c / 4) 10 4
      have hin := digitsV_in (c := c / 4) (n := 4) (b := 10) (by decide)
      generalize digitsV (c / 4) 10 4 = ds at hl hin
      match ds, hl, hin with
      | [a, b, x, y], _, hin =>
        refine k a b x y ?_ ?_ ?_ ?_
        · have := hin a (by simp); omega
        · have := hin b (by simp); omega
        · have := hin x (by simp); omega
        · have := hin y (by simp); omega
theorem len_prices : ∀ as K, con_prices as K → as.length = 1 := by rintro as K ⟨_, rfl, _⟩; rfl
def ir_case21 : Def := ⟨"_law_case", 2, ["_law_script", "_law_at", "_law_cell_here", "_law_pool_here", "_law_most", "_law_far", "_law_pattern_here", "_law_text_here"],
  (.cons (.asg (.name 2) (.call "_law_cell" (.cons (.var 0) (.cons (.var 1) .nil)) [] [])) (.cons (.asg (.name 3) (.call "_law_pool" (.cons (.var 2) .nil) [] [])) (.cons (.asg (.name 4) (.op .idx (.cons (.lst (.cons (.cst (.int 40)) (.cons (.cst (.int 8)) (.cons (.cst (.int 8)) (.cons (.cst (.int 8)) .nil))))) (.cons (.op .mod (.cons (.op .fdiv (.cons (.var 2) (.cons (.cst (.int 104)) .nil))) (.cons (.cst (.int 4)) .nil))) .nil)))) (.cons (.asg (.name 5) (.op .idx (.cons (.lst (.cons (.cst (.int 60)) (.cons (.cst (.int 40)) (.cons (.cst (.int 40)) (.cons (.cst (.int 40)) .nil))))) (.cons (.op .mod (.cons (.op .fdiv (.cons (.var 2) (.cons (.cst (.int 104)) .nil))) (.cons (.cst (.int 4)) .nil))) .nil)))) (.cons (.asg (.name 6) (.call "_law_pattern" (.cons (.var 3) (.cons (.call "_law_cell" (.cons (.var 0) (.cons (.op .add (.cons (.var 1) (.cons (.cst (.int 1)) .nil))) .nil)) [] []) (.cons (.op .mod (.cons (.op .fdiv (.cons (.var 2) (.cons (.cst (.int 416)) .nil))) (.cons (.op .add (.cons (.var 4) (.cons (.cst (.int 1)) .nil))) .nil))) .nil))) [] [])) (.cons (.asg (.name 7) (.call "_law_text" (.cons (.var 3) (.cons (.call "_law_cell" (.cons (.var 0) (.cons (.op .add (.cons (.var 1) (.cons (.cst (.int 2)) .nil))) .nil)) [] []) (.cons (.op .mod (.cons (.op .fdiv (.cons (.var 2) (.cons (.cst (.int 17056)) .nil))) (.cons (.op .add (.cons (.var 5) (.cons (.cst (.int 1)) .nil))) .nil))) .nil))) [] [])) (.cons (.ret (.lst (.cons (.var 6) (.cons (.var 7) (.cons (.call "_law_prices" (.cons (.call "_law_cell" (.cons (.var 0) (.cons (.op .add (.cons (.var 1) (.cons (.cst (.int 3)) .nil))) .nil)) [] []) .nil) [] []) .nil))))) .nil)))))))⟩

/-- a case: pattern, text, prices -/
structure CaseOk (p : List (List Nat)) (t : List Nat) (pr : Pr) (m f : Nat) : Prop where
  pat : PatOk p
  pl : p.length ≤ m
  tl : t.length ≤ f
  tx : ∀ c ∈ t, 97 ≤ c ∧ c ≤ 122
  pr : pr.In
def con_case21 : Con := fun as K => ∃ ns, as = [.sh (encS ns), .sh (.int 0)] ∧ ∀ p t pr, CaseOk p t pr 40 60 → K (.ret (.t (.lst [encP p, .str t, encPr pr])) [])
theorem four_pick {n : Int} {a b c d : Int} {P : Int → Prop} (ha : P a) (hb : P b) (hc : P c) (hd : P d) : ∃ i, atI [D.int a, .int b, .int c, .int d] (n % 4) = some (.int i) ∧ P i := by
  have m1 : 0 ≤ n % 4 := Int.emod_nonneg _ (by decide)
  have m2 : n % 4 < 4 := Int.emod_lt_of_pos _ (by decide)
  have : n % 4 = 0 ∨ n % 4 = 1 ∨ n % 4 = 2 ∨ n % 4 = 3 := by omega
  rcases this with e | e | e | e <;> rw [e]
  · exact ⟨a, rfl, ha⟩
  · exact ⟨b, rfl, hb⟩
  · exact ⟨c, rfl, hc⟩
  · exact ⟨d, rfl, hd⟩
theorem nat_mod (c : Int) {m : Int} (h : 0 ≤ m) : ∃ n : Nat, c % (m + 1) = (n : Int) ∧ (n : Int) ≤ m := by
  have m1 : 0 ≤ c % (m + 1) := Int.emod_nonneg _ (by omega)
  have m2 : c % (m + 1) < m + 1 := Int.emod_lt_of_pos _ (by omega)
  exact ⟨(c % (m + 1)).toNat, by omega, by omega⟩
theorem ok_case21 (Γ : String → Con) (gc : String → Option D) (h1 : Has Γ "_law_cell" con_cell) (h2 : Has Γ "_law_pool" con_pool) (h3 : Has Γ "_law_pattern" con_pattern) (h4 : Has Γ "_law_text" con_text) (h5 : Has Γ "_law_prices" con_prices) : DefOk Γ gc ir_case21 con_case21 := by
  rintro as K ⟨ns, rfl, h⟩
  refine h1 _ _ ⟨ns, 0, rfl, by decide, ?_⟩
  refine h2 _ _ ⟨_, rfl, ?_⟩
  have hp := poolV_len (cellV ns 0)
  have hf := fewV_in (cellV ns 0)
  have hpi := poolV_in (cellV ns 0)
  generalize poolV (cellV ns 0) = pool at hp hpi
  generalize cellV ns 0 = c at hp hf
  refine ⟨⟨by decide, by decide⟩, (by decide : (0 : Int) < 4), ?_⟩
  obtain ⟨m, em, hm⟩ := four_pick (n := c / 104) (a := 40) (b := 8) (c := 8) (d := 8) (P := fun i => 0 ≤ i ∧ i ≤ 40) (by decide) (by decide) (by decide) (by decide)
  refine optW_some em ⟨⟨by decide, by decide⟩, (by decide : (0 : Int) < 4), ?_⟩
  obtain ⟨f, ef, hf2⟩ := four_pick (n := c / 104) (a := 60) (b := 40) (c := 40) (d := 40) (P := fun i => 0 ≤ i ∧ i ≤ 60) (by decide) (by decide) (by decide) (by decide)
  refine optW_some ef ?_
  refine h1 _ _ ⟨ns, 1, rfl, by decide, ?_⟩
  obtain ⟨n1, e1, l1⟩ := nat_mod (c / 416) hm.1
  obtain ⟨n2, e2, l2⟩ := nat_mod (c / 17056) hf2.1
  refine ⟨⟨by decide, by decide⟩, by show (0 : Int) < m + 1; omega, ?_⟩
  refine h3 _ _ ⟨pool, cellV ns 1, n1, by rw [← e1], by omega, by omega, hpi, by omega, fun q hq hok => ?_⟩
  refine h1 _ _ ⟨ns, 2, rfl, by decide, ?_⟩
  refine ⟨⟨by decide, by decide⟩, by show (0 : Int) < f + 1; omega, ?_⟩
  refine h4 _ _ ⟨pool, cellV ns 2, n2, by rw [← e2], by omega, by omega, by omega, ?_⟩
  refine h1 _ _ ⟨ns, 3, rfl, by decide, ?_⟩
  refine h5 _ _ ⟨cellV ns 3, rfl, fun pr hpr => ?_⟩
  exact h q _ pr ⟨hok, by omega, by rw [textV_len]; omega, fun c hc => hpi c (textV_in (by omega) c hc), hpr⟩
theorem len_case21 : ∀ as K, con_case21 as K → as.length = 2 := by rintro as K ⟨_, rfl, _⟩; rfl
end Nf
/-! the laws' own columns -/
namespace Nf
open PySem PySem.Spec L2
theorem lower_none (a : Option Int) : lowerO a none = a := by cases a <;> rfl
theorem lower_comm (a b : Option Int) : lowerO a b = lowerO b a := by
  cases a <;> cases b <;> first | rfl | (show some (min _ _) = some (min _ _); rw [Int.min_comm])
theorem lower_assoc (a b c : Option Int) : lowerO (lowerO a b) c = lowerO a (lowerO b c) := by
  cases a <;> cases b <;> cases c <;> first | rfl | (show some (min (min _ _) _) = some (min _ (min _ _)); rw [Int.min_assoc])
instance : Std.Associative lowerO := ⟨lower_assoc⟩
instance : Std.Commutative lowerO := ⟨lower_comm⟩
/-- the least of some -/
def leastO : List (Option Int) → Option Int
  | [] => none
  | x :: xs => lowerO x (leastO xs)
theorem leastO_mem : ∀ {l : List (Option Int)} {y : Int}, leastO l = some y → y ∈ l.filterMap id := by
  intro l
  induction l with
  | nil => intro y h; cases h
  | cons a l ih =>
    intro y h
    rcases lowerO_some (show lowerO a (leastO l) = some y from h) with z | z
    · rw [z]; simp
    · have := ih z
      cases a <;> simp at this ⊢
      · exact this
      · exact .inr this
theorem leastO_min {xs : List (Option Int)} : ∀ {m : Int}, m ∈ xs.filterMap id → (∀ y ∈ xs.filterMap id, m ≤ y) → leastO xs = some m := by
  induction xs with
  | nil => intro m h; cases h
  | cons a xs ih =>
    intro m h1 h2
    cases a with
    | none =>
      have h1' : m ∈ xs.filterMap id := by simpa using h1
      exact ih h1' fun y hy => h2 y (by simpa using hy)
    | some x =>
      have hx : m ≤ x := h2 x (by simp)
      have h2' : ∀ y ∈ xs.filterMap id, m ≤ y := fun y hy => h2 y (by simp at hy ⊢; exact .inr hy)
      show lowerO (some x) (leastO xs) = some m
      by_cases q : m ∈ xs.filterMap id
      · rw [ih q h2']
        show some (min x m) = some m
        rw [Int.min_eq_right hx]
      · have e : m = x := by
          have : m = x ∨ m ∈ xs.filterMap id := by simpa using h1
          rcases this with z | z
          · exact z
          · exact (q z).elim
        subst e
        cases r : leastO xs with
        | none => rfl
        | some y =>
          have hy := h2' y (leastO_mem r)
          show some (min m y) = some m
          rw [Int.min_eq_left hy]
theorem leastO_nil : ∀ {xs : List (Option Int)}, xs.filterMap id = [] → leastO xs = none
  | [], _ => rfl
  | none :: xs, h => leastO_nil (xs := xs) (by simpa using h)
  | some x :: xs, h => by simp at h
def ir__law_least : Def := ⟨"_law_least", 1, ["_law_some", "_law_known", "_law_one"],
  (.cons (.asg (.name 1) (.comp (.var 2) (.name 2) (.ex (.var 0)) (.yes (.cmp .isnot (.cons (.var 2) (.cons (.cst .non) .nil)))) [2])) (.cons (.iff (.cmp .eq (.cons (.var 1) (.cons (.lst .nil) .nil))) (.cons (.ret (.cst .non)) .nil) .nil) (.cons (.ret (.op .min1 (.cons (.var 1) .nil))) .nil)))⟩

def con_least : Con := fun as K => ∃ xs : List (Option Int), as = [.sh (.lst (xs.map encO))] ∧ xs.length ≤ 1000 ∧ K (.ret (.v (encO (leastO xs))) [])
theorem eqOk_ints (ns : List Int) : eqOk (.lst (ns.map D.int)) = true := by
  have h : ∀ l : List Int, PySem.PyData.canLayAll0 (toPyL (l.map D.int)) = true ∧ PySem.PyData.depthAll (toPyL (l.map D.int)) = 0 := by
    intro l
    induction l with
    | nil => exact ⟨by simp [toPyL, PySem.PyData.canLayAll0], by simp [toPyL, PySem.PyData.depthAll]⟩
    | cons x l ih =>
      constructor
      · simp only [List.map_cons, toPyL, toPy, PySem.PyData.canLayAll0, PySem.PyData.canLay0, ih.1, Bool.true_and, Bool.and_true]
      · simp only [List.map_cons, toPyL, toPy, PySem.PyData.depthAll, PySem.PyData.depth, ih.2]; rfl
  show ((PySem.PyData.canLay0 (.list (toPyL (ns.map D.int)))) && decide (PySem.PyData.depth (.list (toPyL (ns.map D.int))) ≤ 64)) = true
  simp [PySem.PyData.canLay0, PySem.PyData.depth, (h ns).1, (h ns).2]
theorem deq_nil (xs : List D) : deq (.lst xs) (.lst []) = xs.isEmpty := by
  cases xs with
  | nil => rfl
  | cons x xs => simp [deq, toPy, toPyL, PyData.eqv, PyData.eqvAll]
theorem enc_flt (xs : List (Option Int)) : (xs.filterMap fun o => match o with | some i => some (D.int i) | none => none) = (xs.filterMap id).map D.int := by
  induction xs with
  | nil => rfl
  | cons x xs ih =>
    cases x with
    | none => simpa using ih
    | some i => simp [ih]
theorem ok_least (Γ : String → Con) (gc : String → Option D) : DefOk Γ gc ir__law_least con_least := by
  rintro as K ⟨xs, rfl, hl, h⟩
  refine compW_fm (xs := xs) encO (fun o => match o with | some i => some (D.int i) | none => none) (by omega) (fun x hx kt kf h1 h2 => ?_) ?_
  · cases x with
    | none => exact h2 rfl _ rfl
    | some i => exact h1 _ rfl _ rfl
  · rw [enc_flt]
    refine ⟨eqOk_ints _, rfl, ite2 (fun e => ?_) fun e => ?_⟩
    · rw [deq_nil] at e
      have e2 : xs.filterMap id = [] := by simpa using e
      rw [leastO_nil e2] at h
      exact h
    · rw [deq_nil] at e
      have e2 : xs.filterMap id ≠ [] := by simpa using e
      refine ⟨xs.filterMap id, rfl, e2, fun m h1 h2 => ?_⟩
      rw [leastO_min h1 h2] at h
      exact h
theorem len_least : ∀ as K, con_least as K → as.length = 1 := by rintro as K ⟨_, rfl, _⟩; rfl
def ir__law_dearer : Def := ⟨"_law_dearer", 2, ["_law_price", "_law_by"],
  (.cons (.iff (.orv (.cons (.cmp .is (.cons (.var 0) (.cons (.cst .non) .nil))) (.cons (.cmp .eq (.cons (.var 1) (.cons (.cst (.int 0)) .nil))) .nil))) (.cons (.ret (.cst .non)) .nil) .nil) (.cons (.ret (.op .add (.cons (.var 0) (.cons (.var 1) .nil)))) .nil))⟩

theorem ok_ldearer (Γ : String → Con) (gc : String → Option D) : DefOk Γ gc ir__law_dearer con_dearer := by
  rintro as K ⟨a, b, rfl, h⟩
  cases a with
  | none => exact h
  | some a =>
    refine ⟨rfl, rfl, ite2 (fun e => ?_) fun e => ?_⟩
    · rw [deq_int] at e
      have : b = 0 := of_decide_eq_true e
      rw [show dearerO (some a) b = none from if_pos this] at h
      exact h
    · rw [deq_int] at e
      have : ¬ b = 0 := fun z => e (decide_eq_true z)
      rw [show dearerO (some a) b = some (a + b) from if_neg this] at h
      exact h
end Nf
/-! rooms: columns capped, sorts of letters, what comes behind a column -/
namespace Nf
open PySem PySem.Spec L2
abbrev Col := List (Option Int)
def capO (m : Int) : Option Int → Option Int
  | some x => if x ≤ m then some x else none
  | none => none
def capC (m : Int) (c : Col) : Col := c.map (capO m)
theorem capC_len (m : Int) (c : Col) : (capC m c).length = c.length := List.length_map _
def ir_capped : Def := ⟨"capped", 2, ["column", "most", "price"],
  (.cons (.ret (.op .tuple1 (.cons (.comp (.ite (.andv (.cons (.cmp .isnot (.cons (.var 2) (.cons (.cst .non) .nil))) (.cons (.cmp .le (.cons (.var 2) (.cons (.var 1) .nil))) .nil))) (.var 2) (.cst .non)) (.name 2) (.ex (.var 0)) .no [2]) .nil))) .nil)⟩

def con_capped : Con := fun as K => ∃ (c : Col) (m : Int), (as = [.sh (.tup (c.map encO)), .sh (.int m)] ∨ as = [.sh (.lst (c.map encO)), .sh (.int m)]) ∧ c.length ≤ 1000 ∧ K (.ret (.v (encCol (capC m c))) [])
theorem ok_capped (Γ : String → Con) (gc : String → Option D) : DefOk Γ gc ir_capped con_capped := by
  rintro as K ⟨c, m, has, hl, h⟩
  have e : (c.filterMap fun o => some (encO (capO m o))) = (capC m c).map encO := by
    unfold capC
    rw [List.filterMap_eq_map', List.map_map]; rfl
  have step : ∀ (x : Option Int), x ∈ c → ∀ (kt : D → Ev → Prop) (ls : D), (∀ y, some (encO (capO m x)) = some y → ∀ e, wipeE [2] e = [.sh ls, .sh (.int m), .no] → kt y e) → kt (encO (capO m x)) [.sh ls, .sh (.int m), .sh (encO x)] := fun x _ kt ls ht => ht _ rfl _ rfl
  rcases has with rfl | rfl
  · refine compW_fm (xs := c) encO (fun o => some (encO (capO m o))) (by omega) (fun x hx kt kf ht hf => ?_) ?_
    · have z := step x hx kt _ ht
      cases x with
      | none => exact z
      | some i =>
        refine ite2 (fun q => ?_) (fun q => ?_)
        · have q' : i ≤ m := of_decide_eq_true q
          rw [show capO m (some i) = some i from if_pos q'] at z
          exact z
        · have q' : ¬ i ≤ m := fun w => q (decide_eq_true w)
          rw [show capO m (some i) = none from if_neg q'] at z
          exact z
    · rw [e]
      exact h
  · refine compW_fm (xs := c) encO (fun o => some (encO (capO m o))) (by omega) (fun x hx kt kf ht hf => ?_) ?_
    · have z := step x hx kt _ ht
      cases x with
      | none => exact z
      | some i =>
        refine ite2 (fun q => ?_) (fun q => ?_)
        · have q' : i ≤ m := of_decide_eq_true q
          rw [show capO m (some i) = some i from if_pos q'] at z
          exact z
        · have q' : ¬ i ≤ m := fun w => q (decide_eq_true w)
          rw [show capO m (some i) = none from if_neg q'] at z
          exact z
    · rw [e]
      exact h
theorem len_capped : ∀ as K, con_capped as K → as.length = 2 := by rintro as K ⟨_, _, rfl | rfl, _⟩ <;> rfl
def ir__law_capped : Def := ⟨"_law_capped", 2, ["_law_column", "_law_most", "_law_price"],
  (.cons (.ret (.op .tuple1 (.cons (.comp (.ite (.andv (.cons (.cmp .isnot (.cons (.var 2) (.cons (.cst .non) .nil))) (.cons (.cmp .le (.cons (.var 2) (.cons (.var 1) .nil))) .nil))) (.var 2) (.cst .non)) (.name 2) (.ex (.var 0)) .no [2]) .nil))) .nil)⟩

def con_lcapped : Con := fun as K => ∃ (c : Col) (m : Int), (as = [.sh (.tup (c.map encO)), .sh (.int m)] ∨ as = [.sh (.lst (c.map encO)), .sh (.int m)]) ∧ c.length ≤ 1000 ∧ K (.ret (.v (encCol (capC m c))) [])
theorem ok_lcapped (Γ : String → Con) (gc : String → Option D) : DefOk Γ gc ir__law_capped con_lcapped := by
  rintro as K ⟨c, m, has, hl, h⟩
  have e : (c.filterMap fun o => some (encO (capO m o))) = (capC m c).map encO := by
    unfold capC
    rw [List.filterMap_eq_map', List.map_map]; rfl
  have step : ∀ (x : Option Int), x ∈ c → ∀ (kt : D → Ev → Prop) (ls : D), (∀ y, some (encO (capO m x)) = some y → ∀ e, wipeE [2] e = [.sh ls, .sh (.int m), .no] → kt y e) → kt (encO (capO m x)) [.sh ls, .sh (.int m), .sh (encO x)] := fun x _ kt ls ht => ht _ rfl _ rfl
  rcases has with rfl | rfl
  · refine compW_fm (xs := c) encO (fun o => some (encO (capO m o))) (by omega) (fun x hx kt kf ht hf => ?_) ?_
    · have z := step x hx kt _ ht
      cases x with
      | none => exact z
      | some i =>
        refine ite2 (fun q => ?_) (fun q => ?_)
        · have q' : i ≤ m := of_decide_eq_true q
          rw [show capO m (some i) = some i from if_pos q'] at z
          exact z
        · have q' : ¬ i ≤ m := fun w => q (decide_eq_true w)
          rw [show capO m (some i) = none from if_neg q'] at z
          exact z
    · rw [e]
      exact h
  · refine compW_fm (xs := c) encO (fun o => some (encO (capO m o))) (by omega) (fun x hx kt kf ht hf => ?_) ?_
    · have z := step x hx kt _ ht
      cases x with
      | none => exact z
      | some i =>
        refine ite2 (fun q => ?_) (fun q => ?_)
        · have q' : i ≤ m := of_decide_eq_true q
          rw [show capO m (some i) = some i from if_pos q'] at z
          exact z
        · have q' : ¬ i ≤ m := fun w => q (decide_eq_true w)
          rw [show capO m (some i) = none from if_neg q'] at z
          exact z
    · rw [e]
      exact h
theorem len_lcapped : ∀ as K, con_lcapped as K → as.length = 2 := by rintro as K ⟨_, _, rfl | rfl, _⟩ <;> rfl
def ir_sorts_of : Def := ⟨"sorts_of", 1, ["pattern", "firsts", "found", "sign", "row", "one"],
  (.cons (.asg (.name 1) .dtn) (.cons (.asg (.name 2) (.lst .nil)) (.cons (.loop (.name 3) (.ex (.gl "LETTERS")) (.cons (.asg (.name 4) (.op .tuple1 (.cons (.comp (.call "fits" (.cons (.var 5) (.cons (.var 3) .nil)) [] []) (.name 5) (.ex (.var 0)) .no [5]) .nil))) (.cons (.append 2 (.dts 1 4 3)) .nil))) (.cons (.ret (.var 2)) .nil))))⟩

def lfB (b : Bool) : Leaf := .num (if b = true then 1 else 0)
def rowK (p : List (List Nat)) (c : Nat) : List Leaf := p.map fun one => lfB (decide (c ∈ one))
theorem leafs_row (p : List (List Nat)) (c : Nat) : leafs (p.map fun one => D.bl (decide (c ∈ one))) = some (rowK p c) := by
  induction p with
  | nil => rfl
  | cons a p ih =>
    rw [List.map_cons]
    unfold leafs
    rw [ih]
    rfl
/-- the first letter that fits the same classes -/
def srtP (p : List (List Nat)) (c : Nat) : Nat := (abc.find? fun d => decide (rowK p d = rowK p c)).getD 0
theorem srtP_ok {p : List (List Nat)} {c : Nat} (h : c ∈ abc) : rowK p (srtP p c) = rowK p c ∧ srtP p c ∈ abc := by
  unfold srtP
  cases e : abc.find? fun d => decide (rowK p d = rowK p c) with
  | none => exact absurd (List.find?_eq_none.mp e c h) (by simp)
  | some d =>
    have h1 := List.find?_some e
    exact ⟨of_decide_eq_true h1, List.mem_of_find?_eq_some e⟩
def con_sorts : Con := fun as K => ∃ p, as = [.sh (encP p)] ∧ p.length ≤ 1000 ∧ K (.ret (.t (.lst (abc.map fun c => D.str [srtP p c]))) [])
theorem dtAt_snoc (es : List (List Leaf × D)) (k q : List Leaf) (d : D) (h : dtAt es k = none) : dtAt (es ++ [(k, d)]) q = if k = q then some d else dtAt es q := by
  unfold dtAt at h ⊢
  rw [List.find?_append]
  by_cases e : k = q
  · subst e
    rw [if_pos rfl]
    cases f : es.find? fun z => decide (z.1 = k) with
    | some z => rw [f] at h; cases h
    | none => simp
  · rw [if_neg e]
    cases f : es.find? fun z => decide (z.1 = q) with
    | some z => simp
    | none => simp [e]
set_option maxHeartbeats 1000000 in
theorem ok_sorts (Γ : String → Con) (gc : String → Option D) (hl : gc "LETTERS" = some (.str abc)) (hf : Has Γ "fits" con_fits) : DefOk Γ gc ir_sorts_of con_sorts := by
  rintro as K ⟨p, rfl, hp, h⟩
  refine optW_some hl ?_
  refine forW_pre (xs := abc) enc1 (fun pre env => ∃ (es : List (List Leaf × D)) (g3 g4 : Slot), env = [.sh (encP p), .ow (.dtp es), .ow (.lst (pre.map fun c => D.str [srtP p c])), g3, g4, .no] ∧ es.length ≤ pre.length ∧ ∀ q, dtAt es q = (pre.find? fun d => decide (rowK p d = q)).map fun d => D.str [d])
    ⟨[], _, _, rfl, by simp, fun q => rfl⟩ (fun pre x post env k e hI hk => ?_) fun env hI => ?_
  · obtain ⟨es, g3, g4, rfl, hl, hq⟩ := hI
    have hpl := congrArg List.length e
    have e26 : abc.length = 26 := rfl
    rw [e26] at hpl
    simp at hpl
    refine compW_fm (xs := p) D.str (fun one => some (D.bl (decide (x ∈ one)))) (by omega) (fun one ho kt kf ht hf2 => ?_) ?_
    · exact hf _ _ ⟨one, x, rfl, ht _ rfl _ rfl⟩
    rw [List.filterMap_eq_map']
    refine optW_some (leafs_row p x) ⟨size_small (by omega), ?_⟩
    have hx : abc.find? (fun d => decide (rowK p d = rowK p x)) = (pre.find? fun d => decide (rowK p d = rowK p x)).or (some x) := by
      rw [e, List.find?_append, List.find?_cons]
      simp
    cases f : pre.find? fun d => decide (rowK p d = rowK p x) with
    | some d0 =>
      rw [hq (rowK p x), f]
      have hs : srtP p x = d0 := by unfold srtP; rw [hx, f]; rfl
      refine ⟨size_small (by rw [List.length_map]; omega), hk _ ⟨es, .sh (enc1 x), .sh (.tup (p.map fun one => D.bl (decide (x ∈ one)))), ?_, by simp; omega, fun q => ?_⟩⟩
      · rw [List.map_append, ← hs]; rfl
      · rw [hq q, List.find?_append]
        cases f2 : pre.find? fun d => decide (rowK p d = q) with
        | some z => rfl
        | none =>
          have : ¬ rowK p x = q := fun z => by
            rw [← z, f] at f2; cases f2
          simp [this]
    | none =>
      have hn : dtAt es (rowK p x) = none := by rw [hq, f]; rfl
      rw [hn]
      have hs : srtP p x = x := by unfold srtP; rw [hx, f]; rfl
      refine ⟨size_small (by rw [List.length_map]; omega), hk _ ⟨es ++ [(rowK p x, .str [x])], .sh (enc1 x), .sh (.tup (p.map fun one => D.bl (decide (x ∈ one)))), ?_, by simp; omega, fun q => ?_⟩⟩
      · rw [List.map_append, List.map_cons, List.map_nil, hs]; rfl
      · rw [dtAt_snoc _ _ _ _ hn, List.find?_append, hq q]
        by_cases z : rowK p x = q
        · rw [if_pos z, ← z, f]; simp
        · rw [if_neg z]
          cases f2 : pre.find? fun d => decide (rowK p d = q) with
          | some y => rfl
          | none => simp [z]
  · obtain ⟨es, g3, g4, rfl, _, _⟩ := hI
    exact h
theorem len_sorts : ∀ as K, con_sorts as K → as.length = 1 := by rintro as K ⟨_, rfl, _⟩; rfl
def ir_columns_behind : Def := ⟨"columns_behind", 5, ["pattern", "most", "prices", "column", "sorts", "made", "sign"],
  (.cons (.asg (.name 5) (.dct .nil .nil)) (.cons (.loop (.name 6) (.ex (.var 4)) (.cons (.iff (.cmp .notin (.cons (.var 6) (.cons (.var 5) .nil))) (.cons (.seti 5 (.var 6) (.call "capped" (.cons (.call "next_column" (.cons (.var 0) (.cons (.var 2) (.cons (.lst (.cons (.var 3) .nil)) (.cons (.var 6) (.cons (.cst (.bl true)) .nil))))) [] []) (.cons (.var 1) .nil)) [] [])) .nil) .nil) .nil)) (.cons (.ret (.comp (.op .idx (.cons (.var 5) (.cons (.var 6) .nil))) (.name 6) (.ex (.var 4)) .no [6])) .nil)))⟩

/-- what comes behind a column by a letter -/
def bhF (p : List (List Nat)) (m : Int) (pr : Pr) (c : Col) (s : Nat) : Col := capC m (nextC p pr c none s true p.length)
theorem bhF_len (p : List (List Nat)) (m : Int) (pr : Pr) (c : Col) (s : Nat) : (bhF p m pr c s).length = p.length + 1 := by
  unfold bhF; rw [capC_len, nextC_len]
theorem dAt_l1 {G : Nat → D} (s : Nat) : ∀ l : List Nat, dAt (.str [s]) (l.map enc1) (l.map G) = if s ∈ l then some (G s) else none
  | [] => rfl
  | t :: l => by
    show (if [t] = [s] then some (G t) else dAt (.str [s]) (l.map enc1) (l.map G)) = _
    rw [dAt_l1 s l]
    by_cases e : t = s
    · subst e; simp
    · rw [if_neg (by simpa using e)]
      by_cases e2 : s ∈ l
      · rw [if_pos e2, if_pos (by simp [e2])]
      · rw [if_neg e2, if_neg (by simp [e2]; exact fun z => e z.symm)]
theorem any_l1 (s : Nat) : ∀ l : List Nat, (l.map enc1).any (keq (.str [s])) = decide (s ∈ l)
  | [] => rfl
  | t :: l => by
    show (decide ([t] = [s]) || (l.map enc1).any (keq (.str [s]))) = _
    rw [any_l1 s l]
    by_cases e : t = s
    · subst e; simp
    · rw [decide_eq_false (by simpa using e), Bool.false_or]
      congr 1
      simp only [List.mem_cons, eq_iff_iff]
      exact ⟨.inr, fun z => z.resolve_left fun w => e w.symm⟩
def con_behind : Con := fun as K => ∃ (p : List (List Nat)) (m : Int) (pr : Pr) (c : Col) (ss : List Nat), as = [.sh (encP p), .sh (.int m), .sh (encPr pr), .sh (encCol c), .sh (.lst (ss.map enc1))] ∧ p.length ≤ 900 ∧ c.length = p.length + 1 ∧ ss.length ≤ 1000 ∧
  K (.ret (.t (.lst (ss.map fun s => encCol (bhF p m pr c s)))) [])
theorem ok_behind (Γ : String → Con) (gc : String → Option D) (hn : Has Γ "next_column" con_next) (hc : Has Γ "capped" con_capped) : DefOk Γ gc ir_columns_behind con_behind := by
  rintro as K ⟨p, m, pr, c, ss, rfl, hp, hcl, hss, h⟩
  refine forW_pre (xs := ss) enc1 (fun pre env => ∃ (l : List Nat) (g6 : Slot), env = [.sh (encP p), .sh (.int m), .sh (encPr pr), .sh (encCol c), .sh (.lst (ss.map enc1)), .ow (.dic (l.map enc1) (l.map fun s => encCol (bhF p m pr c s))), g6] ∧ l.length ≤ pre.length ∧ ∀ s, s ∈ l ↔ s ∈ pre)
    ⟨[], _, rfl, by simp, fun s => Iff.rfl⟩ (fun pre x post env k e hI hk => ?_) fun env hI => ?_
  · obtain ⟨l, g6, rfl, hl, hm⟩ := hI
    have hpl := congrArg List.length e
    simp at hpl
    refine ⟨rfl, ?_⟩
    rw [dAt_l1]
    by_cases q : x ∈ l
    · rw [if_pos q]
      refine (hk _ ⟨l, .sh (enc1 x), rfl, by simp; omega, fun s => ?_⟩)
      rw [hm s, List.mem_append, List.mem_singleton]
      exact ⟨.inl, fun z => z.elim id fun w => by rw [w]; exact (hm x).mp q⟩
    · rw [if_neg q]
      refine hn _ _ ⟨p, pr, c, none, x, true, rfl, by omega, hcl, fun pv bef z => (by cases z), ?_⟩
      refine hc _ _ ⟨nextC p pr c none x true p.length, m, .inl rfl, by rw [nextC_len]; omega, ?_⟩
      refine ⟨rfl, size_small (by rw [List.length_map]; omega), ?_⟩
      refine hk _ ⟨l ++ [x], .sh (enc1 x), ?_, by simp; omega, fun s => ?_⟩
      · have dp : dPut (.str [x]) (encCol (bhF p m pr c x)) (l.map enc1) (l.map fun s => encCol (bhF p m pr c s)) = ((l ++ [x]).map enc1, (l ++ [x]).map fun s => encCol (bhF p m pr c s)) := by
          unfold dPut
          rw [any_l1, decide_eq_false q, List.map_append, List.map_append]
          rfl
        show [_, _, _, _, _, Slot.ow (.dic (dPut (.str [x]) (encCol (bhF p m pr c x)) (l.map enc1) (l.map fun s => encCol (bhF p m pr c s))).1 (dPut (.str [x]) (encCol (bhF p m pr c x)) (l.map enc1) (l.map fun s => encCol (bhF p m pr c s))).2), _] = _
        rw [dp]
      · rw [List.mem_append, List.mem_append, hm s]
  · obtain ⟨l, g6, rfl, hl, hm⟩ := hI
    refine compW_fm (xs := ss) enc1 (fun s => some (encCol (bhF p m pr c s))) (by omega) (fun x hx kt kf ht hf => ?_) ?_
    · exact ⟨rfl, optW_some (a := encCol (bhF p m pr c x)) ((dAt_l1 (G := fun s => encCol (bhF p m pr c s)) x l).trans (if_pos ((hm x).mpr hx))) (ht _ rfl _ rfl)⟩
    · rw [List.filterMap_eq_map']
      exact h
theorem len_behind : ∀ as K, con_behind as K → as.length = 5 := by rintro as K ⟨_, _, _, _, _, rfl, _⟩; rfl
end Nf
/-! rooms: columns met one by one -/
namespace Nf
open PySem PySem.Spec L2
def ixC (c : Col) : List Col → Option Nat
  | [] => none
  | d :: ds => if d = c then some 0 else (ixC c ds).map (· + 1)
def vis1 (s : List Col × List Nat) (c : Col) : List Col × List Nat := match ixC c s.1 with
  | some i => (s.1, s.2 ++ [i])
  | none => (s.1 ++ [c], s.2 ++ [s.1.length])
abbrev BS := List Col × List (List Nat)
def nxtAll (p : List (List Nat)) (m : Int) (pr : Pr) (c : Col) : List Col := abc.map (bhF p m pr c)
def bstep (p : List (List Nat)) (m : Int) (pr : Pr) (s : BS) : BS := match s.1[s.2.length]? with
  | some c => (((nxtAll p m pr c).foldl vis1 (s.1, [])).1, s.2 ++ [((nxtAll p m pr c).foldl vis1 (s.1, [])).2])
  | none => s
def brun (p : List (List Nat)) (m : Int) (pr : Pr) : Nat → BS
  | 0 => ([capC m (firstCol pr.lack p.length)], [])
  | n + 1 => bstep p m pr (brun p m pr n)
def Goes (s : BS) : Prop := s.2.length < s.1.length ∧ s.1.length ≤ 300
def Stop (p : List (List Nat)) (m : Int) (pr : Pr) (s : BS) : Prop := ∃ n, s = brun p m pr n ∧ ¬ Goes s ∧ ∀ j, j < n → Goes (brun p m pr j)
theorem Stop.uniq {p : List (List Nat)} {m : Int} {pr : Pr} {s t : BS} (h : Stop p m pr s) (g : Stop p m pr t) : s = t := by
  obtain ⟨n, rfl, h2, h3⟩ := h
  obtain ⟨k, rfl, g2, g3⟩ := g
  rcases Nat.lt_trichotomy n k with z | z | z
  · exact (h2 (g3 n z)).elim
  · rw [z]
  · exact (g2 (h3 k z)).elim
theorem ixC_some {c : Col} : ∀ {l : List Col} {i : Nat}, ixC c l = some i → l[i]? = some c
  | [], i, h => by cases h
  | d :: l, i, h => by
    unfold ixC at h
    by_cases e : d = c
    · rw [if_pos e] at h; cases h; rw [e]; rfl
    · rw [if_neg e] at h
      obtain ⟨j, hj, rfl⟩ := Option.map_eq_some_iff.mp h
      simpa using ixC_some hj
theorem ixC_none {c : Col} : ∀ {l : List Col}, ixC c l = none → c ∉ l
  | [], _ => List.not_mem_nil
  | d :: l, h => by
    unfold ixC at h
    by_cases e : d = c
    · rw [if_pos e] at h; cases h
    · rw [if_neg e] at h
      have := ixC_none (Option.map_eq_none_iff.mp h)
      intro z
      rcases List.mem_cons.mp z with z | z
      · exact e z.symm
      · exact this z
/-- what a row of visits leaves -/
structure VisC (cs : List Col) (xs : List Col) (r : List Col × List Nat) : Prop where
  ext : ∃ more, r.1 = cs ++ more ∧ more.length ≤ xs.length ∧ ∀ c ∈ more, c ∈ xs
  len : r.2.length = xs.length
  at_ : ∀ (i : Nat) (x : Col), xs[i]? = some x → ∃ j : Nat, r.2[i]? = some j ∧ r.1[j]? = some x
  new : ∀ i : Nat, cs.length ≤ i → i < r.1.length → i ∈ r.2
  nd : cs.Nodup → r.1.Nodup
theorem vis_ok (cs : List Col) : ∀ xs : List Col, VisC cs xs (xs.foldl vis1 (cs, [])) := by
  intro xs
  have main : ∀ (post pre : List Col) (r : List Col × List Nat), VisC cs pre r → VisC cs (pre ++ post) (post.foldl vis1 r) := by
    intro post
    induction post with
    | nil => intro pre r h; rw [List.append_nil]; exact h
    | cons x post ih =>
      intro pre r h
      have step : VisC cs (pre ++ [x]) (vis1 r x) := by
        obtain ⟨⟨more, e1, e2, e3⟩, hl, hat, hnew, hnd⟩ := h
        unfold vis1
        cases q : ixC x r.1 with
        | some i =>
          have hi := ixC_some q
          refine ⟨⟨more, e1, by rw [List.length_append]; omega, fun c hc => List.mem_append_left _ (e3 c hc)⟩, by simp [hl], fun j y hy => ?_, fun j h1 h2 => List.mem_append_left _ (hnew j h1 h2), hnd⟩
          by_cases z : j < pre.length
          · rw [List.getElem?_append_left z] at hy
            obtain ⟨k, k1, k2⟩ := hat j y hy
            refine ⟨k, ?_, k2⟩
            rw [List.getElem?_append_left (by omega)]; exact k1
          · rw [List.getElem?_append_right (by omega)] at hy
            have hz : j - pre.length = 0 := by
              cases w : j - pre.length with
              | zero => rfl
              | succ w' => rw [w] at hy; simp at hy
            rw [hz] at hy
            cases hy
            refine ⟨i, ?_, hi⟩
            rw [List.getElem?_append_right (by omega)]
            have : j - r.2.length = 0 := by omega
            rw [this]; rfl
        | none =>
          have hx := ixC_none q
          refine ⟨⟨more ++ [x], by rw [e1, List.append_assoc], by simp; omega, fun c hc => ?_⟩, by simp [hl], fun j y hy => ?_, fun j h1 h2 => ?_, fun w => ?_⟩
          · rcases List.mem_append.mp hc with hc | hc
            · exact List.mem_append_left _ (e3 c hc)
            · exact List.mem_append_right _ hc
          · by_cases z : j < pre.length
            · rw [List.getElem?_append_left z] at hy
              obtain ⟨k, k1, k2⟩ := hat j y hy
              refine ⟨k, ?_, ?_⟩
              · rw [List.getElem?_append_left (by omega)]; exact k1
              · rw [List.getElem?_append_left (List.getElem?_eq_some_iff.mp k2).1]; exact k2
            · rw [List.getElem?_append_right (by omega)] at hy
              have hz : j - pre.length = 0 := by
                cases w : j - pre.length with
                | zero => rfl
                | succ w' => rw [w] at hy; simp at hy
              rw [hz] at hy
              cases hy
              refine ⟨r.1.length, ?_, by simp⟩
              rw [List.getElem?_append_right (by omega)]
              have : j - r.2.length = 0 := by omega
              rw [this]; rfl
          · by_cases z : j < r.1.length
            · exact List.mem_append_left _ (hnew j h1 z)
            · have : j = r.1.length := by simp at h2; omega
              rw [this]; simp
          · have n1 := hnd w
            refine List.nodup_append.mpr ⟨n1, by simp, fun a ha b hb => ?_⟩
            rw [List.mem_singleton.mp hb]
            rintro rfl
            exact hx ha
      have := ih (pre ++ [x]) _ step
      rw [List.append_assoc] at this
      exact this
  exact main xs [] (cs, []) ⟨⟨[], by simp, by simp, by simp⟩, rfl, fun i x h => (by cases h), fun i h1 h2 => (by simp at h2; omega), id⟩
theorem nxtAll_len (p : List (List Nat)) (m : Int) (pr : Pr) (c : Col) : (nxtAll p m pr c).length = 26 := by unfold nxtAll; rw [List.length_map]; rfl
/-- what is true of columns and table all along -/
structure Bok (p : List (List Nat)) (m : Int) (pr : Pr) (s : BS) : Prop where
  len : ∀ c ∈ s.1, c.length = p.length + 1
  tl : s.2.length ≤ s.1.length
  nd : s.1.Nodup
  hd : s.1[0]? = some (capC m (firstCol pr.lack p.length))
  rows : ∀ (i : Nat) (row : List Nat), s.2[i]? = some row → ∃ c : Col, s.1[i]? = some c ∧ row.length = 26 ∧ ∀ (k : Nat) (x : Col), (nxtAll p m pr c)[k]? = some x → ∃ j : Nat, row[k]? = some j ∧ s.1[j]? = some x
  from_ : ∀ i : Nat, 1 ≤ i → i < s.1.length → ∃ (j : Nat) (row : List Nat), j < i ∧ s.2[j]? = some row ∧ i ∈ row
theorem bstep_at {p : List (List Nat)} {m : Int} {pr : Pr} {s : BS} {c : Col} (h : s.1[s.2.length]? = some c) : bstep p m pr s = (((nxtAll p m pr c).foldl vis1 (s.1, [])).1, s.2 ++ [((nxtAll p m pr c).foldl vis1 (s.1, [])).2]) := by
  unfold bstep; rw [h]
theorem bstep_ok {p : List (List Nat)} {m : Int} {pr : Pr} {s : BS} (h : Bok p m pr s) : Bok p m pr (bstep p m pr s) := by
  cases e : s.1[s.2.length]? with
  | none => unfold bstep; rw [e]; exact h
  | some c =>
    rw [bstep_at e]
    have v := vis_ok s.1 (nxtAll p m pr c)
    generalize (nxtAll p m pr c).foldl vis1 (s.1, []) = r at v
    obtain ⟨more, e1, e2, e3⟩ := v.ext
    have hlt := (List.getElem?_eq_some_iff.mp e).1
    have up : ∀ {i : Nat} {x : Col}, s.1[i]? = some x → r.1[i]? = some x := fun {i x} q => by
      rw [e1, List.getElem?_append_left (List.getElem?_eq_some_iff.mp q).1]; exact q
    refine ⟨fun c' hc => ?_, ?_, v.nd h.nd, up h.hd, fun i row hr => ?_, fun i h1 h2 => ?_⟩
    · have hc' : c' ∈ r.1 := hc
      rw [e1] at hc'
      rcases List.mem_append.mp hc' with hc' | hc'
      · exact h.len c' hc'
      · have := e3 c' hc'
        unfold nxtAll at this
        obtain ⟨a, _, rfl⟩ := List.mem_map.mp this
        exact bhF_len _ _ _ _ _
    · show (s.2 ++ [r.2]).length ≤ r.1.length
      rw [e1, List.length_append, List.length_append, List.length_singleton]
      omega
    · have hr' : (s.2 ++ [r.2])[i]? = some row := hr
      show ∃ c0, r.1[i]? = some c0 ∧ _
      by_cases z : i < s.2.length
      · rw [List.getElem?_append_left z] at hr'
        obtain ⟨c0, g1, g2, g3⟩ := h.rows i row hr'
        refine ⟨c0, up g1, g2, fun k x hx => ?_⟩
        obtain ⟨j, j1, j2⟩ := g3 k x hx
        exact ⟨j, j1, up j2⟩
      · rw [List.getElem?_append_right (by omega)] at hr'
        have hz : i - s.2.length = 0 := by
          cases w : i - s.2.length with
          | zero => rfl
          | succ w' => rw [w] at hr'; simp at hr'
        rw [hz] at hr'
        have hi : i = s.2.length := by omega
        cases hr'
        subst hi
        exact ⟨c, up e, by rw [v.len, nxtAll_len], v.at_⟩
    · have h2' : i < r.1.length := h2
      show ∃ (j : Nat) (row : List Nat), j < i ∧ (s.2 ++ [r.2])[j]? = some row ∧ i ∈ row
      by_cases z : i < s.1.length
      · obtain ⟨j, row, g1, g2, g3⟩ := h.from_ i h1 z
        exact ⟨j, row, g1, by rw [List.getElem?_append_left (List.getElem?_eq_some_iff.mp g2).1]; exact g2, g3⟩
      · exact ⟨s.2.length, r.2, by omega, by simp, v.new i (by omega) h2'⟩
theorem firstC_len (p : List (List Nat)) (m : Int) (pr : Pr) : (capC m (firstCol pr.lack p.length)).length = p.length + 1 := by rw [capC_len, firstCol_len]
theorem brun_ok (p : List (List Nat)) (m : Int) (pr : Pr) : ∀ n, Bok p m pr (brun p m pr n)
  | 0 => ⟨fun c hc => by rw [List.mem_singleton.mp hc]; exact firstC_len p m pr, Nat.zero_le _, (by show [_].Nodup; simp), rfl, fun i row h => (by cases h), fun i h1 h2 => (by
    have : i < 1 := h2
    omega)⟩
  | n + 1 => bstep_ok (brun_ok p m pr n)
/-! the dict of numbers -/
def lfO : Option Int → Leaf
  | some i => .num i
  | none => .none
def colK (c : Col) : List Leaf := c.map lfO
theorem lfO_inj {a b : Option Int} (h : lfO a = lfO b) : a = b := by
  cases a <;> cases b <;> first | rfl | (injection h with h; rw [h]) | (cases h; done)
theorem colK_inj : ∀ {a b : Col}, colK a = colK b → a = b
  | [], [], _ => rfl
  | [], _ :: _, h => by cases h
  | _ :: _, [], h => by cases h
  | x :: a, y :: b, h => by
    unfold colK at h
    rw [List.map_cons, List.map_cons] at h
    injection h with h1 h2
    rw [lfO_inj h1, colK_inj h2]
theorem leafs_col (c : Col) : leafs (c.map encO) = some (colK c) := by
  induction c with
  | nil => rfl
  | cons a c ih =>
    rw [List.map_cons]
    unfold leafs
    rw [ih]
    cases a <;> rfl
def numD : Nat → List Col → List (List Leaf × D)
  | _, [] => []
  | n, c :: cs => (colK c, .int ((n : Nat) : Int)) :: numD (n + 1) cs
theorem dtAt_num (c : Col) : ∀ (cs : List Col) (n : Nat), dtAt (numD n cs) (colK c) = (ixC c cs).map fun i => D.int ((n + i : Nat) : Int)
  | [], n => rfl
  | d :: cs, n => by
    have ih := dtAt_num c cs (n + 1)
    unfold numD ixC
    by_cases e : d = c
    · subst e; simp [dtAt]
    · have ek : ¬ colK d = colK c := fun z => e (colK_inj z)
      rw [if_neg e]
      have : dtAt ((colK d, D.int ((n : Nat) : Int)) :: numD (n + 1) cs) (colK c) = dtAt (numD (n + 1) cs) (colK c) := by simp [dtAt, List.find?_cons, ek]
      rw [this, ih, Option.map_map]
      congr 1
      funext i
      show D.int ((n + 1 + i : Nat) : Int) = D.int ((n + (i + 1) : Nat) : Int)
      rw [show n + 1 + i = n + (i + 1) by omega]
theorem numD_snoc (c : Col) : ∀ (cs : List Col) (n : Nat), numD n (cs ++ [c]) = numD n cs ++ [(colK c, D.int ((n + cs.length : Nat) : Int))]
  | [], n => rfl
  | d :: cs, n => by
    rw [List.cons_append]
    unfold numD
    rw [numD_snoc c cs (n + 1), List.cons_append, List.length_cons, show n + 1 + cs.length = n + (cs.length + 1) by omega]
theorem numD_len : ∀ (cs : List Col) (n : Nat), (numD n cs).length = cs.length
  | [], _ => rfl
  | d :: cs, n => by unfold numD; rw [List.length_cons, List.length_cons, numD_len cs (n + 1)]
theorem dtPut_num {c : Col} {cs : List Col} (h : ixC c cs = none) : dtPut (numD 0 cs) (colK c) (.int ((cs.length : Nat) : Int)) = numD 0 (cs ++ [c]) := by
  unfold dtPut
  rw [dtAt_num, h, numD_snoc, Nat.zero_add]
  rfl
theorem bhF_congr {p : List (List Nat)} {m : Int} {pr : Pr} {c : Col} {a b : Nat} (h : rowK p a = rowK p b) : bhF p m pr c a = bhF p m pr c b := by
  have fit : ∀ k, k < p.length → (a ∈ p.getD k [] ↔ b ∈ p.getD k []) := fun k hk => by
    have h1 := congrArg (fun l : List Leaf => l[k]?) h
    simp only [rowK, List.getElem?_map, List.getElem?_eq_getElem hk, Option.map_some, Option.some.injEq] at h1
    rw [List.getD_eq_getElem?_getD, List.getElem?_eq_getElem hk]
    show a ∈ p[k] ↔ b ∈ p[k]
    by_cases x : a ∈ p[k] <;> by_cases y : b ∈ p[k]
    · exact ⟨fun _ => y, fun _ => x⟩
    · rw [decide_eq_true x, decide_eq_false y] at h1; injection h1 with h1; cases h1
    · rw [decide_eq_false x, decide_eq_true y] at h1; injection h1 with h1; cases h1
    · exact ⟨fun z => (x z).elim, fun z => (y z).elim⟩
  have main : ∀ k, k ≤ p.length → nextC p pr c none a true k = nextC p pr c none b true k := by
    intro k
    induction k with
    | zero => intro _; rfl
    | succ k ih =>
      intro hk
      unfold nextC
      rw [ih (by omega)]
      congr 2
      show cellC p pr c a k _ = cellC p pr c b k _
      unfold cellC metO
      by_cases z : a ∈ p.getD k []
      · rw [if_pos z, if_pos ((fit k (by omega)).mp z)]
      · rw [if_neg z, if_neg (fun w => z ((fit k (by omega)).mpr w))]
  unfold bhF
  rw [main _ (Nat.le_refl _)]
theorem nxt_sorts (p : List (List Nat)) (m : Int) (pr : Pr) (c : Col) : ((abc.map (srtP p)).map fun s => encCol (bhF p m pr c s)) = (nxtAll p m pr c).map encCol := by
  unfold nxtAll
  rw [List.map_map, List.map_map]
  refine List.map_congr_left fun s hs => ?_
  show encCol (bhF p m pr c (srtP p s)) = encCol (bhF p m pr c s)
  rw [bhF_congr (srtP_ok hs).1]
end Nf
/-! rooms_for -/
namespace Nf
open PySem PySem.Spec L2
def natD (i : Nat) : D := .int ((i : Nat) : Int)
def lastC (c : Col) : Option Int := c.getLast?.getD none
def roomD (c : Col) (row : List Nat) : D := .tup [encO (lastC c), .tup (row.map natD)]
def roomsL (s : BS) : List D := List.zipWith roomD s.1 s.2
theorem roomsL_len {p : List (List Nat)} {m : Int} {pr : Pr} {s : BS} (h : Bok p m pr s) : (roomsL s).length = s.2.length := by
  unfold roomsL
  rw [List.length_zipWith]
  have := h.tl
  omega
theorem lastC_at {c : Col} (h : 0 < c.length) : atI (c.map encO) (-1) = some (encO (lastC c)) := by
  have hne : c ≠ [] := List.length_pos_iff.mp h
  have e : c = c.dropLast ++ [c.getLast hne] := (List.dropLast_concat_getLast hne).symm
  have l : lastC c = c.getLast hne := by unfold lastC; rw [List.getLast?_eq_some_getLast hne]; rfl
  rw [l]
  conv => lhs; rw [e]
  rw [List.map_append, List.map_cons, List.map_nil, atI_last]
theorem roomsL_step {p : List (List Nat)} {m : Int} {pr : Pr} {s : BS} {c : Col} (h : Bok p m pr s) (hc : s.1[s.2.length]? = some c) : roomsL (bstep p m pr s) = roomsL s ++ [roomD c ((nxtAll p m pr c).foldl vis1 (s.1, [])).2] := by
  rw [bstep_at hc]
  obtain ⟨more, e1, _, _⟩ := (vis_ok s.1 (nxtAll p m pr c)).ext
  generalize (nxtAll p m pr c).foldl vis1 (s.1, []) = r at e1
  unfold roomsL
  show List.zipWith roomD r.1 (s.2 ++ [r.2]) = _
  rw [e1]
  have hl := (List.getElem?_eq_some_iff.mp hc).1
  have e2 : s.1 = s.1.take s.2.length ++ c :: s.1.drop (s.2.length + 1) := by
    have h1 := (List.take_append_drop s.2.length s.1).symm
    have h2 : s.1.drop s.2.length = c :: s.1.drop (s.2.length + 1) := by
      rw [List.drop_eq_getElem_cons hl]
      rw [List.getElem?_eq_getElem hl] at hc
      cases hc
      rfl
    rw [h2] at h1
    exact h1
  have hl2 : (s.1.take s.2.length).length = s.2.length := by rw [List.length_take]; omega
  have e3 : List.zipWith roomD s.1 s.2 = List.zipWith roomD (s.1.take s.2.length) s.2 := by
    conv => lhs; rw [e2]
    have := List.zipWith_append (f := roomD) (l₁ := s.1.take s.2.length) (l₂ := s.2) (l₁' := c :: s.1.drop (s.2.length + 1)) (l₂' := []) hl2
    rw [List.append_nil] at this
    rw [this]
    simp
  rw [e3]
  conv => lhs; rw [e2]
  rw [List.append_assoc, List.zipWith_append hl2]
  simp
def ir_rooms_for : Def := ⟨"rooms_for", 3, ["pattern", "most", "prices", "sorts", "columns", "numbers", "found", "column", "nexts", "behind"],
  (.cons (.iff (.cmp .ne (.cons (.op .idx (.cons (.var 2) (.cons (.cst (.int 3)) .nil))) (.cons (.cst (.int 0)) .nil))) (.cons (.raise "NoPrices") .nil) .nil) (.cons (.asg (.name 3) (.call "sorts_of" (.cons (.var 0) .nil) [] [])) (.cons (.asg (.name 4) (.lst (.cons (.call "capped" (.cons (.call "first_column" (.cons (.var 0) (.cons (.var 2) .nil)) [] []) (.cons (.var 1) .nil)) [] []) .nil))) (.cons (.asg (.name 5) (.dt1 (.op .idx (.cons (.var 4) (.cons (.cst (.int 0)) .nil))) (.int 0))) (.cons (.asg (.name 6) (.lst .nil)) (.cons (.whl (.cmp .lt (.cons (.op .len (.cons (.var 6) .nil)) (.cons (.op .len (.cons (.var 4) .nil)) .nil))) (.cons (.asg (.name 7) (.op .idx (.cons (.var 4) (.cons (.op .len (.cons (.var 6) .nil)) .nil)))) (.cons (.asg (.name 8) (.lst .nil)) (.cons (.loop (.name 9) (.ex (.call "columns_behind" (.cons (.var 0) (.cons (.var 1) (.cons (.var 2) (.cons (.var 7) (.cons (.var 3) .nil))))) [] [])) (.cons (.iff (.dtin true 9 5) (.cons (.dtset 5 9 (.op .len (.cons (.var 4) .nil))) (.cons (.append 4 (.var 9)) .nil)) .nil) (.cons (.append 8 (.dtg 5 9)) .nil))) (.cons (.iff (.cmp .gt (.cons (.op .len (.cons (.var 4) .nil)) (.cons (.gl "MOST_ROOMS") .nil))) (.cons (.raise "TooMany") .nil) .nil) (.cons (.append 6 (.tup (.cons (.op .idx (.cons (.var 7) (.cons (.op .neg (.cons (.cst (.int 1)) .nil)) .nil))) (.cons (.op .tuple1 (.cons (.var 8) .nil)) .nil)))) .nil)))))) (.cons (.ret (.op .tuple1 (.cons (.var 6) .nil))) .nil)))))))⟩

def con_rooms : Con := fun as K => ∃ (p : List (List Nat)) (m : Int) (pr : Pr), as = [.sh (encP p), .sh (.int m), .sh (encPr pr)] ∧ p.length ≤ 900 ∧ (pr.turn ≠ 0 → K (.exc "NoPrices")) ∧
  (pr.turn = 0 → ∃ s, Stop p m pr s ∧ (s.1.length ≤ 300 → K (.ret (.v (.tup (roomsL s))) [])) ∧ (300 < s.1.length → K (.exc "TooMany")))
set_option maxHeartbeats 4000000 in
theorem ok_rooms (Γ : String → Con) (gc : String → Option D) (hM : gc "MOST_ROOMS" = some (.int 300)) (hs : Has Γ "sorts_of" con_sorts) (hc : Has Γ "capped" con_capped) (hf : Has Γ "first_column" con_first) (hb : Has Γ "columns_behind" con_behind) : DefOk Γ gc ir_rooms_for con_rooms := by
  rintro as K ⟨p, m, pr, rfl, hp, hn, hmain⟩
  refine ⟨rfl, rfl, ite2 (fun e1 => ?_) (fun e1 => ?_)⟩
  · refine hn fun z => ?_
    rw [deq_int, z] at e1
    cases e1
  have ht : pr.turn = 0 := by
    by_cases z : pr.turn = 0
    · exact z
    · exact (e1 (by rw [deq_int, decide_eq_false z]; rfl)).elim
  obtain ⟨s, hS, hret, hexc⟩ := hmain ht
  refine hs _ _ ⟨p, rfl, by omega, ?_⟩
  have hss : (abc.map fun c => D.str [srtP p c]) = (abc.map (srtP p)).map enc1 := by rw [List.map_map]; rfl
  rw [hss]
  have hnx : ∀ c, ((abc.map (srtP p)).map fun s => encCol (bhF p m pr c s)) = (nxtAll p m pr c).map encCol := nxt_sorts p m pr
  have hsl : (abc.map (srtP p)).length = 26 := by rw [List.length_map]; rfl
  generalize abc.map (srtP p) = ss at hnx hsl
  refine hf _ _ ⟨p, pr, rfl, by omega, ?_⟩
  refine hc _ _ ⟨firstCol pr.lack p.length, m, .inl rfl, by rw [firstCol_len]; omega, ?_⟩
  refine optW_some (leafs_col _) ?_
  refine ⟨fun M env => ∃ (n : Nat) (s3 g7 g8 g9 : Slot), (s3 = .ow (.lst (ss.map enc1)) ∨ s3 = .sh (.lst (ss.map enc1))) ∧ env = [.sh (encP p), .sh (.int m), .sh (encPr pr), s3, .ow (.lst ((brun p m pr n).1.map encCol)), .ow (.dtp (numD 0 (brun p m pr n).1)), .ow (.lst (roomsL (brun p m pr n))), g7, g8, g9] ∧
    M = 400 - (brun p m pr n).2.length ∧ (brun p m pr n).1.length ≤ 300 ∧ ∀ j, j < n → Goes (brun p m pr j), ⟨_, 0, _, _, _, _, .inl rfl, rfl, rfl, (by decide : 1 ≤ 300), fun j hj => by omega⟩, ?_⟩
  rintro M env ⟨n, s3, g7, g8, g9, hs3, rfl, rfl, h300, hgo⟩
  have bok := brun_ok p m pr n
  have hrl := roomsL_len bok
  refine ite2 (fun c1 => ?_) (fun c1 => ?_)
  · have c1' : (((roomsL (brun p m pr n)).length : Nat) : Int) < ((((brun p m pr n).1.map encCol).length : Nat) : Int) := of_decide_eq_true c1
    rw [List.length_map, hrl] at c1'
    have hlt : (brun p m pr n).2.length < (brun p m pr n).1.length := by omega
    obtain ⟨c, hcc⟩ : ∃ c, (brun p m pr n).1[(brun p m pr n).2.length]? = some c := ⟨_, List.getElem?_eq_getElem hlt⟩
    have hcl : c.length = p.length + 1 := bok.len c (List.mem_of_getElem? hcc)
    have hat : atI ((brun p m pr n).1.map encCol) (((roomsL (brun p m pr n)).length : Nat) : Int) = some (encCol c) := by
      rw [atI_nat, hrl, List.getElem?_map, hcc]; rfl
    refine optW_some hat ?_
    have v := vis_ok (brun p m pr n).1 (nxtAll p m pr c)
    have rstep := roomsL_step bok hcc
    have bs : brun p m pr (n + 1) = (((nxtAll p m pr c).foldl vis1 ((brun p m pr n).1, [])).1, (brun p m pr n).2 ++ [((nxtAll p m pr c).foldl vis1 ((brun p m pr n).1, [])).2]) := bstep_at hcc
    have hgo2 : ∀ j, j < n + 1 → Goes (brun p m pr j) := fun j hj => by
      by_cases z : j = n
      · subst z; exact ⟨hlt, h300⟩
      · exact hgo j (by omega)
    have n26 := nxtAll_len p m pr c
    rcases hs3 with rfl | rfl
    all_goals
      refine hb _ _ ⟨p, m, pr, c, ss, rfl, by omega, hcl, by omega, ?_⟩
      rw [hnx c]
      refine forW_pre (xs := nxtAll p m pr c) encCol (fun pre env => ∃ g9 : Slot, env = [.sh (encP p), .sh (.int m), .sh (encPr pr), .sh (.lst (ss.map enc1)), .ow (.lst ((pre.foldl vis1 ((brun p m pr n).1, [])).1.map encCol)), .ow (.dtp (numD 0 (pre.foldl vis1 ((brun p m pr n).1, [])).1)), .ow (.lst (roomsL (brun p m pr n))), .sh (encCol c), .ow (.lst ((pre.foldl vis1 ((brun p m pr n).1, [])).2.map natD)), g9])
        ⟨_, rfl⟩ (fun pre x post env k e hI hk => ?_) fun env hI => ?_
      · obtain ⟨g9, rfl⟩ := hI
        have vp := vis_ok (brun p m pr n).1 pre
        have hpl := congrArg List.length e
        rw [n26, List.length_append, List.length_cons] at hpl
        rw [List.foldl_append] at hk
        generalize pre.foldl vis1 ((brun p m pr n).1, []) = r at vp hk
        obtain ⟨more, e1, e2, _⟩ := vp.ext
        have hrl1 : r.1.length ≤ 326 := by rw [e1, List.length_append]; omega
        have hrl2 := vp.len
        have hkk : ∀ g9 : Slot, k [.sh (encP p), .sh (.int m), .sh (encPr pr), .sh (.lst (ss.map enc1)), .ow (.lst ((vis1 r x).1.map encCol)), .ow (.dtp (numD 0 (vis1 r x).1)), .ow (.lst (roomsL (brun p m pr n))), .sh (encCol c), .ow (.lst ((vis1 r x).2.map natD)), g9] := fun g9 => hk _ ⟨g9, rfl⟩
        have hx := dtAt_num x r.1 0
        refine optW_some (leafs_col x) ?_
        cases q : ixC x r.1 with
        | some i =>
          rw [q] at hx
          have hv : vis1 r x = (r.1, r.2 ++ [i]) := by unfold vis1; rw [q]
          rw [hv] at hkk
          have hx' : dtAt (numD 0 r.1) (colK x) = some (natD i) := by rw [hx]; show some (D.int ((0 + i : Nat) : Int)) = _; rw [Nat.zero_add]; rfl
          refine iteF (by rw [hx']; rfl) ?_
          refine optW_some (leafs_col x) (optW_some hx' ⟨size_small (by rw [List.length_map]; omega), ?_⟩)
          have := hkk (.sh (encCol x))
          rw [List.map_append] at this
          exact this
        | none =>
          rw [q] at hx
          have hv : vis1 r x = (r.1 ++ [x], r.2 ++ [r.1.length]) := by unfold vis1; rw [q]
          rw [hv] at hkk
          refine iteT (by rw [hx]; rfl) ?_
          refine optW_some (leafs_col x) ⟨size_small (by rw [numD_len]; omega), ?_⟩
          have hput := dtPut_num q
          have hp2 : dtPut (numD 0 r.1) (colK x) (.int (((r.1.map encCol).length : Nat) : Int)) = numD 0 (r.1 ++ [x]) := by rw [List.length_map]; exact hput
          have hnew : dtAt (numD 0 (r.1 ++ [x])) (colK x) = some (natD r.1.length) := by
            rw [numD_snoc, Nat.zero_add, dtAt_snoc _ _ _ _ hx, if_pos rfl]; rfl
          refine ⟨size_small (by rw [List.length_map]; omega), ?_⟩
          refine optW_some (leafs_col x) ?_
          refine optW_some (a := natD r.1.length) (by rw [hp2]; exact hnew) ⟨size_small (by rw [List.length_map]; omega), ?_⟩
          have := hkk (.sh (encCol x))
          rw [List.map_append, List.map_append, ← hp2] at this
          exact this
      · obtain ⟨g9, rfl⟩ := hI
        generalize (nxtAll p m pr c).foldl vis1 ((brun p m pr n).1, []) = r at v rstep bs
        obtain ⟨more, e1, e2, _⟩ := v.ext
        rw [n26] at e2
        have hrl1 : r.1.length ≤ 326 := by rw [e1, List.length_append]; omega
        have hrl2 := v.len
        have b1 : (brun p m pr (n + 1)).1 = r.1 := by rw [bs]
        have b2 : (brun p m pr (n + 1)).2 = (brun p m pr n).2 ++ [r.2] := by rw [bs]
        refine optW_some hM ?_
        refine ite2 (fun c2 => ?_) (fun c2 => ?_)
        · have c2' : (300 : Int) < (((r.1.map encCol).length : Nat) : Int) := of_decide_eq_true c2
          rw [List.length_map] at c2'
          have hst : Stop p m pr (brun p m pr (n + 1)) := ⟨n + 1, rfl, fun z => by have := z.2; rw [b1] at this; omega, hgo2⟩
          have e := hS.uniq hst
          refine hexc ?_
          rw [e, b1]
          omega
        · have c2' : ¬ (300 : Int) < (((r.1.map encCol).length : Nat) : Int) := fun z => c2 (decide_eq_true z)
          rw [List.length_map] at c2'
          refine optW_some (lastC_at (by omega)) ⟨size_small (by rw [hrl]; omega), ?_⟩
          have e3 : roomsL (brun p m pr (n + 1)) = roomsL (brun p m pr n) ++ [roomD c r.2] := rstep
          refine ⟨400 - (brun p m pr (n + 1)).2.length, by rw [b2, List.length_append, List.length_singleton]; omega, n + 1, .sh (.lst (ss.map enc1)), .sh (encCol c), .ow (.lst (r.2.map natD)), g9, .inr rfl, ?_, rfl, by rw [b1]; omega, hgo2⟩
          rw [b1, e3]
          rfl
  · have c1' : ¬ (((roomsL (brun p m pr n)).length : Nat) : Int) < ((((brun p m pr n).1.map encCol).length : Nat) : Int) := fun z => c1 (decide_eq_true z)
    rw [List.length_map, hrl] at c1'
    have hst : Stop p m pr (brun p m pr n) := ⟨n, rfl, fun z => by have := z.1; omega, hgo⟩
    have e := hS.uniq hst
    have := hret (by rw [e]; exact h300)
    rw [e] at this
    exact this
theorem len_rooms : ∀ as K, con_rooms as K → as.length = 3 := by rintro as K ⟨_, _, _, rfl, _⟩; rfl
end Nf
/-! the laws' own columns, further -/
namespace Nf
open PySem PySem.Spec L2
def encL (c : List (Option Int)) : D := .lst (c.map encO)
def turnL (p : List (List Nat)) (pr : Pr) (prev : Option (Nat × List (Option Int))) (cur : Nat) (k : Nat) : List (Option Int) := match prev with
  | none => []
  | some (pv, bef) => match k with
    | 0 => []
    | k + 1 => if cur ∈ p.getD k [] ∧ pv ∈ p.getD (k + 1) [] then [dearerO (bef.getD k none) pr.turn] else []
/-- what the law's def tells of the cell of row k + 1 behind column i -/
def dueB (p : List (List Nat)) (t : List Nat) (pr : Pr) (i k : Nat) : Option Int :=
  leastO ([dearerO (dp p t pr true i (k + 1)) pr.ins, metO (dp p t pr true i k) (p.getD k []) (t.getD i 0) pr.exch] ++ turnL p pr (prevV p t pr true i) (t.getD i 0) k)
theorem dueB_cell {p : List (List Nat)} {t : List Nat} {pr : Pr} {i k : Nat} (h : k < p.length) : leastO [dueB p t pr i k, dearerO (dp p t pr true (i + 1) k) pr.lack] = dp p t pr true (i + 1) (k + 1) := by
  rw [dp_ss h]
  unfold dueB
  generalize dearerO (dp p t pr true i (k + 1)) pr.ins = a
  generalize metO (dp p t pr true i k) (p.getD k []) (t.getD i 0) pr.exch = b
  generalize dearerO (dp p t pr true (i + 1) k) pr.lack = c
  have base : leastO [leastO ([a, b] ++ []), c] = lowerO (lowerO b a) c := by
    simp only [leastO, List.append_nil, lower_none]
    ac_rfl
  unfold turnL cellT
  cases prevV p t pr true i with
  | none => exact base
  | some q =>
    obtain ⟨pv, bef⟩ := q
    cases k with
    | zero => exact base
    | succ k =>
      by_cases e : t.getD i 0 ∈ p.getD k [] ∧ pv ∈ p.getD (k + 1) []
      · simp only [if_pos e]
        generalize dearerO (bef.getD k none) pr.turn = z
        simp only [leastO, List.cons_append, List.nil_append, lower_none]
        ac_rfl
      · simp only [if_neg e]
        exact base
def con_due21 : Con := fun as K => ∃ (p : List (List Nat)) (t : List Nat) (pr : Pr) (i k : Nat), as = [.sh (encP p), .sh (.str t), .sh (encPr pr), .sh (.lst ((colsV p t pr true (i + 1)).map encL)), .sh (.int ((k + 1 : Nat) : Int))] ∧
  p.length ≤ 1000 ∧ t.length ≤ 1000 ∧ i < t.length ∧ k < p.length ∧ K (.ret (.v (encO (dueB p t pr i k))) [])
theorem colsV_get {p : List (List Nat)} {t : List Nat} {pr : Pr} {free : Bool} {n j : Nat} (h : j < n) (f : List (Option Int) → D) : ((colsV p t pr free n).map f)[j]? = some (f (colV p t pr free j)) := by
  unfold colsV
  rw [List.map_map, List.getElem?_map, List.getElem?_range h]
  rfl
theorem cols_last {p : List (List Nat)} {t : List Nat} {pr : Pr} {i : Nat} (f : List (Option Int) → D) : atI ((colsV p t pr true (i + 1)).map f) (-1) = some (f (colV p t pr true i)) := by
  rw [colsV_succ, List.map_append]
  exact atI_last _ _
theorem cols_bef {p : List (List Nat)} {t : List Nat} {pr : Pr} {i : Nat} (f : List (Option Int) → D) : atI ((colsV p t pr true (i + 1 + 1)).map f) (-2) = some (f (colV p t pr true i)) := by
  have hl : ((colsV p t pr true (i + 1 + 1)).map f).length = i + 2 := by rw [List.length_map, colsV_len]
  unfold atI ixN
  rw [hl, if_neg (by omega), if_pos (by omega)]
  have e : ((-2 : Int) + ((i + 2 : Nat) : Int)).toNat = i := by omega
  rw [e]
  exact colsV_get (by omega) f
theorem dp_get {p : List (List Nat)} {t : List Nat} {pr : Pr} {free : Bool} {i k : Nat} (h : k ≤ p.length) : atI ((colV p t pr free i).map encO) ((k : Nat) : Int) = some (encO (dp p t pr free i k)) :=
  getC (by rw [colV_len]; omega)
theorem getT {t : List Nat} {i : Nat} (h : i < t.length) : atI t ((i : Nat) : Int) = some (t.getD i 0) := by
  rw [atI_nat, List.getD_eq_getElem?_getD, List.getElem?_eq_getElem h]; rfl
def ir__law_cell_due : Def := ⟨"_law_cell_due", 5, ["_law_pattern_here", "_law_text_here", "_law_prices_here", "_law_columns", "_law_at", "_law_place", "_law_some", "_law_across"],
  (.cons (.asg (.name 5) (.op .len (.cons (.var 3) .nil))) (.cons (.asg (.name 6) (.lst (.cons (.call "_law_dearer" (.cons (.op .idx (.cons (.op .idx (.cons (.var 3) (.cons (.op .neg (.cons (.cst (.int 1)) .nil)) .nil))) (.cons (.var 4) .nil))) (.cons (.op .idx (.cons (.var 2) (.cons (.cst (.int 0)) .nil))) .nil)) [] []) .nil))) (.cons (.asg (.name 7) (.op .idx (.cons (.op .idx (.cons (.var 3) (.cons (.op .neg (.cons (.cst (.int 1)) .nil)) .nil))) (.cons (.op .sub (.cons (.var 4) (.cons (.cst (.int 1)) .nil))) .nil)))) (.cons (.iff (.cmp .notin (.cons (.op .idx (.cons (.var 1) (.cons (.op .sub (.cons (.var 5) (.cons (.cst (.int 1)) .nil))) .nil))) (.cons (.op .idx (.cons (.var 0) (.cons (.op .sub (.cons (.var 4) (.cons (.cst (.int 1)) .nil))) .nil))) .nil))) (.cons (.asg (.name 7) (.call "_law_dearer" (.cons (.var 7) (.cons (.op .idx (.cons (.var 2) (.cons (.cst (.int 2)) .nil))) .nil)) [] [])) .nil) .nil) (.cons (.append 6 (.var 7)) (.cons (.iff (.andv (.cons (.cmp .gt (.cons (.var 4) (.cons (.cst (.int 1)) .nil))) (.cons (.cmp .gt (.cons (.var 5) (.cons (.cst (.int 1)) .nil))) (.cons (.cmp .inn (.cons (.op .idx (.cons (.var 1) (.cons (.op .sub (.cons (.var 5) (.cons (.cst (.int 2)) .nil))) .nil))) (.cons (.op .idx (.cons (.var 0) (.cons (.op .sub (.cons (.var 4) (.cons (.cst (.int 1)) .nil))) .nil))) .nil))) (.cons (.cmp .inn (.cons (.op .idx (.cons (.var 1) (.cons (.op .sub (.cons (.var 5) (.cons (.cst (.int 1)) .nil))) .nil))) (.cons (.op .idx (.cons (.var 0) (.cons (.op .sub (.cons (.var 4) (.cons (.cst (.int 2)) .nil))) .nil))) .nil))) .nil))))) (.cons (.append 6 (.call "_law_dearer" (.cons (.op .idx (.cons (.op .idx (.cons (.var 3) (.cons (.op .neg (.cons (.cst (.int 2)) .nil)) .nil))) (.cons (.op .sub (.cons (.var 4) (.cons (.cst (.int 2)) .nil))) .nil))) (.cons (.op .idx (.cons (.var 2) (.cons (.cst (.int 3)) .nil))) .nil)) [] [])) .nil) .nil) (.cons (.ret (.call "_law_least" (.cons (.var 6) .nil) [] [])) .nil)))))))⟩

set_option maxHeartbeats 2000000 in
theorem ok_due21 (Γ : String → Con) (gc : String → Option D) (hd : Has Γ "_law_dearer" con_dearer) (hl : Has Γ "_law_least" con_least) : DefOk Γ gc ir__law_cell_due con_due21 := by
  rintro as K ⟨p, t, pr, i, k, rfl, hp, ht, hi, hk, h⟩
  refine optW_some (cols_last encL) ?_
  refine optW_some (dp_get (by omega)) ?_
  refine hd _ _ ⟨_, _, rfl, ?_⟩
  refine optW_some (cols_last encL) ?_
  have e1 : (((k + 1 : Nat) : Int) - 1) = ((k : Nat) : Int) := by omega
  refine optW_some (a := encO (dp p t pr true i k)) (by rw [e1]; exact dp_get (by omega)) ?_
  have e2 : ((((colsV p t pr true (i + 1)).map encL).length : Nat) : Int) - 1 = ((i : Nat) : Int) := by rw [List.length_map, colsV_len]; omega
  refine ⟨size_le (by omega), optW_some (a := t.getD i 0) (by rw [e2]; exact getT hi) ?_⟩
  refine optW_some (a := .str (p.getD k [])) (by rw [e1]; exact getP hk) ?_
  refine ite2 (fun e3 => ?_) fun e3 => ?_
  · have hm : ¬ t.getD i 0 ∈ p.getD k [] := by simpa using e3
    refine hd _ _ ⟨_, _, rfl, ?_⟩
    rw [show dearerO (dp p t pr true i k) pr.exch = metO (dp p t pr true i k) (p.getD k []) (t.getD i 0) pr.exch from (if_neg hm).symm]
    refine ⟨size_small (by simp), ?_⟩
    have fin : ∀ l : List (Option Int), l.length ≤ 10 → leastO l = dueB p t pr i k → wpE ⟨Γ, gc, [], fun c => K (.exc c)⟩ (.call "_law_least" (.cons (.var 6) .nil) [] []) [.sh (encP p), .sh (.str t), .sh (encPr pr), .sh (.lst ((colsV p t pr true (i + 1)).map encL)), .sh (.int ((k + 1 : Nat) : Int)), .sh (.int (((colsV p t pr true (i + 1)).map encL).length : Nat)), .ow (.lst (l.map encO)), .sh (encO (metO (dp p t pr true i k) (p.getD k []) (t.getD i 0) pr.exch))] (finW [] K) := by
      intro l hl2 he
      refine hl _ _ ⟨l, rfl, by omega, ?_⟩
      rw [he]
      exact h
    cases k with
    | zero =>
      refine fin [dearerO (dp p t pr true i (0 + 1)) pr.ins, metO (dp p t pr true i 0) (p.getD 0 []) (t.getD i 0) pr.exch] (by simp) ?_
      unfold dueB turnL
      cases prevV p t pr true i <;> rfl
    | succ k =>
      refine iteT (show decide ((1 : Int) < ((k + 1 + 1 : Nat) : Int)) = true from decide_eq_true (by omega)) ?_
      cases i with
      | zero =>
        refine fin [dearerO (dp p t pr true 0 (k + 1 + 1)) pr.ins, metO (dp p t pr true 0 (k + 1)) (p.getD (k + 1) []) (t.getD 0 0) pr.exch] (by simp) ?_
        rfl
      | succ i =>
        refine iteT (show decide ((1 : Int) < ((((colsV p t pr true (i + 1 + 1)).map encL).length : Nat) : Int)) = true from by rw [List.length_map, colsV_len]; exact decide_eq_true (by omega)) ?_
        have e5 : ((((colsV p t pr true (i + 1 + 1)).map encL).length : Nat) : Int) - 2 = ((i : Nat) : Int) := by rw [List.length_map, colsV_len]; omega
        have e6 : (((k + 1 + 1 : Nat) : Int) - 2) = ((k : Nat) : Int) := by omega
        refine ⟨size_le (by omega), optW_some (a := t.getD i 0) (by rw [e5]; exact getT (by omega)) ?_⟩
        refine optW_some (a := .str (p.getD (k + 1) [])) (by rw [e1]; exact getP (by omega)) ?_
        refine ite2 (fun e7 => ?_) fun e7 => ?_
        · refine ⟨size_le (by omega), optW_some (a := t.getD (i + 1) 0) (by rw [e2]; exact getT (by omega)) ?_⟩
          refine optW_some (a := .str (p.getD k [])) (by rw [e6]; exact getP (by omega)) ?_
          refine ite2 (fun e8 => ?_) fun e8 => ?_
          · refine optW_some (cols_bef encL) ?_
            refine optW_some (a := encO (dp p t pr true i k)) (by rw [e6]; exact dp_get (by omega)) ?_
            refine hd _ _ ⟨_, _, rfl, ?_⟩
            refine ⟨size_small (by simp), ?_⟩
            refine fin [dearerO (dp p t pr true (i + 1) (k + 1 + 1)) pr.ins, metO (dp p t pr true (i + 1) (k + 1)) (p.getD (k + 1) []) (t.getD (i + 1) 0) pr.exch, dearerO (dp p t pr true i k) pr.turn] (by simp) ?_
            have c : t.getD (i + 1) 0 ∈ p.getD k [] ∧ t.getD i 0 ∈ p.getD (k + 1) [] := ⟨of_decide_eq_true e8, of_decide_eq_true e7⟩
            show _ = leastO ([_, _] ++ if t.getD (i + 1) 0 ∈ p.getD k [] ∧ t.getD i 0 ∈ p.getD (k + 1) [] then [dearerO (dp p t pr true i k) pr.turn] else [])
            rw [if_pos c]
            rfl
          · refine fin [dearerO (dp p t pr true (i + 1) (k + 1 + 1)) pr.ins, metO (dp p t pr true (i + 1) (k + 1)) (p.getD (k + 1) []) (t.getD (i + 1) 0) pr.exch] (by simp) ?_
            show _ = leastO ([_, _] ++ if t.getD (i + 1) 0 ∈ p.getD k [] ∧ t.getD i 0 ∈ p.getD (k + 1) [] then [dearerO (dp p t pr true i k) pr.turn] else [])
            rw [if_neg fun z => e8 (decide_eq_true z.1)]
            rfl
        · refine fin [dearerO (dp p t pr true (i + 1) (k + 1 + 1)) pr.ins, metO (dp p t pr true (i + 1) (k + 1)) (p.getD (k + 1) []) (t.getD (i + 1) 0) pr.exch] (by simp) ?_
          show _ = leastO ([_, _] ++ if t.getD (i + 1) 0 ∈ p.getD k [] ∧ t.getD i 0 ∈ p.getD (k + 1) [] then [dearerO (dp p t pr true i k) pr.turn] else [])
          rw [if_neg fun z => e7 (decide_eq_true z.2)]
          rfl

  · have hm : t.getD i 0 ∈ p.getD k [] := by simpa using e3
    rw [show dp p t pr true i k = metO (dp p t pr true i k) (p.getD k []) (t.getD i 0) pr.exch from (if_pos hm).symm]
    refine ⟨size_small (by simp), ?_⟩
    have fin : ∀ l : List (Option Int), l.length ≤ 10 → leastO l = dueB p t pr i k → wpE ⟨Γ, gc, [], fun c => K (.exc c)⟩ (.call "_law_least" (.cons (.var 6) .nil) [] []) [.sh (encP p), .sh (.str t), .sh (encPr pr), .sh (.lst ((colsV p t pr true (i + 1)).map encL)), .sh (.int ((k + 1 : Nat) : Int)), .sh (.int (((colsV p t pr true (i + 1)).map encL).length : Nat)), .ow (.lst (l.map encO)), .sh (encO (metO (dp p t pr true i k) (p.getD k []) (t.getD i 0) pr.exch))] (finW [] K) := by
      intro l hl2 he
      refine hl _ _ ⟨l, rfl, by omega, ?_⟩
      rw [he]
      exact h
    cases k with
    | zero =>
      refine fin [dearerO (dp p t pr true i (0 + 1)) pr.ins, metO (dp p t pr true i 0) (p.getD 0 []) (t.getD i 0) pr.exch] (by simp) ?_
      unfold dueB turnL
      cases prevV p t pr true i <;> rfl
    | succ k =>
      refine iteT (show decide ((1 : Int) < ((k + 1 + 1 : Nat) : Int)) = true from decide_eq_true (by omega)) ?_
      cases i with
      | zero =>
        refine fin [dearerO (dp p t pr true 0 (k + 1 + 1)) pr.ins, metO (dp p t pr true 0 (k + 1)) (p.getD (k + 1) []) (t.getD 0 0) pr.exch] (by simp) ?_
        rfl
      | succ i =>
        refine iteT (show decide ((1 : Int) < ((((colsV p t pr true (i + 1 + 1)).map encL).length : Nat) : Int)) = true from by rw [List.length_map, colsV_len]; exact decide_eq_true (by omega)) ?_
        have e5 : ((((colsV p t pr true (i + 1 + 1)).map encL).length : Nat) : Int) - 2 = ((i : Nat) : Int) := by rw [List.length_map, colsV_len]; omega
        have e6 : (((k + 1 + 1 : Nat) : Int) - 2) = ((k : Nat) : Int) := by omega
        refine ⟨size_le (by omega), optW_some (a := t.getD i 0) (by rw [e5]; exact getT (by omega)) ?_⟩
        refine optW_some (a := .str (p.getD (k + 1) [])) (by rw [e1]; exact getP (by omega)) ?_
        refine ite2 (fun e7 => ?_) fun e7 => ?_
        · refine ⟨size_le (by omega), optW_some (a := t.getD (i + 1) 0) (by rw [e2]; exact getT (by omega)) ?_⟩
          refine optW_some (a := .str (p.getD k [])) (by rw [e6]; exact getP (by omega)) ?_
          refine ite2 (fun e8 => ?_) fun e8 => ?_
          · refine optW_some (cols_bef encL) ?_
            refine optW_some (a := encO (dp p t pr true i k)) (by rw [e6]; exact dp_get (by omega)) ?_
            refine hd _ _ ⟨_, _, rfl, ?_⟩
            refine ⟨size_small (by simp), ?_⟩
            refine fin [dearerO (dp p t pr true (i + 1) (k + 1 + 1)) pr.ins, metO (dp p t pr true (i + 1) (k + 1)) (p.getD (k + 1) []) (t.getD (i + 1) 0) pr.exch, dearerO (dp p t pr true i k) pr.turn] (by simp) ?_
            have c : t.getD (i + 1) 0 ∈ p.getD k [] ∧ t.getD i 0 ∈ p.getD (k + 1) [] := ⟨of_decide_eq_true e8, of_decide_eq_true e7⟩
            show _ = leastO ([_, _] ++ if t.getD (i + 1) 0 ∈ p.getD k [] ∧ t.getD i 0 ∈ p.getD (k + 1) [] then [dearerO (dp p t pr true i k) pr.turn] else [])
            rw [if_pos c]
            rfl
          · refine fin [dearerO (dp p t pr true (i + 1) (k + 1 + 1)) pr.ins, metO (dp p t pr true (i + 1) (k + 1)) (p.getD (k + 1) []) (t.getD (i + 1) 0) pr.exch] (by simp) ?_
            show _ = leastO ([_, _] ++ if t.getD (i + 1) 0 ∈ p.getD k [] ∧ t.getD i 0 ∈ p.getD (k + 1) [] then [dearerO (dp p t pr true i k) pr.turn] else [])
            rw [if_neg fun z => e8 (decide_eq_true z.1)]
            rfl
        · refine fin [dearerO (dp p t pr true (i + 1) (k + 1 + 1)) pr.ins, metO (dp p t pr true (i + 1) (k + 1)) (p.getD (k + 1) []) (t.getD (i + 1) 0) pr.exch] (by simp) ?_
          show _ = leastO ([_, _] ++ if t.getD (i + 1) 0 ∈ p.getD k [] ∧ t.getD i 0 ∈ p.getD (k + 1) [] then [dearerO (dp p t pr true i k) pr.turn] else [])
          rw [if_neg fun z => e7 (decide_eq_true z.2)]
          rfl

theorem len_due21 : ∀ as K, con_due21 as K → as.length = 5 := by rintro as K ⟨_, _, _, _, _, rfl, _⟩; rfl

end Nf
/-! the laws' own last prices; likeness -/
namespace Nf
open PySem PySem.Spec L2
def lastV (p : List (List Nat)) (t : List Nat) (pr : Pr) : List (Option Int) := (List.range (t.length + 1)).map fun i => dp p t pr true i p.length
abbrev nxC (p : List (List Nat)) (t : List Nat) (pr : Pr) (i k : Nat) : List (Option Int) := nextC p pr (colV p t pr true i) (prevV p t pr true i) (t.getD i 0) true k
theorem nxC_dp {p : List (List Nat)} {t : List Nat} {pr : Pr} {i k : Nat} (h : k ≤ p.length) : dp p t pr true (i + 1) k = (nxC p t pr i k).getLast?.getD none := by
  show (colV p t pr true (i + 1)).getD k none = _
  rw [colV_succ, nextC_at _ _ _ _ _ _ _ _ h]
theorem nxC_succ {p : List (List Nat)} {t : List Nat} {pr : Pr} {i k : Nat} (h : k < p.length) : nxC p t pr i (k + 1) = nxC p t pr i k ++ [dp p t pr true (i + 1) (k + 1)] := by
  rw [dp_ss h, nxC_dp (Nat.le_of_lt h)]
  rfl
theorem nxC_last {p : List (List Nat)} {t : List Nat} {pr : Pr} {i k : Nat} (h : k ≤ p.length) : atI ((nxC p t pr i k).map encO) (-1) = some (encO (dp p t pr true (i + 1) k)) := by
  rw [nxC_dp h]
  obtain ⟨r, x, e⟩ := last_of (nextC_len p pr (colV p t pr true i) (prevV p t pr true i) (t.getD i 0) true k)
  rw [show nxC p t pr i k = r ++ [x] from e, List.map_append]
  rw [show (List.map encO [x]) = [encO x] from rfl, atI_last]
  simp
theorem imm_encO (o : Option Int) : imm (encO o) = true := by cases o <;> rfl
def ir_last21 (x : String) : Def := ⟨"_law_last", 3, ["_law_pattern_here", "_law_text_here", "_law_prices_here", "_law_column", "_law_one", "_law_columns", "_law_place", "_law_at", x],
  (.cons (.asg (.name 3) (.lst (.cons (.cst (.int 0)) .nil))) (.cons (.loop (.name 4) (.ex (.var 0)) (.cons (.append 3 (.call "_law_dearer" (.cons (.op .idx (.cons (.var 3) (.cons (.op .neg (.cons (.cst (.int 1)) .nil)) .nil))) (.cons (.op .idx (.cons (.var 2) (.cons (.cst (.int 1)) .nil))) .nil)) [] [])) .nil)) (.cons (.asg (.name 5) (.lst (.cons (.var 3) .nil))) (.cons (.loop (.name 6) (.range (.cons (.op .len (.cons (.var 1) .nil)) .nil)) (.cons (.asg (.name 3) (.lst (.cons (.cst (.int 0)) .nil))) (.cons (.loop (.name 7) (.range (.cons (.cst (.int 1)) (.cons (.op .add (.cons (.op .len (.cons (.var 0) .nil)) (.cons (.cst (.int 1)) .nil))) .nil))) (.cons (.asg (.name 8) (.call "_law_cell_due" (.cons (.var 0) (.cons (.var 1) (.cons (.var 2) (.cons (.var 5) (.cons (.var 7) .nil))))) [] [3])) (.cons (.append 3 (.call "_law_least" (.cons (.lst (.cons (.var 8) (.cons (.call "_law_dearer" (.cons (.op .idx (.cons (.var 3) (.cons (.op .neg (.cons (.cst (.int 1)) .nil)) .nil))) (.cons (.op .idx (.cons (.var 2) (.cons (.cst (.int 1)) .nil))) .nil)) [] []) .nil))) .nil) [] [])) .nil))) (.cons (.append 5 (.var 3)) .nil)))) (.cons (.ret (.comp (.op .idx (.cons (.var 4) (.cons (.op .neg (.cons (.cst (.int 1)) .nil)) .nil))) (.name 4) (.ex (.var 5)) .no [4])) .nil)))))⟩

def con_last21 : Con := fun as K => ∃ (p : List (List Nat)) (t : List Nat) (pr : Pr), as = [.sh (encP p), .sh (.str t), .sh (encPr pr)] ∧ p.length ≤ 1000 ∧ t.length ≤ 1000 ∧ K (.ret (.t (.lst ((lastV p t pr).map encO))) [])
set_option maxHeartbeats 2000000 in
theorem ok_last21 (x : String) (Γ : String → Con) (gc : String → Option D) (hd : Has Γ "_law_dearer" con_dearer) (hl : Has Γ "_law_least" con_least) (hc : Has Γ "_law_cell_due" con_due21) : DefOk Γ gc (ir_last21 x) con_last21 := by
  rintro as K ⟨p, t, pr, rfl, hp, ht, h⟩
  refine forW_pre (xs := p) D.str (fun pre env => ∃ g : Slot, env = [.sh (encP p), .sh (.str t), .sh (encPr pr), .ow (.lst ((firstCol pr.lack pre.length).map encO)), g, .no, .no, .no, .no]) ⟨_, rfl⟩ (fun pre y post env k e hI hk => ?_) fun env hI => ?_
  · obtain ⟨g, rfl⟩ := hI
    obtain ⟨r, z, ez⟩ := last_of (firstCol_len pr.lack pre.length)
    have hlen : pre.length ≤ 1000 := by
      have := congrArg List.length e
      simp at this
      omega
    refine optW_some (a := encO z) (by rw [ez, List.map_append]; exact atI_last _ _) ?_
    refine hd _ _ ⟨z, _, rfl, ?_⟩
    refine ⟨size_small (by rw [List.length_map, firstCol_len]; omega), hk _ ⟨.sh (.str y), ?_⟩⟩
    have e2 : firstCol pr.lack (pre ++ [y]).length = firstCol pr.lack pre.length ++ [dearerO z pr.lack] := by
      rw [List.length_append]
      show firstCol pr.lack pre.length ++ [dearerO ((firstCol pr.lack pre.length).getLast?.getD none) pr.lack] = _
      rw [ez]
      simp
    rw [e2, List.map_append]
    rfl
  · obtain ⟨g, rfl⟩ := hI
    refine ⟨size_le (by omega), ⟨by omega, by omega⟩, ?_⟩
    refine forW_ix (n := t.length) (fun i env => ∃ g3 g6 g7 g8 : Slot, env = [.sh (encP p), .sh (.str t), .sh (encPr pr), g3, g, .ow (.lst ((colsV p t pr true (i + 1)).map encL)), g6, g7, g8]) ⟨_, _, _, _, rfl⟩ (fun i env k hi hI hk => ?_) fun env hI => ?_
    · obtain ⟨g3, g6, g7, g8, rfl⟩ := hI
      have hpl : ((p.map D.str).length : Int) + 1 - 1 = (p.length : Nat) := by rw [List.length_map]; omega
      refine ⟨⟨by omega, by omega, by rw [List.length_map]; omega, by rw [List.length_map]; omega⟩, ?_⟩
      rw [hpl, Int.toNat_natCast]
      refine forW_ix (lo := 1) (n := p.length) (fun k env => ∃ g7 g8 : Slot, env = [.sh (encP p), .sh (.str t), .sh (encPr pr), .ow (.lst ((nxC p t pr i k).map encO)), g, .ow (.lst ((colsV p t pr true (i + 1)).map encL)), .sh (.int (0 + (i : Nat))), g7, g8]) ⟨_, _, rfl⟩ (fun k env kk hk2 hI hkk => ?_) fun env hI => ?_
      · obtain ⟨g7, g8, rfl⟩ := hI
        have e7 : (1 : Int) + ((k : Nat) : Int) = ((k + 1 : Nat) : Int) := by omega
        rw [e7]
        refine hc _ _ ⟨p, t, pr, i, k, rfl, hp, ht, hi, hk2, imm_encO _, rfl, ?_⟩
        refine optW_some (nxC_last (by omega)) ?_
        refine hd _ _ ⟨dp p t pr true (i + 1) k, pr.lack, rfl, ?_⟩
        refine hl _ _ ⟨[dueB p t pr i k, dearerO (dp p t pr true (i + 1) k) pr.lack], rfl, by simp, ?_⟩
        rw [dueB_cell hk2]
        refine ⟨size_small (by rw [List.length_map, nextC_len]; omega), hkk _ ⟨.sh (.int ((k + 1 : Nat) : Int)), .sh (encO (dueB p t pr i k)), ?_⟩⟩
        rw [nxC_succ hk2, List.map_append]
        rfl
      · obtain ⟨g7, g8, rfl⟩ := hI
        refine ⟨size_small (by rw [List.length_map, colsV_len]; omega), hk _ ⟨.sh (.lst ((nxC p t pr i p.length).map encO)), .sh (.int (0 + (i : Nat))), g7, g8, ?_⟩⟩
        rw [colsV_succ p t pr true (i + 1), List.map_append]
        rw [show nxC p t pr i p.length = colV p t pr true (i + 1) from (colV_succ _ _ _ _ _).symm]
        rfl
    · obtain ⟨g3, g6, g7, g8, rfl⟩ := hI
      refine compW_fm (xs := colsV p t pr true (t.length + 1)) encL (fun c => some (encO (c.getD p.length none))) (by rw [colsV_len]; omega) (fun c hc2 kt kf h1 h2 => ?_) ?_
      · obtain ⟨j, hj, rfl⟩ := List.mem_map.mp (show c ∈ (List.range (t.length + 1)).map (colV p t pr true) from hc2)
        refine optW_some (a := encO ((colV p t pr true j).getD p.length none)) ?_ (h1 _ rfl _ rfl)
        obtain ⟨r, z, ez⟩ := last_of (colV_len p t pr true j)
        have hr : r.length = p.length := by
          have := colV_len p t pr true j
          rw [ez] at this
          simpa using this
        rw [ez, List.map_append, show List.map encO [z] = [encO z] from rfl, atI_last, List.getD_eq_getElem?_getD, ← hr]
        simp
      · rw [List.filterMap_eq_map']
        have e : (colsV p t pr true (t.length + 1)).map (fun c => encO (c.getD p.length none)) = (lastV p t pr).map encO := by
          unfold colsV lastV
          rw [List.map_map, List.map_map]
          rfl
        rw [e]
        exact h
theorem len_last21 : ∀ as K, con_last21 as K → as.length = 3 := by rintro as K ⟨_, _, _, rfl, _⟩; rfl
end Nf
/-! likeness; ends -/
namespace Nf
open PySem PySem.Spec L2
/-- ints, and tuples of such, to a depth -/
def Dd : Nat → D → Prop
  | 0, d => ∃ i, d = .int i
  | n + 1, d => (∃ i, d = .int i) ∨ ∃ xs, d = .tup xs ∧ ∀ x ∈ xs, Dd n x
def ir_alike (x y : String) : Def := ⟨"_law_alike", 2, ["_law_found", x, y, "_law_other"],
  (.cons (.iff (.ex (.op (.isi .tuple) (.cons (.var 1) .nil))) (.cons (.iff (.orv (.cons (.notv (.ex (.op (.isi .tuple) (.cons (.var 0) .nil)))) (.cons (.cmp .ne (.cons (.op .len (.cons (.var 0) .nil)) (.cons (.op .len (.cons (.var 1) .nil)) .nil))) .nil))) (.cons (.ret (.cst (.bl false))) .nil) .nil) (.cons (.loop (.tup [2, 3]) (.zip (.cons (.var 0) (.cons (.var 1) .nil))) (.cons (.iff (.notv (.ex (.call "_law_alike" (.cons (.var 2) (.cons (.var 3) .nil)) [] []))) (.cons (.ret (.cst (.bl false))) .nil) .nil) .nil)) (.cons (.ret (.cst (.bl true))) .nil))) .nil) (.cons (.ret (.andv (.cons (.op (.isi .int) (.cons (.var 0) .nil)) (.cons (.notv (.op (.isi .bool) (.cons (.var 0) .nil))) (.cons (.op .eq (.cons (.var 0) (.cons (.var 1) .nil))) .nil))))) .nil))⟩

def con_alike : Nat → Con
  | 0 => fun _ _ => False
  | n + 1 => fun as K => ∃ d, as = [.sh d, .sh d] ∧ Dd n d ∧ K (.ret (.v (.bl true)) [])
theorem alike_int {i : Int} {K : Out → Prop} {Γ : String → Con} {gc : String → Option D} {x y : String} (h : K (.ret (.v (.bl true)) [])) : wpDef Γ gc (ir_alike x y) [.sh (.int i), .sh (.int i)] K := by
  refine ⟨rfl, rfl, ?_⟩
  have e : deq (.int i) (.int i) = true := by rw [deq_int]; exact decide_eq_true rfl
  show K (.ret (.v (.bl (deq (.int i) (.int i)))) [])
  rw [e]
  exact h
theorem ok_alike (x y : String) (Γ : String → Con) (gc : String → Option D) (n : Nat) (ha : Has Γ "_law_alike" (con_alike n)) : DefOk Γ gc (ir_alike x y) (con_alike (n + 1)) := by
  rintro as K ⟨d, rfl, hd, h⟩
  cases n with
  | zero =>
    obtain ⟨i, rfl⟩ := hd
    exact alike_int h
  | succ n =>
    rcases hd with ⟨i, rfl⟩ | ⟨xs, rfl, hx⟩
    · exact alike_int h
    · refine ⟨rfl, rfl, ?_⟩
      have e : (!deq (.int ((xs.length : Nat) : Int)) (.int ((xs.length : Nat) : Int))) = false := by rw [deq_int, decide_eq_true rfl]; rfl
      refine iteF e ?_
      show forW _ _ (zipD xs xs) _ _
      rw [zipD_self]
      refine forW_pre (xs := xs) (fun x => .tup [x, x]) (fun pre env => ∃ g2 g3 : Slot, env = [.sh (.tup xs), .sh (.tup xs), g2, g3]) ⟨_, _, rfl⟩ (fun pre z post env k e hI hk => ?_) fun env hI => ?_
      · obtain ⟨g2, g3, rfl⟩ := hI
        exact ha _ _ ⟨z, rfl, hx z (by rw [e]; simp), hk _ ⟨.sh z, .sh z, rfl⟩⟩
      · obtain ⟨g2, g3, rfl⟩ := hI
        exact h
theorem len_alike : ∀ j as K, con_alike j as K → as.length = 2
  | 0, _, _, h => h.elim
  | _ + 1, _, _, ⟨_, e, _⟩ => by rw [e]; rfl
def ir_last_prices : Def := ⟨"last_prices", 3, ["pattern", "text", "prices", "column"],
  (.cons (.ret (.comp (.op .idx (.cons (.var 3) (.cons (.op .neg (.cons (.cst (.int 1)) .nil)) .nil))) (.name 3) (.ex (.call "columns_of" (.cons (.var 0) (.cons (.var 1) (.cons (.var 2) (.cons (.cst (.bl true)) .nil)))) [] [])) .no [3])) .nil)⟩

theorem ok_last_prices (Γ : String → Con) (gc : String → Option D) (hc : Has Γ "columns_of" con_columns) : DefOk Γ gc ir_last_prices con_last21 := by
  rintro as K ⟨p, t, pr, rfl, hp, ht, h⟩
  refine hc _ _ ⟨p, t, pr, true, rfl, by omega, by omega, ?_⟩
  refine compW_fm (xs := colsV p t pr true (t.length + 1)) encCol (fun c => some (encO (c.getD p.length none))) (by rw [colsV_len]; omega) (fun c hc2 kt kf h1 h2 => ?_) ?_
  · obtain ⟨j, hj, rfl⟩ := List.mem_map.mp (show c ∈ (List.range (t.length + 1)).map (colV p t pr true) from hc2)
    refine optW_some (a := encO ((colV p t pr true j).getD p.length none)) ?_ (h1 _ rfl _ rfl)
    obtain ⟨r, z, ez⟩ := last_of (colV_len p t pr true j)
    have hr : r.length = p.length := by
      have := colV_len p t pr true j
      rw [ez] at this
      simpa using this
    rw [ez, List.map_append, show List.map encO [z] = [encO z] from rfl, atI_last, List.getD_eq_getElem?_getD, ← hr]
    simp
  · rw [List.filterMap_eq_map']
    have e : (colsV p t pr true (t.length + 1)).map (fun c => encO (c.getD p.length none)) = (lastV p t pr).map encO := by
      unfold colsV lastV
      rw [List.map_map, List.map_map]
      rfl
    rw [e]
    exact h
def endP (m : Int) : Nat × Option Int → Option (Nat × Int)
  | (_, none) => none
  | (i, some c) => if c ≤ m then some (i, c) else none
def numL {α : Type} (l : List α) : List (Nat × α) := l.zipIdx.map fun q => (q.2, q.1)
def endsV (p : List (List Nat)) (t : List Nat) (m : Int) (pr : Pr) : List (Nat × Int) := (numL (lastV p t pr)).filterMap (endP m)
def encE (q : Nat × Int) : D := .tup [.int ((q.1 : Nat) : Int), .int q.2]
def encEs (l : List (Nat × Int)) : D := .tup (l.map encE)
def encN (q : Nat × Option Int) : D := .tup [.int ((q.1 : Nat) : Int), encO q.2]
theorem enum_num : ∀ (l : List (Option Int)) (n : Nat), enumD n (l.map encO) = ((l.zipIdx n).map fun q => (q.2, q.1)).map encN
  | [], _ => rfl
  | x :: l, n => by
    rw [List.map_cons, enumD, enum_num l (n + 1)]
    rfl
theorem dd_ends (l : List (Nat × Int)) : Dd 2 (encEs l) := .inr ⟨_, rfl, fun x hx => by
  obtain ⟨q, _, rfl⟩ := List.mem_map.mp hx
  refine .inr ⟨_, rfl, fun y hy => ?_⟩
  simp only [List.mem_cons, List.not_mem_nil, or_false] at hy
  rcases hy with rfl | rfl
  · exact ⟨_, rfl⟩
  · exact ⟨_, rfl⟩⟩
def ir_ends_in : Def := ⟨"ends_in", 4, ["pattern", "text", "most", "prices", "found", "end", "price"],
  (.cons (.asg (.name 4) (.lst .nil)) (.cons (.loop (.tup [5, 6]) (.enum (.call "last_prices" (.cons (.var 0) (.cons (.var 1) (.cons (.var 3) .nil))) [] [])) (.cons (.iff (.andv (.cons (.cmp .isnot (.cons (.var 6) (.cons (.cst .non) .nil))) (.cons (.cmp .le (.cons (.var 6) (.cons (.var 2) .nil))) .nil))) (.cons (.append 4 (.tup (.cons (.var 5) (.cons (.var 6) .nil)))) .nil) .nil) .nil)) (.cons (.ret (.op .tuple1 (.cons (.var 4) .nil))) .nil)))⟩

def con_ends : Con := fun as K => ∃ (p : List (List Nat)) (t : List Nat) (m : Int) (pr : Pr), as = [.sh (encP p), .sh (.str t), .sh (.int m), .sh (encPr pr)] ∧ p.length ≤ 1000 ∧ t.length ≤ 1000 ∧ K (.ret (.v (encEs (endsV p t m pr))) [])
theorem ok_ends (Γ : String → Con) (gc : String → Option D) (hc : Has Γ "last_prices" con_last21) : DefOk Γ gc ir_ends_in con_ends := by
  rintro as K ⟨p, t, m, pr, rfl, hp, ht, h⟩
  refine hc _ _ ⟨p, t, pr, rfl, by omega, by omega, ?_⟩
  have hlen : (numL (lastV p t pr)).length ≤ 1001 := by unfold numL lastV; simp; omega
  show forW _ _ (enumD 0 ((lastV p t pr).map encO)) _ _
  rw [enum_num]
  refine forW_pre (xs := numL (lastV p t pr)) encN (fun pre env => ∃ g5 g6 : Slot, env = [.sh (encP p), .sh (.str t), .sh (.int m), .sh (encPr pr), .ow (.lst ((pre.filterMap (endP m)).map encE)), g5, g6]) ⟨_, _, rfl⟩ (fun pre x post env k e hI hk => ?_) fun env hI => ?_
  · obtain ⟨g5, g6, rfl⟩ := hI
    obtain ⟨i, o⟩ := x
    cases o with
    | none => exact hk _ ⟨.sh (.int (i : Nat)), .sh .non, by rw [List.filterMap_append]; simp [endP]; rfl⟩
    | some c =>
      refine ite2 (fun e1 => ?_) fun e1 => ?_
      · have e1' : c ≤ m := of_decide_eq_true e1
        have hl2 : (pre.filterMap (endP m)).length ≤ 1001 := by
          have h1 := List.length_filterMap_le (endP m) pre
          have h2 := congrArg List.length e
          simp at h2
          omega
        refine ⟨size_small (by rw [List.length_map]; omega), hk _ ⟨.sh (.int (i : Nat)), .sh (.int c), ?_⟩⟩
        rw [List.filterMap_append, List.map_append]
        simp [endP, e1', encE]
        rfl
      · have e1' : ¬ c ≤ m := fun z => e1 (decide_eq_true z)
        refine hk _ ⟨.sh (.int (i : Nat)), .sh (.int c), ?_⟩
        rw [List.filterMap_append, List.map_append]
        simp [endP, e1']
        rfl
  · obtain ⟨g5, g6, rfl⟩ := hI
    exact h
theorem len_ends : ∀ as K, con_ends as K → as.length = 4 := by rintro as K ⟨_, _, _, _, rfl, _⟩; rfl
end Nf
/-! cells_of, and what laws say of it -/
namespace Nf
open PySem PySem.Spec L2
def ir_cells_of : Def := ⟨"cells_of", 4, ["pattern", "text", "prices", "free", "columns", "column", "at"],
  (.cons (.asg (.name 4) (.call "columns_of" (.cons (.var 0) (.cons (.var 1) (.cons (.var 2) (.cons (.var 3) .nil)))) [] [])) (.cons (.ret (.op .tuple1 (.cons (.comp (.op .tuple1 (.cons (.comp (.op .idx (.cons (.var 5) (.cons (.var 6) .nil))) (.name 5) (.ex (.var 4)) .no [5]) .nil)) (.name 6) (.range (.cons (.op .add (.cons (.op .len (.cons (.var 0) .nil)) (.cons (.cst (.int 1)) .nil))) .nil)) .no [6]) .nil))) .nil))⟩

def rowV (p : List (List Nat)) (t : List Nat) (pr : Pr) (free : Bool) (j : Nat) : List (Option Int) := (List.range (t.length + 1)).map fun i => dp p t pr free i j
def cellsV (p : List (List Nat)) (t : List Nat) (pr : Pr) (free : Bool) : List (List (Option Int)) := (List.range (p.length + 1)).map (rowV p t pr free)
def cellsD (p : List (List Nat)) (t : List Nat) (pr : Pr) (free : Bool) : D := .tup ((cellsV p t pr free).map encCol)
theorem rowV_len (p : List (List Nat)) (t : List Nat) (pr : Pr) (free : Bool) (j : Nat) : (rowV p t pr free j).length = t.length + 1 := by unfold rowV; simp
theorem cellsV_len (p : List (List Nat)) (t : List Nat) (pr : Pr) (free : Bool) : (cellsV p t pr free).length = p.length + 1 := by unfold cellsV; simp
def con_cells : Con := fun as K => ∃ p t pr free, as = [.sh (encP p), .sh (.str t), .sh (encPr pr), .sh (.bl free)] ∧ p.length ≤ 1000 ∧ t.length ≤ 10000 ∧ K (.ret (.v (cellsD p t pr free)) [])
theorem compW_fmE {α : Type} {own : List Nat} {tgW : D → Ev → (Ev → Prop) → Prop} {condW : Ev → (Bool → Ev → Prop) → Prop} {eltW : Ev → (D → Ev → Prop) → Prop} {ds : List D} {xs : List α} (enc : α → D) (f : α → Option D) {env : Ev} {K : List D → Ev → Prop} (he : ds = xs.map enc) (hz : xs.length ≤ 100000)
    (h : ∀ x ∈ xs, ∀ (kt : D → Ev → Prop) (kf : Ev → Prop), (∀ y, f x = some y → ∀ e, wipeE own e = env → kt y e) → (f x = none → ∀ e, wipeE own e = env → kf e) → tgW (enc x) env fun e1 => condW e1 fun b e2 => if b = true then eltW e2 kt else kf e2)
    (hK : K (xs.filterMap f) env) : compW own tgW condW eltW ds [] env K := by
  rw [he]
  exact compW_fm enc f hz h hK
/-- the turns may change the slots, within I -/
theorem compW_fmI {α : Type} {own : List Nat} {tgW : D → Ev → (Ev → Prop) → Prop} {condW : Ev → (Bool → Ev → Prop) → Prop} {eltW : Ev → (D → Ev → Prop) → Prop} {ds : List D} {xs : List α} (enc : α → D) (f : α → Option D) (I : Ev → Prop) {env : Ev} {K : List D → Ev → Prop} (he : ds = xs.map enc) (hz : xs.length ≤ 100000) (h0 : I env)
    (h : ∀ x ∈ xs, ∀ env, I env → ∀ (kt : D → Ev → Prop) (kf : Ev → Prop), (∀ y, f x = some y → ∀ e, I (wipeE own e) → kt y e) → (f x = none → ∀ e, I (wipeE own e) → kf e) → tgW (enc x) env fun e1 => condW e1 fun b e2 => if b = true then eltW e2 kt else kf e2)
    (hK : ∀ env', I env' → K (xs.filterMap f) env') : compW own tgW condW eltW ds [] env K := by
  have main : ∀ (post pre : List α) (env : Ev), xs = pre ++ post → I env → compW own tgW condW eltW (post.map enc) (pre.filterMap f) env K := by
    intro post
    induction post with
    | nil => intro pre env e hi; rw [List.append_nil] at e; subst e; rw [List.map_nil, compW_nil]; exact hK _ hi
    | cons x post ih =>
      intro pre env e hi
      rw [List.map_cons, compW_cons]
      have hm : x ∈ xs := by rw [e]; simp
      refine h x hm env hi (fun y e3 => (pre.filterMap f).length < sizeLine ∧ compW own tgW condW eltW (post.map enc) (pre.filterMap f ++ [y]) (wipeE own e3) K) (fun e2 => compW own tgW condW eltW (post.map enc) (pre.filterMap f) (wipeE own e2) K) (fun y hy e3 he => ?_) fun hn e2 he => ?_
      · refine ⟨size_small ?_, ?_⟩
        · have h1 := List.length_filterMap_le f pre
          have h2 := congrArg List.length e
          simp at h2
          omega
        · have := ih (pre ++ [x]) (wipeE own e3) (by rw [e]; simp) he
          rw [List.filterMap_append] at this
          simpa [hy] using this
      · have := ih (pre ++ [x]) (wipeE own e2) (by rw [e]; simp) he
        rw [List.filterMap_append] at this
        simpa [hn] using this
  rw [he]
  exact main xs [] env rfl h0
theorem fmap_some {α β : Type} (f : α → β) : ∀ l : List α, (l.filterMap fun x => some (f x)) = l.map f
  | [] => rfl
  | x :: l => by simp [fmap_some f l]
theorem ok_cells (Γ : String → Con) (gc : String → Option D) (hc : Has Γ "columns_of" con_columns) : DefOk Γ gc ir_cells_of con_cells := by
  rintro as K ⟨p, t, pr, free, rfl, hp, ht, h⟩
  refine hc _ _ ⟨p, t, pr, free, rfl, hp, ht, ?_⟩
  have e0 : ((((p.map D.str).length : Nat) : Int) + 1).toNat = p.length + 1 := by rw [List.length_map]; omega
  have ec : (colsV p t pr free (t.length + 1)).map encCol = (List.range (t.length + 1)).map fun i => encCol (colV p t pr free i) := by unfold colsV; rw [List.map_map]; rfl
  have inner : ∀ j, j ≤ p.length → ∀ (kt : D → Ev → Prop) (c : Slot), (∀ e, e = [.sh (encP p), .sh (.str t), .sh (encPr pr), .sh (.bl free), .sh (.lst ((colsV p t pr free (t.length + 1)).map encCol)), .no, .sh (.int (0 + ((j : Nat) : Int)))] → kt (encCol (rowV p t pr free j)) e) →
      (c = .ow (.lst ((colsV p t pr free (t.length + 1)).map encCol)) ∨ c = .sh (.lst ((colsV p t pr free (t.length + 1)).map encCol))) →
      wpE ⟨Γ, gc, [], fun _ => False⟩ (.op .tuple1 (.cons (.comp (.op .idx (.cons (.var 5) (.cons (.var 6) .nil))) (.name 5) (.ex (.var 4)) .no [5]) .nil)) [.sh (encP p), .sh (.str t), .sh (encPr pr), .sh (.bl free), c, .no, .sh (.int (0 + ((j : Nat) : Int)))] fun r e1 => retain [] e1 r kt := by
    intro j hj2 kt c hk hc2
    have e1 : (0 + ((j : Nat) : Int)) = ((j : Nat) : Int) := by omega
    have fin : ((List.range (t.length + 1)).filterMap fun i => some (encO (dp p t pr free i j))) = (rowV p t pr free j).map encO := by unfold rowV; rw [fmap_some, List.map_map]; rfl
    have hk2 := hk _ rfl
    unfold encCol at hk2
    rw [← fin] at hk2
    rcases hc2 with rfl | rfl
    · refine compW_fmE (xs := List.range (t.length + 1)) (fun i : Nat => encCol (colV p t pr free i)) (fun i => some (encO (dp p t pr free i j))) ec (by simp; omega) (fun i hi kt2 kf2 h3 _ => ?_) ?_
      · refine optW_some (a := encO (dp p t pr free i j)) (by rw [e1]; exact dp_get hj2) ?_
        exact h3 _ rfl _ rfl
      · exact hk2
    · refine compW_fmE (xs := List.range (t.length + 1)) (fun i : Nat => encCol (colV p t pr free i)) (fun i => some (encO (dp p t pr free i j))) ec (by simp; omega) (fun i hi kt2 kf2 h3 _ => ?_) ?_
      · refine optW_some (a := encO (dp p t pr free i j)) (by rw [e1]; exact dp_get hj2) ?_
        exact h3 _ rfl _ rfl
      · exact hk2
  refine ⟨⟨by omega, by rw [List.length_map]; omega⟩, ?_⟩
  refine compW_fmI (xs := List.range (p.length + 1)) (fun j : Nat => D.int (0 + ((j : Nat) : Int))) (fun j => some (encCol (rowV p t pr free j)))
    (fun env => ∃ c, (c = .ow (.lst ((colsV p t pr free (t.length + 1)).map encCol)) ∨ c = .sh (.lst ((colsV p t pr free (t.length + 1)).map encCol))) ∧ env = [.sh (encP p), .sh (.str t), .sh (encPr pr), .sh (.bl free), c, .no, .no])
    (by show rangeD 0 _ = _; rw [e0]; rfl) (by simp; omega) ⟨_, .inl rfl, rfl⟩ (fun j hj env hI kt kf h1 _ => ?_) fun env hI => ?_
  · have hj2 : j ≤ p.length := by have := List.mem_range.mp hj; omega
    obtain ⟨c, hc2, rfl⟩ := hI
    exact inner j hj2 kt c (fun e he => h1 _ rfl _ ⟨_, .inr rfl, by rw [he]; rfl⟩) hc2
  · obtain ⟨c, hc2, rfl⟩ := hI
    have e3 : ((List.range (p.length + 1)).filterMap fun j => some (encCol (rowV p t pr free j))) = (cellsV p t pr free).map encCol := by unfold cellsV; rw [fmap_some, List.map_map]; rfl
    rw [e3]
    exact h
theorem forW_ix0 {tgW : D → Ev → (Ev → Prop) → Prop} {body : Ev → Fn → Prop} {ds : List D} {n : Nat} (I : Nat → Ev → Prop) {env : Ev} {fn : Fn} (he : ds = rangeD 0 n) (h0 : I 0 env)
    (hs : ∀ i env (k : Ev → Prop), i < n → I i env → (∀ env', I (i + 1) env' → k env') → tgW (.int ((i : Nat) : Int)) env fun env1 => body env1 ⟨k, fn.rt⟩) (hd : ∀ env, I n env → fn.nx env) : forW tgW body ds env fn := by
  rw [he]
  refine forW_ix I h0 (fun i env k hi hI hk => ?_) hd
  rw [Int.zero_add]
  exact hs i env k hi hI hk
theorem len_cells : ∀ as K, con_cells as K → as.length = 4 := by rintro as K ⟨_, _, _, _, rfl, _⟩; rfl
theorem cells_at {p : List (List Nat)} {t : List Nat} {pr : Pr} {free : Bool} {j : Nat} (h : j ≤ p.length) : atI ((cellsV p t pr free).map encCol) ((j : Nat) : Int) = some (encCol (rowV p t pr free j)) := by
  unfold cellsV
  rw [atI_nat, List.map_map, List.getElem?_map, List.getElem?_range (by omega)]
  rfl
theorem row_at {p : List (List Nat)} {t : List Nat} {pr : Pr} {free : Bool} {i j : Nat} (h : i ≤ t.length) : atI ((rowV p t pr free j).map encO) ((i : Nat) : Int) = some (encO (dp p t pr free i j)) := by
  unfold rowV
  rw [atI_nat, List.map_map, List.getElem?_map, List.getElem?_range (by omega)]
  rfl
end Nf
/-! k34: how many columns: the plain law -/
namespace Nf
open PySem PySem.Spec L2
def plainPr : Pr := ⟨1, 1, 1, 0⟩
def startC (p : List (List Nat)) (m : Int) (pr : Pr) : Col := capC m (firstCol pr.lack p.length)
/-- in every set that holds the first column and what comes behind -/
def ReachC (p : List (List Nat)) (m : Int) (pr : Pr) (c : Col) : Prop := ∀ T : List Col, startC p m pr ∈ T → (∀ x ∈ T, ∀ a ∈ abc, bhF p m pr x a ∈ T) → c ∈ T
theorem reach_run (p : List (List Nat)) (m : Int) (pr : Pr) : ∀ n, ∀ c ∈ (brun p m pr n).1, ReachC p m pr c
  | 0, c, hc => by
    rw [List.mem_singleton.mp hc]
    exact fun T h1 _ => h1
  | n + 1, c, hc => by
    have ih := reach_run p m pr n
    have hc' : c ∈ (bstep p m pr (brun p m pr n)).1 := hc
    cases e : (brun p m pr n).1[(brun p m pr n).2.length]? with
    | none => unfold bstep at hc'; rw [e] at hc'; exact ih c hc'
    | some c0 =>
      rw [bstep_at e] at hc'
      have nx : ∀ c ∈ nxtAll p m pr c0, ∃ a ∈ abc, c = bhF p m pr c0 a := fun c hc => by
        unfold nxtAll at hc
        obtain ⟨a, ha, h⟩ := List.mem_map.mp hc
        exact ⟨a, ha, h.symm⟩
      generalize nxtAll p m pr c0 = xs at hc' nx
      obtain ⟨more, e1, _, e3⟩ := (vis_ok (brun p m pr n).1 xs).ext
      have hc2 : c ∈ (xs.foldl vis1 ((brun p m pr n).1, [])).1 := hc'
      rw [e1] at hc2
      rcases List.mem_append.mp hc2 with h | h
      · exact ih c h
      · obtain ⟨a, ha, rfl⟩ := nx c (e3 c h)
        exact fun T h1 h3 => h3 _ (ih c0 (List.mem_of_getElem? e) T h1 h3) a ha
theorem closed_run {p : List (List Nat)} {m : Int} {pr : Pr} {s : BS} (b : Bok p m pr s) (h : s.2.length = s.1.length) : ∀ c ∈ s.1, ∀ a ∈ abc, bhF p m pr c a ∈ s.1 := fun c hc a ha => by
  obtain ⟨i, hi⟩ := List.mem_iff_getElem?.mp hc
  have hil := (List.getElem?_eq_some_iff.mp hi).1
  obtain ⟨row, hrow⟩ : ∃ row, s.2[i]? = some row := ⟨_, List.getElem?_eq_getElem (by omega)⟩
  obtain ⟨c', g1, _, g3⟩ := b.rows i row hrow
  rw [hi] at g1; cases g1
  obtain ⟨k, hk⟩ := List.mem_iff_getElem?.mp ha
  obtain ⟨j, _, g5⟩ := g3 k (bhF p m pr c a) (by unfold nxtAll; rw [List.getElem?_map, hk]; rfl)
  exact List.mem_of_getElem? g5
theorem nodup_le : ∀ {l1 l2 : List Col}, l1.Nodup → (∀ c ∈ l1, c ∈ l2) → l1.length ≤ l2.length
  | [], l2, _, _ => Nat.zero_le _
  | x :: l1, l2, hn, h => by
    obtain ⟨h1, h2⟩ := List.nodup_cons.mp hn
    have hx := h x List.mem_cons_self
    have ih := nodup_le (l1 := l1) (l2 := l2.erase x) h2 fun c hc => (List.mem_erase_of_ne (by rintro rfl; exact h1 hc)).mpr (h c (List.mem_cons_of_mem _ hc))
    rw [List.length_erase_of_mem hx] at ih
    have : 0 < l2.length := List.length_pos_of_mem hx
    rw [List.length_cons]
    omega
abbrev klm : List Nat := [107, 108, 109]
structure ManyOk (p : List (List Nat)) (m : Int) (pr : Pr) (row : List Col) : Prop where
  nd : row.Nodup
  st : startC p m pr ∈ row
  re : ∀ c ∈ row, ReachC p m pr c
  cl : 300 < row.length ∨ ∀ c ∈ row, ∀ a ∈ klm, bhF p m pr c a ∈ row
theorem klm_all {w : List Nat} (hw : ∀ c ∈ w, c = 107 ∨ c = 108) (a : Nat) : ∃ b ∈ klm, rowK (w.map fun c => [c]) a = rowK (w.map fun c => [c]) b := by
  by_cases h1 : a = 107
  · exact ⟨107, by simp, by rw [h1]⟩
  · by_cases h2 : a = 108
    · exact ⟨108, by simp, by rw [h2]⟩
    · refine ⟨109, by simp, ?_⟩
      unfold rowK
      rw [List.map_map, List.map_map]
      refine List.map_congr_left fun c hc => ?_
      have := hw c hc
      show lfB (decide (a ∈ [c])) = lfB (decide (109 ∈ [c]))
      rw [decide_eq_false (by simp; omega), decide_eq_false (by simp; omega)]
theorem many_plain {w : List Nat} {m : Int} {pr : Pr} {s : BS} {row : List Col} (hw : ∀ c ∈ w, c = 107 ∨ c = 108) (hS : Stop (w.map fun c => [c]) m pr s) (hM : ManyOk (w.map fun c => [c]) m pr row) :
    (300 < row.length → 300 < s.1.length) ∧ (row.length ≤ 300 → s.1.length = row.length) := by
  have b : Bok (w.map fun c => [c]) m pr s := by obtain ⟨n, rfl, _⟩ := hS; exact brun_ok _ _ _ n
  have rs : ∀ c ∈ s.1, ReachC (w.map fun c => [c]) m pr c := by obtain ⟨n, rfl, _⟩ := hS; exact reach_run _ _ _ n
  have hst : startC (w.map fun c => [c]) m pr ∈ s.1 := List.mem_of_getElem? b.hd
  have small : s.1.length ≤ 300 → row.length ≤ s.1.length := fun h => by
    have tl : s.2.length = s.1.length := by
      have := b.tl
      obtain ⟨n, e, g, _⟩ := hS
      by_cases z : s.2.length < s.1.length
      · exact (g ⟨z, h⟩).elim
      · omega
    exact nodup_le hM.nd fun c hc => hM.re c hc s.1 hst (closed_run b tl)
  refine ⟨fun h => ?_, fun h => ?_⟩
  · by_cases z : s.1.length ≤ 300
    · have := small z; omega
    · omega
  · have hcl : ∀ c ∈ row, ∀ a ∈ abc, bhF (w.map fun c => [c]) m pr c a ∈ row := fun c hc a _ => by
      rcases hM.cl with z | z
      · omega
      · obtain ⟨b, hb, e⟩ := klm_all hw a
        rw [bhF_congr e]
        exact z c hc b hb
    have h1 : s.1.length ≤ row.length := nodup_le b.nd fun c hc => rs c hc row hM.st hcl
    have h2 := small (by omega)
    omega
theorem first_plain (n : Nat) : firstCol 1 n = (List.range (n + 1)).map fun i => some ((i : Nat) : Int) := by
  induction n with
  | zero => rfl
  | succ n ih =>
    rw [List.range_succ, List.map_append]
    show firstCol 1 n ++ [dearerO ((firstCol 1 n).getLast?.getD none) 1] = _
    rw [ih]
    have : ((List.range (n + 1)).map fun i => some ((i : Nat) : Int)).getLast?.getD none = some ((n : Nat) : Int) := by
      rw [List.range_succ, List.map_append]; simp
    rw [this]
    show _ ++ [some (((n : Nat) : Int) + 1)] = _
    rfl
theorem lower3' (a b c : Option Int) : leastO [a, b, c] = lowerO (lowerO a b) c := by
  show lowerO a (lowerO b (lowerO c none)) = _
  rw [lower_none, lower_assoc]
def ir_lnext34 : Def := ⟨"_law_next", 4, ["_law_pattern_here", "_law_column", "_law_sign", "_law_most", "_law_found", "_law_at", "_law_across", "_law_some", "_law_price"],
  (.cons (.asg (.name 4) (.lst (.cons (.cst (.int 0)) .nil))) (.cons (.loop (.name 5) (.range (.cons (.op .len (.cons (.var 0) .nil)) .nil)) (.cons (.asg (.name 6) (.op .idx (.cons (.var 1) (.cons (.var 5) .nil)))) (.cons (.iff (.cmp .ne (.cons (.var 2) (.cons (.op .idx (.cons (.var 0) (.cons (.var 5) .nil))) .nil))) (.cons (.asg (.name 6) (.call "_law_dearer" (.cons (.var 6) (.cons (.cst (.int 1)) .nil)) [] [])) .nil) .nil) (.cons (.asg (.name 7) (.lst (.cons (.var 6) (.cons (.call "_law_dearer" (.cons (.op .idx (.cons (.var 1) (.cons (.op .add (.cons (.var 5) (.cons (.cst (.int 1)) .nil))) .nil))) (.cons (.cst (.int 1)) .nil)) [] []) (.cons (.call "_law_dearer" (.cons (.op .idx (.cons (.var 4) (.cons (.op .neg (.cons (.cst (.int 1)) .nil)) .nil))) (.cons (.cst (.int 1)) .nil)) [] []) .nil))))) (.cons (.append 4 (.call "_law_least" (.cons (.var 7) .nil) [] [])) .nil))))) (.cons (.ret (.op .tuple1 (.cons (.comp (.ite (.andv (.cons (.cmp .isnot (.cons (.var 8) (.cons (.cst .non) .nil))) (.cons (.cmp .le (.cons (.var 8) (.cons (.var 3) .nil))) .nil))) (.var 8) (.cst .non)) (.name 8) (.ex (.var 4)) .no [8]) .nil))) .nil)))⟩

def con_lnext34 : Con := fun as K => ∃ (w : List Nat) (c : Col) (s : Nat) (m : Int), as = [.sh (encP (w.map fun c => [c])), .sh (encCol c), .sh (.str [s]), .sh (.int m)] ∧ w.length ≤ 900 ∧ (∀ c ∈ w, c < 128) ∧ s < 128 ∧ c.length = w.length + 1 ∧ K (.ret (.v (encCol (bhF (w.map fun c => [c]) m plainPr c s))) [])
set_option maxHeartbeats 1000000 in
theorem ok_lnext34 (Γ : String → Con) (gc : String → Option D) (hd : Has Γ "_law_dearer" con_dearer) (hl : Has Γ "_law_least" con_least) : DefOk Γ gc ir_lnext34 con_lnext34 := by
  rintro as K ⟨w, c, s, m, rfl, hp, hw, hs, hcl, h⟩
  have hP : ((w.map fun c => [c]).map D.str).length = w.length := by rw [List.length_map, List.length_map]
  have hpl : (w.map fun c => [c]).length = w.length := List.length_map _
  rw [← hpl] at hcl hp
  refine ⟨⟨by omega, by omega⟩, ?_⟩
  have hn : Int.toNat ((((w.map fun c => [c]).map D.str).length : Nat) : Int) = (w.map fun c => [c]).length := by omega
  refine forW_ix0 (n := (w.map fun c => [c]).length) (fun i env => ∃ g6 g7 g8 : Slot, env = [.sh (encP (w.map fun c => [c])), .sh (encCol c), .sh (.str [s]), .sh (.int m), .ow (.lst ((nextC (w.map fun c => [c]) plainPr c none s true i).map encO)), g6, g7, g8, .no]) (by rw [hn]) ⟨_, _, _, rfl⟩ (fun i env k hi hI hk => ?_) fun env hI => ?_
  · obtain ⟨g6, g7, g8, rfl⟩ := hI
    obtain ⟨x, hx⟩ : ∃ x, w[i]? = some x := ⟨_, List.getElem?_eq_getElem (by omega)⟩
    have hgd : (w.map fun c => [c]).getD i [] = [x] := by rw [List.getD_eq_getElem?_getD, List.getElem?_map, hx]; rfl
    have hx128 := hw x (List.mem_of_getElem? hx)
    have hnl := nextC_len (w.map fun c => [c]) plainPr c none s true i
    obtain ⟨r, y, hy⟩ := last_of hnl
    have hst : nextC (w.map fun c => [c]) plainPr c none s true (i + 1) = nextC (w.map fun c => [c]) plainPr c none s true i ++ [lowerO (lowerO (metO (c.getD i none) ((w.map fun c => [c]).getD i []) s 1) (dearerO (c.getD (i + 1) none) 1)) (dearerO y 1)] := by
      show nextC (w.map fun c => [c]) plainPr c none s true i ++ [cellC (w.map fun c => [c]) plainPr c s i ((nextC (w.map fun c => [c]) plainPr c none s true i).getLast?.getD none)] = _
      rw [hy]
      simp [cellC, plainPr]
    rw [hst] at hk
    rw [hy] at hnl hk ⊢
    have hlast : atI ((r ++ [y]).map encO) (-1) = some (encO y) := by rw [List.map_append]; exact atI_last _ _
    have hnext : atI (c.map encO) (((i : Nat) : Int) + 1) = some (encO (c.getD (i + 1) none)) := getC (k := i + 1) (by omega)
    have hone : atI ((w.map fun c => [c]).map D.str) ((i : Nat) : Int) = some (.str [x]) := by rw [getP hi, hgd]
    have ps : ∀ z, z < 128 → plainS [z] := fun z hz => ⟨by simp, fun c hc => by rw [List.mem_singleton.mp hc]; exact hz⟩
    refine optW_some (getC (by omega)) ?_
    refine optW_some hone ⟨eqOk_str (ps s hs), eqOk_str (ps x hx128), ?_⟩
    by_cases q : s = x
    · refine iteF (by rw [deq_str, decide_eq_true (by rw [q])]; rfl) ?_
      refine optW_some hnext ?_
      refine hd _ _ ⟨c.getD (i + 1) none, 1, rfl, ?_⟩
      refine optW_some hlast ?_
      refine hd _ _ ⟨y, 1, rfl, ?_⟩
      refine hl _ _ ⟨[c.getD i none, dearerO (c.getD (i + 1) none) 1, dearerO y 1], rfl, by simp, ?_⟩
      refine ⟨size_small (by rw [List.length_map, hnl]; omega), hk _ ⟨.sh (.int ((i : Nat) : Int)), .sh (encO (c.getD i none)), .sh (.lst ([c.getD i none, dearerO (c.getD (i + 1) none) 1, dearerO y 1].map encO)), ?_⟩⟩
      rw [lower3', show metO (c.getD i none) ((w.map fun c => [c]).getD i []) s 1 = c.getD i none from if_pos (by rw [hgd, q]; simp), List.map_append (l₁ := r ++ [y])]
      rfl
    · refine iteT (by rw [deq_str, decide_eq_false (by simpa using q)]; rfl) ?_
      refine hd _ _ ⟨c.getD i none, 1, rfl, ?_⟩
      refine optW_some hnext ?_
      refine hd _ _ ⟨c.getD (i + 1) none, 1, rfl, ?_⟩
      refine optW_some hlast ?_
      refine hd _ _ ⟨y, 1, rfl, ?_⟩
      refine hl _ _ ⟨[dearerO (c.getD i none) 1, dearerO (c.getD (i + 1) none) 1, dearerO y 1], rfl, by simp, ?_⟩
      refine ⟨size_small (by rw [List.length_map, hnl]; omega), hk _ ⟨.sh (.int ((i : Nat) : Int)), .sh (encO (dearerO (c.getD i none) 1)), .sh (.lst ([dearerO (c.getD i none) 1, dearerO (c.getD (i + 1) none) 1, dearerO y 1].map encO)), ?_⟩⟩
      rw [lower3', show metO (c.getD i none) ((w.map fun c => [c]).getD i []) s 1 = dearerO (c.getD i none) 1 from if_neg (by rw [hgd]; simpa using q), List.map_append (l₁ := r ++ [y])]
      rfl
  · obtain ⟨g6, g7, g8, rfl⟩ := hI
    have hnl := nextC_len (w.map fun c => [c]) plainPr c none s true (w.map fun c => [c]).length
    have e : ((nextC (w.map fun c => [c]) plainPr c none s true (w.map fun c => [c]).length).filterMap fun o => some (encO (capO m o))) = (bhF (w.map fun c => [c]) m plainPr c s).map encO := by
      unfold bhF capC
      rw [List.filterMap_eq_map', List.map_map]; rfl
    refine compW_fm (xs := nextC (w.map fun c => [c]) plainPr c none s true (w.map fun c => [c]).length) encO (fun o => some (encO (capO m o))) (by omega) (fun x hx kt kf ht hf => ?_) ?_
    · have z := ht _ rfl ([.sh (encP (w.map fun c => [c])), .sh (encCol c), .sh (.str [s]), .sh (.int m), .sh (.lst ((nextC (w.map fun c => [c]) plainPr c none s true (w.map fun c => [c]).length).map encO)), g6, g7, g8, .sh (encO x)]) rfl
      cases x with
      | none => exact z
      | some i =>
        refine ite2 (fun q => ?_) (fun q => ?_)
        · have q' : i ≤ m := of_decide_eq_true q
          rw [show capO m (some i) = some i from if_pos q'] at z
          exact z
        · have q' : ¬ i ≤ m := fun w => q (decide_eq_true w)
          rw [show capO m (some i) = none from if_neg q'] at z
          exact z
    · rw [e]
      exact h
theorem len_lnext34 : ∀ as K, con_lnext34 as K → as.length = 4 := by rintro as K ⟨_, _, _, _, rfl, _⟩; rfl
end Nf
/-! k11 -/
namespace Nf
open PySem PySem.Spec L2
structure Lay (n : Nat) (d : D) : Prop where
  lay : PySem.PyData.canLay0 (toPy d) = true
  dep : PySem.PyData.depth (toPy d) ≤ n
theorem lay_all {n : Nat} : ∀ {xs : List D}, (∀ x ∈ xs, Lay n x) → PySem.PyData.canLayAll0 (toPyL xs) = true ∧ PySem.PyData.depthAll (toPyL xs) ≤ n
  | [], _ => ⟨by simp [toPyL, PySem.PyData.canLayAll0], by simp [toPyL, PySem.PyData.depthAll]⟩
  | x :: xs, h => by
    obtain ⟨h1, h2⟩ := lay_all (xs := xs) fun y hy => h y (List.mem_cons_of_mem _ hy)
    obtain ⟨h3, h4⟩ := h x List.mem_cons_self
    refine ⟨by simp [toPyL, PySem.PyData.canLayAll0, h1, h3], ?_⟩
    simp only [toPyL, PySem.PyData.depthAll]
    omega
theorem lay_tup {n : Nat} {xs : List D} (h : ∀ x ∈ xs, Lay n x) : Lay (n + 1) (.tup xs) := by
  obtain ⟨h1, h2⟩ := lay_all h
  refine ⟨by simp [toPy, PySem.PyData.canLay0, h1], ?_⟩
  simp only [toPy, PySem.PyData.depth]
  omega
theorem lay_lst {n : Nat} {xs : List D} (h : ∀ x ∈ xs, Lay n x) : Lay (n + 1) (.lst xs) := by
  obtain ⟨h1, h2⟩ := lay_all h
  refine ⟨by simp [toPy, PySem.PyData.canLay0, h1], ?_⟩
  simp only [toPy, PySem.PyData.depth]
  omega
theorem lay_o (o : Option Int) : Lay 0 (encO o) := by
  cases o with
  | none => exact ⟨rfl, by simp [encO, toPy, PySem.PyData.depth]⟩
  | some i => exact ⟨rfl, by simp [encO, toPy, PySem.PyData.depth]⟩
theorem lay_ok {n : Nat} {d : D} (h : Lay n d) (hn : n ≤ 64) : eqOk d = true := by
  show ((PySem.PyData.canLay0 (toPy d)) && decide (PySem.PyData.depth (toPy d) ≤ 64)) = true
  have := h.dep
  simp only [h.lay, Bool.true_and, decide_eq_true_eq]
  omega
theorem lay_map {α : Type} {n : Nat} (f : α → D) (l : List α) (h : ∀ x, Lay n (f x)) : ∀ y ∈ l.map f, Lay n y := fun y hy => by
  obtain ⟨x, _, rfl⟩ := List.mem_map.mp hy
  exact h x
theorem lay_cells (p : List (List Nat)) (t : List Nat) (pr : Pr) (free : Bool) : eqOk (cellsD p t pr free) = true :=
  lay_ok (n := 2) (lay_tup (lay_map _ _ fun c => lay_tup (lay_map _ _ lay_o))) (by omega)
def ir_case11 : Def := ⟨"_law_case", 4, ["_law_script", "_law_at", "_law_most", "_law_far", "_law_cell_here", "_law_pool_here", "_law_pattern_here", "_law_text_here"],
  (.cons (.asg (.name 4) (.call "_law_cell" (.cons (.var 0) (.cons (.var 1) .nil)) [] [])) (.cons (.asg (.name 5) (.call "_law_pool" (.cons (.var 4) .nil) [] [])) (.cons (.asg (.name 6) (.call "_law_pattern" (.cons (.var 5) (.cons (.call "_law_cell" (.cons (.var 0) (.cons (.op .add (.cons (.var 1) (.cons (.cst (.int 1)) .nil))) .nil)) [] []) (.cons (.op .mod (.cons (.op .fdiv (.cons (.var 4) (.cons (.cst (.int 104)) .nil))) (.cons (.op .add (.cons (.var 2) (.cons (.cst (.int 1)) .nil))) .nil))) .nil))) [] [])) (.cons (.asg (.name 7) (.call "_law_text" (.cons (.var 5) (.cons (.call "_law_cell" (.cons (.var 0) (.cons (.op .add (.cons (.var 1) (.cons (.cst (.int 2)) .nil))) .nil)) [] []) (.cons (.op .mod (.cons (.op .fdiv (.cons (.op .fdiv (.cons (.var 4) (.cons (.cst (.int 104)) .nil))) (.cons (.op .add (.cons (.var 2) (.cons (.cst (.int 1)) .nil))) .nil))) (.cons (.op .add (.cons (.var 3) (.cons (.cst (.int 1)) .nil))) .nil))) .nil))) [] [])) (.cons (.ret (.lst (.cons (.var 6) (.cons (.var 7) (.cons (.call "_law_prices" (.cons (.call "_law_cell" (.cons (.var 0) (.cons (.op .add (.cons (.var 1) (.cons (.cst (.int 3)) .nil))) .nil)) [] []) .nil) [] []) .nil))))) .nil)))))⟩

def con_case11 : Con := fun as K => ∃ (ns : List Int) (m f : Nat), as = [.sh (encS ns), .sh (.int 0), .sh (.int ((m : Nat) : Int)), .sh (.int ((f : Nat) : Int))] ∧ m ≤ 900 ∧ f ≤ 9000 ∧ ∀ p t pr, CaseOk p t pr m f → K (.ret (.t (.lst [encP p, .str t, encPr pr])) [])
theorem ok_case11 (Γ : String → Con) (gc : String → Option D) (h1 : Has Γ "_law_cell" con_cell) (h2 : Has Γ "_law_pool" con_pool) (h3 : Has Γ "_law_pattern" con_pattern) (h4 : Has Γ "_law_text" con_text) (h5 : Has Γ "_law_prices" con_prices) : DefOk Γ gc ir_case11 con_case11 := by
  rintro as K ⟨ns, m, f, rfl, hm, hf2, h⟩
  refine h1 _ _ ⟨ns, 0, rfl, by decide, ?_⟩
  refine h2 _ _ ⟨_, rfl, ?_⟩
  have hp := poolV_len (cellV ns 0)
  have hf := fewV_in (cellV ns 0)
  have hpi := poolV_in (cellV ns 0)
  generalize poolV (cellV ns 0) = pool at hp hpi
  generalize cellV ns 0 = c at hp hf
  refine h1 _ _ ⟨ns, 1, rfl, by decide, ?_⟩
  obtain ⟨n1, e1, l1⟩ := nat_mod (c / 104) (m := (m : Int)) (by omega)
  obtain ⟨n2, e2, l2⟩ := nat_mod (c / 104 / ((m : Int) + 1)) (m := (f : Int)) (by omega)
  refine ⟨⟨by decide, by decide⟩, by show (0 : Int) < m + 1; omega, ?_⟩
  refine h3 _ _ ⟨pool, cellV ns 1, n1, by rw [← e1], by omega, by omega, hpi, by omega, fun q hq hok => ?_⟩
  refine h1 _ _ ⟨ns, 2, rfl, by decide, ?_⟩
  have hlog : (((m : Nat) : Int) + 1).natAbs.log2 < 9000 := Nat.lt_of_le_of_lt (Nat.log2_le_self _) (by omega)
  refine ⟨⟨by decide, by decide⟩, ⟨by omega, hlog⟩, by show (0 : Int) < f + 1; omega, ?_⟩
  refine h4 _ _ ⟨pool, cellV ns 2, n2, by rw [← e2], by omega, by omega, by omega, ?_⟩
  refine h1 _ _ ⟨ns, 3, rfl, by decide, ?_⟩
  refine h5 _ _ ⟨cellV ns 3, rfl, fun pr hpr => ?_⟩
  exact h q _ pr ⟨hok, by omega, by rw [textV_len]; omega, fun c hc => hpi c (textV_in (by omega) c hc), hpr⟩
theorem len_case11 : ∀ as K, con_case11 as K → as.length = 4 := by rintro as K ⟨_, _, _, rfl, _⟩; rfl

/-! the law's own cell -/
section
variable (p : List (List Nat)) (t : List Nat) (pr : Pr) (free : Bool) (a i : Nat)
def lackL : List (Option Int) := if 0 < a then [dearerO (dp p t pr free i (a - 1)) pr.lack] else []
def insL : List (Option Int) := if 0 < i then [dearerO (dp p t pr free (i - 1) a) pr.ins] else []
def acrL : List (Option Int) := if 0 < a ∧ 0 < i then [metO (dp p t pr free (i - 1) (a - 1)) (p.getD (a - 1) []) (t.getD (i - 1) 0) pr.exch] else []
def turL : List (Option Int) := if (1 < a ∧ 1 < i) ∧ t.getD (i - 2) 0 ∈ p.getD (a - 1) [] ∧ t.getD (i - 1) 0 ∈ p.getD (a - 2) [] then [dearerO (dp p t pr free (i - 2) (a - 2)) pr.turn] else []
end
theorem cell_law {p : List (List Nat)} {t : List Nat} {pr : Pr} {free : Bool} {a i : Nat} (ha : a ≤ p.length) (h : 0 < a ∨ (0 < i ∧ free = false)) : leastO (lackL p t pr free a i ++ (insL p t pr free a i ++ (acrL p t pr free a i ++ turL p t pr free a i))) = dp p t pr free i a := by
  unfold lackL insL acrL turL
  cases a with
  | zero =>
    cases i with
    | zero => omega
    | succ i =>
      have hf : free = false := by
        rcases h with z | z
        · omega
        · exact z.2
      subst hf
      simp [leastO, lower_none, dp_s0]
  | succ k =>
    cases i with
    | zero =>
      rw [dp_0s (by omega), if_pos (by omega), if_neg (by omega), if_neg (by omega), if_neg (by omega)]
      simp [leastO, lower_none]
    | succ j =>
      rw [dp_ss (by omega), if_pos (by omega), if_pos (by omega), if_pos (by omega)]
      rw [show k + 1 - 1 = k by omega, show j + 1 - 1 = j by omega]
      generalize metO (dp p t pr free j k) (p.getD k []) (t.getD j 0) pr.exch = x
      generalize dearerO (dp p t pr free j (k + 1)) pr.ins = y
      generalize dearerO (dp p t pr free (j + 1) k) pr.lack = z
      have base : leastO ([z] ++ ([y] ++ ([x] ++ []))) = lowerO (lowerO x y) z := by
        simp only [leastO, List.append_nil, List.cons_append, List.nil_append, lower_none]
        ac_rfl
      cases j with
      | zero =>
        rw [if_neg (by omega)]
        exact base
      | succ j =>
        cases k with
        | zero =>
          rw [if_neg (by omega)]
          exact base
        | succ k =>
          show _ = if t.getD (j + 1) 0 ∈ p.getD k [] ∧ t.getD j 0 ∈ p.getD (k + 1) [] then lowerO (lowerO (lowerO x y) z) (dearerO (dp p t pr free j k) pr.turn) else lowerO (lowerO x y) z
          rw [show j + 1 + 1 - 2 = j by omega, show k + 1 + 1 - 2 = k by omega]
          by_cases e : t.getD (j + 1) 0 ∈ p.getD k [] ∧ t.getD j 0 ∈ p.getD (k + 1) []
          · rw [if_pos e, if_pos ⟨⟨by omega, by omega⟩, e.2, e.1⟩]
            generalize dearerO (dp p t pr free j k) pr.turn = u
            simp only [leastO, List.cons_append, List.nil_append, lower_none]
            ac_rfl
          · rw [if_neg e, if_neg fun w => e ⟨w.2.2, w.2.1⟩]
            exact base
def ir_due11 : Def := ⟨"_law_due", 6, ["_law_pattern_here", "_law_text_here", "_law_prices_here", "_law_cells", "_law_at", "_law_place", "_law_some", "_law_across"],
  (.cons (.asg (.name 6) (.lst .nil)) (.cons (.iff (.cmp .gt (.cons (.var 4) (.cons (.cst (.int 0)) .nil))) (.cons (.append 6 (.call "_law_dearer" (.cons (.op .idx (.cons (.op .idx (.cons (.var 3) (.cons (.op .sub (.cons (.var 4) (.cons (.cst (.int 1)) .nil))) .nil))) (.cons (.var 5) .nil))) (.cons (.op .idx (.cons (.var 2) (.cons (.cst (.int 1)) .nil))) .nil)) [] [])) .nil) .nil) (.cons (.iff (.cmp .gt (.cons (.var 5) (.cons (.cst (.int 0)) .nil))) (.cons (.append 6 (.call "_law_dearer" (.cons (.op .idx (.cons (.op .idx (.cons (.var 3) (.cons (.var 4) .nil))) (.cons (.op .sub (.cons (.var 5) (.cons (.cst (.int 1)) .nil))) .nil))) (.cons (.op .idx (.cons (.var 2) (.cons (.cst (.int 0)) .nil))) .nil)) [] [])) .nil) .nil) (.cons (.iff (.andv (.cons (.cmp .gt (.cons (.var 4) (.cons (.cst (.int 0)) .nil))) (.cons (.cmp .gt (.cons (.var 5) (.cons (.cst (.int 0)) .nil))) .nil))) (.cons (.asg (.name 7) (.op .idx (.cons (.op .idx (.cons (.var 3) (.cons (.op .sub (.cons (.var 4) (.cons (.cst (.int 1)) .nil))) .nil))) (.cons (.op .sub (.cons (.var 5) (.cons (.cst (.int 1)) .nil))) .nil)))) (.cons (.iff (.cmp .notin (.cons (.op .idx (.cons (.var 1) (.cons (.op .sub (.cons (.var 5) (.cons (.cst (.int 1)) .nil))) .nil))) (.cons (.op .idx (.cons (.var 0) (.cons (.op .sub (.cons (.var 4) (.cons (.cst (.int 1)) .nil))) .nil))) .nil))) (.cons (.asg (.name 7) (.call "_law_dearer" (.cons (.var 7) (.cons (.op .idx (.cons (.var 2) (.cons (.cst (.int 2)) .nil))) .nil)) [] [])) .nil) .nil) (.cons (.append 6 (.var 7)) .nil))) .nil) (.cons (.iff (.andv (.cons (.cmp .gt (.cons (.var 4) (.cons (.cst (.int 1)) .nil))) (.cons (.cmp .gt (.cons (.var 5) (.cons (.cst (.int 1)) .nil))) (.cons (.cmp .inn (.cons (.op .idx (.cons (.var 1) (.cons (.op .sub (.cons (.var 5) (.cons (.cst (.int 2)) .nil))) .nil))) (.cons (.op .idx (.cons (.var 0) (.cons (.op .sub (.cons (.var 4) (.cons (.cst (.int 1)) .nil))) .nil))) .nil))) (.cons (.cmp .inn (.cons (.op .idx (.cons (.var 1) (.cons (.op .sub (.cons (.var 5) (.cons (.cst (.int 1)) .nil))) .nil))) (.cons (.op .idx (.cons (.var 0) (.cons (.op .sub (.cons (.var 4) (.cons (.cst (.int 2)) .nil))) .nil))) .nil))) .nil))))) (.cons (.append 6 (.call "_law_dearer" (.cons (.op .idx (.cons (.op .idx (.cons (.var 3) (.cons (.op .sub (.cons (.var 4) (.cons (.cst (.int 2)) .nil))) .nil))) (.cons (.op .sub (.cons (.var 5) (.cons (.cst (.int 2)) .nil))) .nil))) (.cons (.op .idx (.cons (.var 2) (.cons (.cst (.int 3)) .nil))) .nil)) [] [])) .nil) .nil) (.cons (.ret (.call "_law_least" (.cons (.var 6) .nil) [] [])) .nil))))))⟩

def con_due11 : Con := fun as K => ∃ p t pr free a i, as = [.sh (encP p), .sh (.str t), .sh (encPr pr), .sh (cellsD p t pr free), .sh (.int ((a : Nat) : Int)), .sh (.int ((i : Nat) : Int))] ∧ p.length ≤ 1000 ∧ t.length ≤ 10000 ∧ a ≤ p.length ∧ i ≤ t.length ∧ (0 < a ∨ (0 < i ∧ free = false)) ∧
  K (.ret (.v (encO (dp p t pr free i a))) [])
section
variable {Γ : String → Con} {gc : String → Option D} {K : Out → Prop} {p : List (List Nat)} {t : List Nat} {pr : Pr} {free : Bool} {a i : Nat}
abbrev P1 (Γ : String → Con) (gc : String → Option D) (K : Out → Prop) : Prm := ⟨Γ, gc, [], fun c => K (.exc c)⟩
abbrev fn1 (K : Out → Prop) : Fn := ⟨fun env => finW [] K (.v .non) env, finW [] K⟩
abbrev envD (p : List (List Nat)) (t : List Nat) (pr : Pr) (free : Bool) (a i : Nat) (l : List (Option Int)) (x : Slot) : Ev := [.sh (encP p), .sh (.str t), .sh (encPr pr), .sh (cellsD p t pr free), .sh (.int ((a : Nat) : Int)), .sh (.int ((i : Nat) : Int)), .ow (.lst (l.map encO)), x]
theorem due_5 (hl : Has Γ "_law_least" con_least) {l : List (Option Int)} {x : Slot} (hz : l.length ≤ 10) (he : leastO l = dp p t pr free i a) (h : K (.ret (.v (encO (dp p t pr free i a))) [])) :
    wpSs (P1 Γ gc K) (ssTl 5 ir_due11.body) (envD p t pr free a i l x) (fn1 K) := by
  refine hl _ _ ⟨l, rfl, by omega, ?_⟩
  rw [he]
  exact h
theorem due_4 (hl : Has Γ "_law_least" con_least) (hd : Has Γ "_law_dearer" con_dearer) {l : List (Option Int)} {x : Slot} (hz : l.length ≤ 9) (hp : p.length ≤ 1000) (ht : t.length ≤ 10000) (ha : a ≤ p.length) (hi : i ≤ t.length) (he : leastO (l ++ turL p t pr free a i) = dp p t pr free i a) (h : K (.ret (.v (encO (dp p t pr free i a))) [])) :
    wpSs (P1 Γ gc K) (ssTl 4 ir_due11.body) (envD p t pr free a i l x) (fn1 K) := by
  have no : ¬ ((1 < a ∧ 1 < i) ∧ t.getD (i - 2) 0 ∈ p.getD (a - 1) [] ∧ t.getD (i - 1) 0 ∈ p.getD (a - 2) []) → wpSs (P1 Γ gc K) (ssTl 5 ir_due11.body) (envD p t pr free a i l x) (fn1 K) := fun n => by
    refine due_5 hl (by omega) ?_ h
    rw [← he]; unfold turL; rw [if_neg n, List.append_nil]
  refine ite2 (fun c1 => ?_) fun c1 => ?_
  · have c1' : (1 : Int) < ((a : Nat) : Int) := of_decide_eq_true c1
    refine ite2 (fun c2 => ?_) fun c2 => ?_
    · have c2' : (1 : Int) < ((i : Nat) : Int) := of_decide_eq_true c2
      have z1 : ((i : Nat) : Int) - 2 = ((i - 2 : Nat) : Int) := by omega
      have z2 : ((a : Nat) : Int) - 1 = ((a - 1 : Nat) : Int) := by omega
      have z3 : ((i : Nat) : Int) - 1 = ((i - 1 : Nat) : Int) := by omega
      have z4 : ((a : Nat) : Int) - 2 = ((a - 2 : Nat) : Int) := by omega
      refine ⟨size_le (by omega), optW_some (a := t.getD (i - 2) 0) (by rw [z1]; exact getT (by omega)) ?_⟩
      refine optW_some (a := .str (p.getD (a - 1) [])) (by rw [z2]; exact getP (by omega)) ?_
      refine ite2 (fun c3 => ?_) fun c3 => ?_
      · refine ⟨size_le (by omega), optW_some (a := t.getD (i - 1) 0) (by rw [z3]; exact getT (by omega)) ?_⟩
        refine optW_some (a := .str (p.getD (a - 2) [])) (by rw [z4]; exact getP (by omega)) ?_
        refine ite2 (fun c4 => ?_) fun c4 => ?_
        · refine optW_some (a := encCol (rowV p t pr free (a - 2))) (by rw [z4]; exact cells_at (by omega)) ?_
          refine optW_some (a := encO (dp p t pr free (i - 2) (a - 2))) (by rw [z1]; exact row_at (by omega)) ?_
          refine hd _ _ ⟨_, _, rfl, ?_⟩
          refine ⟨size_small (by simp; omega), ?_⟩
          have := due_5 (gc := gc) (K := K) (x := x) (l := l ++ [dearerO (dp p t pr free (i - 2) (a - 2)) pr.turn]) hl (by simp; omega) (by rw [← he]; unfold turL; rw [if_pos ⟨⟨by omega, by omega⟩, of_decide_eq_true c3, of_decide_eq_true c4⟩]) h
          unfold envD at this
          rw [List.map_append] at this
          exact this
        · exact no fun q => c4 (decide_eq_true q.2.2)
      · exact no fun q => c3 (decide_eq_true q.2.1)
    · exact no fun q => c2 (decide_eq_true (by omega))
  · exact no fun q => c1 (decide_eq_true (by omega))
theorem due_3 (hl : Has Γ "_law_least" con_least) (hd : Has Γ "_law_dearer" con_dearer) {l : List (Option Int)} (hz : l.length ≤ 8) (hp : p.length ≤ 1000) (ht : t.length ≤ 10000) (ha : a ≤ p.length) (hi : i ≤ t.length) (he : leastO (l ++ (acrL p t pr free a i ++ turL p t pr free a i)) = dp p t pr free i a) (h : K (.ret (.v (encO (dp p t pr free i a))) [])) :
    wpSs (P1 Γ gc K) (ssTl 3 ir_due11.body) (envD p t pr free a i l .no) (fn1 K) := by
  have no : ¬ (0 < a ∧ 0 < i) → wpSs (P1 Γ gc K) (ssTl 4 ir_due11.body) (envD p t pr free a i l .no) (fn1 K) := fun n => by
    refine due_4 hl hd (by omega) hp ht ha hi ?_ h
    rw [← he]; unfold acrL; rw [if_neg n, List.nil_append]
  refine ite2 (fun c1 => ?_) fun c1 => ?_
  · have c1' : (0 : Int) < ((a : Nat) : Int) := of_decide_eq_true c1
    refine ite2 (fun c2 => ?_) fun c2 => ?_
    · have c2' : (0 : Int) < ((i : Nat) : Int) := of_decide_eq_true c2
      have z2 : ((a : Nat) : Int) - 1 = ((a - 1 : Nat) : Int) := by omega
      have z3 : ((i : Nat) : Int) - 1 = ((i - 1 : Nat) : Int) := by omega
      have fin : wpSs (P1 Γ gc K) (ssTl 4 ir_due11.body) (envD p t pr free a i (l ++ [metO (dp p t pr free (i - 1) (a - 1)) (p.getD (a - 1) []) (t.getD (i - 1) 0) pr.exch]) (.sh (encO (metO (dp p t pr free (i - 1) (a - 1)) (p.getD (a - 1) []) (t.getD (i - 1) 0) pr.exch)))) (fn1 K) := by
        refine due_4 hl hd (by simp; omega) hp ht ha hi ?_ h
        rw [← he]; unfold acrL; rw [if_pos ⟨by omega, by omega⟩, List.append_assoc]
      unfold envD at fin
      rw [List.map_append] at fin
      refine optW_some (a := encCol (rowV p t pr free (a - 1))) (by rw [z2]; exact cells_at (by omega)) ?_
      refine optW_some (a := encO (dp p t pr free (i - 1) (a - 1))) (by rw [z3]; exact row_at (by omega)) ?_
      refine ⟨size_le (by omega), optW_some (a := t.getD (i - 1) 0) (by rw [z3]; exact getT (by omega)) ?_⟩
      refine optW_some (a := .str (p.getD (a - 1) [])) (by rw [z2]; exact getP (by omega)) ?_
      refine ite2 (fun e3 => ?_) fun e3 => ?_
      · have hm : ¬ t.getD (i - 1) 0 ∈ p.getD (a - 1) [] := by simpa using e3
        have em : metO (dp p t pr free (i - 1) (a - 1)) (p.getD (a - 1) []) (t.getD (i - 1) 0) pr.exch = dearerO (dp p t pr free (i - 1) (a - 1)) pr.exch := if_neg hm
        rw [em] at fin
        refine hd _ _ ⟨_, _, rfl, ?_⟩
        exact ⟨size_small (by simp; omega), fin⟩
      · have hm : t.getD (i - 1) 0 ∈ p.getD (a - 1) [] := by simpa using e3
        have em : metO (dp p t pr free (i - 1) (a - 1)) (p.getD (a - 1) []) (t.getD (i - 1) 0) pr.exch = dp p t pr free (i - 1) (a - 1) := if_pos hm
        rw [em] at fin
        exact ⟨size_small (by simp; omega), fin⟩
    · exact no fun q => c2 (decide_eq_true (by omega))
  · exact no fun q => c1 (decide_eq_true (by omega))
theorem due_2 (hl : Has Γ "_law_least" con_least) (hd : Has Γ "_law_dearer" con_dearer) {l : List (Option Int)} (hz : l.length ≤ 7) (hp : p.length ≤ 1000) (ht : t.length ≤ 10000) (ha : a ≤ p.length) (hi : i ≤ t.length) (he : leastO (l ++ (insL p t pr free a i ++ (acrL p t pr free a i ++ turL p t pr free a i))) = dp p t pr free i a) (h : K (.ret (.v (encO (dp p t pr free i a))) [])) :
    wpSs (P1 Γ gc K) (ssTl 2 ir_due11.body) (envD p t pr free a i l .no) (fn1 K) := by
  refine ite2 (fun c2 => ?_) fun c2 => ?_
  · have c2' : (0 : Int) < ((i : Nat) : Int) := of_decide_eq_true c2
    have z3 : ((i : Nat) : Int) - 1 = ((i - 1 : Nat) : Int) := by omega
    have fin := due_3 (gc := gc) (K := K) (l := l ++ [dearerO (dp p t pr free (i - 1) a) pr.ins]) hl hd (by simp; omega) hp ht ha hi (by rw [← he]; unfold insL; rw [if_pos (by omega), List.append_assoc]) h
    unfold envD at fin
    rw [List.map_append] at fin
    refine optW_some (a := encCol (rowV p t pr free a)) (cells_at (by omega)) ?_
    refine optW_some (a := encO (dp p t pr free (i - 1) a)) (by rw [z3]; exact row_at (by omega)) ?_
    refine hd _ _ ⟨_, _, rfl, ?_⟩
    exact ⟨size_small (by simp; omega), fin⟩
  · refine due_3 hl hd (by omega) hp ht ha hi ?_ h
    rw [← he]; unfold insL; rw [if_neg (fun q => c2 (decide_eq_true (by omega))), List.nil_append]
theorem due_1 (hl : Has Γ "_law_least" con_least) (hd : Has Γ "_law_dearer" con_dearer) (hp : p.length ≤ 1000) (ht : t.length ≤ 10000) (ha : a ≤ p.length) (hi : i ≤ t.length) (he : leastO (lackL p t pr free a i ++ (insL p t pr free a i ++ (acrL p t pr free a i ++ turL p t pr free a i))) = dp p t pr free i a) (h : K (.ret (.v (encO (dp p t pr free i a))) [])) :
    wpSs (P1 Γ gc K) (ssTl 1 ir_due11.body) (envD p t pr free a i [] .no) (fn1 K) := by
  refine ite2 (fun c2 => ?_) fun c2 => ?_
  · have c2' : (0 : Int) < ((a : Nat) : Int) := of_decide_eq_true c2
    have z2 : ((a : Nat) : Int) - 1 = ((a - 1 : Nat) : Int) := by omega
    have fin := due_2 (gc := gc) (K := K) (l := [dearerO (dp p t pr free i (a - 1)) pr.lack]) hl hd (by simp) hp ht ha hi (by rw [← he]; unfold lackL; rw [if_pos (by omega)]) h
    refine optW_some (a := encCol (rowV p t pr free (a - 1))) (by rw [z2]; exact cells_at (by omega)) ?_
    refine optW_some (a := encO (dp p t pr free i (a - 1))) (row_at (by omega)) ?_
    refine hd _ _ ⟨_, _, rfl, ?_⟩
    exact ⟨size_small (by simp), fin⟩
  · refine due_2 hl hd (by simp) hp ht ha hi ?_ h
    rw [← he]; unfold lackL; rw [if_neg (fun q => c2 (decide_eq_true (by omega)))]
end
theorem ok_due11 (Γ : String → Con) (gc : String → Option D) (hd : Has Γ "_law_dearer" con_dearer) (hl : Has Γ "_law_least" con_least) : DefOk Γ gc ir_due11 con_due11 := by
  rintro as K ⟨p, t, pr, free, a, i, rfl, hp, ht, ha, hi, hx, h⟩
  exact due_1 hl hd hp ht ha hi (cell_law ha hx) h
theorem len_due11 : ∀ as K, con_due11 as K → as.length = 6 := by rintro as K ⟨_, _, _, _, _, _, rfl, _⟩; rfl
def ir_is11 : Def := ⟨"_law_is", 2, ["_law_found", "_law_due_here"],
  (.cons (.iff (.cmp .is (.cons (.var 1) (.cons (.cst .non) .nil))) (.cons (.ret (.op .is (.cons (.var 0) (.cons (.cst .non) .nil)))) .nil) .nil) (.cons (.ret (.andv (.cons (.op (.isi .int) (.cons (.var 0) .nil)) (.cons (.notv (.op (.isi .bool) (.cons (.var 0) .nil))) (.cons (.op .eq (.cons (.var 0) (.cons (.var 1) .nil))) .nil))))) .nil))⟩

def con_is11 : Con := fun as K => ∃ o, as = [.sh (encO o), .sh (encO o)] ∧ K (.ret (.v (.bl true)) [])
theorem ok_is11 (Γ : String → Con) (gc : String → Option D) : DefOk Γ gc ir_is11 con_is11 := by
  rintro as K ⟨o, rfl, h⟩
  cases o with
  | none => exact h
  | some i =>
    refine ⟨rfl, rfl, ?_⟩
    have e : deq (encO (some i)) (encO (some i)) = true := by show deq (.int i) (.int i) = true; rw [deq_int]; simp
    rw [e]
    exact h
theorem len_is11 : ∀ as K, con_is11 as K → as.length = 2 := by rintro as K ⟨_, rfl, _⟩; rfl
def ir_right11 : Def := ⟨"_law_right", 5, ["_law_found", "_law_pattern_here", "_law_text_here", "_law_prices_here", "_law_begins", "_law_at", "_law_place", "_law_due_here"],
  (.cons (.iff (.orv (.cons (.notv (.ex (.op (.isi .tuple) (.cons (.var 0) .nil)))) (.cons (.cmp .ne (.cons (.op .len (.cons (.var 0) .nil)) (.cons (.op .add (.cons (.op .len (.cons (.var 1) .nil)) (.cons (.cst (.int 1)) .nil))) .nil))) .nil))) (.cons (.ret (.cst (.bl false))) .nil) .nil) (.cons (.loop (.name 5) (.range (.cons (.op .add (.cons (.op .len (.cons (.var 1) .nil)) (.cons (.cst (.int 1)) .nil))) .nil)) (.cons (.iff (.orv (.cons (.notv (.ex (.op (.isi .tuple) (.cons (.op .idx (.cons (.var 0) (.cons (.var 5) .nil))) .nil)))) (.cons (.cmp .ne (.cons (.op .len (.cons (.op .idx (.cons (.var 0) (.cons (.var 5) .nil))) .nil)) (.cons (.op .add (.cons (.op .len (.cons (.var 2) .nil)) (.cons (.cst (.int 1)) .nil))) .nil))) .nil))) (.cons (.ret (.cst (.bl false))) .nil) .nil) (.cons (.loop (.name 6) (.range (.cons (.op .add (.cons (.op .len (.cons (.var 2) .nil)) (.cons (.cst (.int 1)) .nil))) .nil)) (.cons (.asg (.name 7) (.cst (.int 0))) (.cons (.iff (.orv (.cons (.cmp .gt (.cons (.var 5) (.cons (.cst (.int 0)) .nil))) (.cons (.andv (.cons (.cmp .gt (.cons (.var 6) (.cons (.cst (.int 0)) .nil))) (.cons (.notv (.ex (.var 4))) .nil))) .nil))) (.cons (.asg (.name 7) (.call "_law_due" (.cons (.var 1) (.cons (.var 2) (.cons (.var 3) (.cons (.var 0) (.cons (.var 5) (.cons (.var 6) .nil)))))) [] [])) .nil) .nil) (.cons (.iff (.notv (.ex (.call "_law_is" (.cons (.op .idx (.cons (.op .idx (.cons (.var 0) (.cons (.var 5) .nil))) (.cons (.var 6) .nil))) (.cons (.var 7) .nil)) [] []))) (.cons (.ret (.cst (.bl false))) .nil) .nil) .nil)))) .nil))) (.cons (.ret (.cst (.bl true))) .nil)))⟩

def con_right11 : Con := fun as K => ∃ p t pr free, as = [.sh (cellsD p t pr free), .sh (encP p), .sh (.str t), .sh (encPr pr), .sh (.bl free)] ∧ p.length ≤ 1000 ∧ t.length ≤ 10000 ∧ K (.ret (.v (.bl true)) [])
theorem ok_right11 (Γ : String → Con) (gc : String → Option D) (h1 : Has Γ "_law_due" con_due11) (h2 : Has Γ "_law_is" con_is11) : DefOk Γ gc ir_right11 con_right11 := by
  rintro as K ⟨p, t, pr, free, rfl, hp, ht, h⟩
  have lp : (p.map D.str).length = p.length := List.length_map _
  have lc : ((cellsV p t pr free).map encCol).length = p.length + 1 := by rw [List.length_map, cellsV_len]
  have q1 : (!deq (.int ((((cellsV p t pr free).map encCol).length : Nat) : Int)) (.int ((((p.map D.str).length : Nat) : Int) + 1))) = false := by rw [lc, lp, deq_int]; simp
  refine ⟨rfl, rfl, iteF q1 ?_⟩
  refine ⟨⟨by omega, by omega⟩, ?_⟩
  have e0 : ((((p.map D.str).length : Nat) : Int) + 1).toNat = p.length + 1 := by rw [lp]; omega
  refine forW_ix0 (n := p.length + 1) (fun i env => ∃ g1 g2 g3, env = [.sh (cellsD p t pr free), .sh (encP p), .sh (.str t), .sh (encPr pr), .sh (.bl free), g1, g2, g3]) (by show rangeD 0 _ = _; rw [e0]) ⟨_, _, _, rfl⟩ (fun a env k ha hI hk => ?_) fun env hI => ?_
  · obtain ⟨g1, g2, g3, rfl⟩ := hI
    refine optW_some (a := encCol (rowV p t pr free a)) (cells_at (by omega)) ?_
    refine optW_some (a := encCol (rowV p t pr free a)) (cells_at (by omega)) ?_
    have q2 : (!deq (.int ((((rowV p t pr free a).map encO).length : Nat) : Int)) (.int (((t.length : Nat) : Int) + 1))) = false := by rw [List.length_map, rowV_len, deq_int]; simp
    refine ⟨size_le (by omega), rfl, rfl, iteF q2 ?_⟩
    refine ⟨size_le (by omega), ⟨by omega, by omega⟩, ?_⟩
    have e1 : (((t.length : Nat) : Int) + 1).toNat = t.length + 1 := by omega
    refine forW_ix0 (n := t.length + 1) (fun i env => ∃ g2 g3, env = [.sh (cellsD p t pr free), .sh (encP p), .sh (.str t), .sh (encPr pr), .sh (.bl free), .sh (.int ((a : Nat) : Int)), g2, g3]) (by show rangeD 0 _ = _; rw [e1]) ⟨_, _, rfl⟩ (fun i env k2 hi hI hk2 => ?_) fun env hI => ?_
    · obtain ⟨g2, g3, rfl⟩ := hI
      refine ite2 (fun c1 => ?_) fun c1 => ?_
      · have c1' : (0 : Int) < ((a : Nat) : Int) := of_decide_eq_true c1
        refine h1 _ _ ⟨p, t, pr, free, a, i, rfl, hp, ht, by omega, by omega, .inl (by omega), ?_⟩
        refine optW_some (a := encCol (rowV p t pr free a)) (cells_at (by omega)) ?_
        refine optW_some (a := encO (dp p t pr free i a)) (row_at (by omega)) ?_
        refine h2 _ _ ⟨dp p t pr free i a, rfl, ?_⟩
        exact hk2 _ ⟨_, _, rfl⟩
      · have a0 : a = 0 := by
          cases a with
          | zero => rfl
          | succ a => exact (c1 (decide_eq_true (by omega))).elim
        subst a0
        refine ite2 (fun c2 => ?_) fun c2 => ?_
        · have c2' : (0 : Int) < ((i : Nat) : Int) := of_decide_eq_true c2
          cases free with
          | false =>
            refine h1 _ _ ⟨p, t, pr, false, 0, i, rfl, hp, ht, by omega, by omega, .inr ⟨by omega, rfl⟩, ?_⟩
            refine optW_some (a := encCol (rowV p t pr false 0)) (cells_at (by omega)) ?_
            refine optW_some (a := encO (dp p t pr false i 0)) (row_at (by omega)) ?_
            refine h2 _ _ ⟨dp p t pr false i 0, rfl, ?_⟩
            exact hk2 _ ⟨_, _, rfl⟩
          | true =>
            have hz : dp p t pr true i 0 = some 0 := by
              cases i with
              | zero => exact dp_00
              | succ i => rw [dp_s0]; rfl
            refine optW_some (a := encCol (rowV p t pr true 0)) (cells_at (by omega)) ?_
            refine optW_some (a := encO (dp p t pr true i 0)) (row_at (by omega)) ?_
            refine h2 _ _ ⟨some 0, by rw [hz]; rfl, ?_⟩
            exact hk2 _ ⟨_, _, rfl⟩
        · have i0 : i = 0 := by
            cases i with
            | zero => rfl
            | succ i => exact (c2 (decide_eq_true (by omega))).elim
          subst i0
          refine optW_some (a := encCol (rowV p t pr free 0)) (cells_at (by omega)) ?_
          refine optW_some (a := encO (dp p t pr free 0 0)) (row_at (by omega)) ?_
          refine h2 _ _ ⟨some 0, by rw [dp_00]; rfl, ?_⟩
          exact hk2 _ ⟨_, _, rfl⟩
    · obtain ⟨g2, g3, rfl⟩ := hI
      exact hk _ ⟨_, _, _, rfl⟩
  · obtain ⟨g1, g2, g3, rfl⟩ := hI
    exact h
theorem len_right11 : ∀ as K, con_right11 as K → as.length = 5 := by rintro as K ⟨_, _, _, _, rfl, _⟩; rfl
def ir_k11_law : Def := ⟨"law", 1, ["_law_script", "_law_number", "_law_most", "_law_pattern_here", "_law_text_here", "_law_prices_here", "_law_plain"],
  (.cons (.asg (.name 1) (.call "_law_cell" (.cons (.var 0) (.cons (.cst (.int 4)) .nil)) [] [])) (.cons (.asg (.name 2) (.op .idx (.cons (.lst (.cons (.cst (.int 40)) (.cons (.cst (.int 10)) (.cons (.cst (.int 10)) (.cons (.cst (.int 10)) .nil))))) (.cons (.op .mod (.cons (.var 1) (.cons (.cst (.int 4)) .nil))) .nil)))) (.cons (.asg (.tup [3, 4, 5]) (.call "_law_case" (.cons (.var 0) (.cons (.cst (.int 0)) (.cons (.var 2) (.cons (.op .fdiv (.cons (.op .mul (.cons (.var 2) (.cons (.cst (.int 3)) .nil))) (.cons (.cst (.int 2)) .nil))) .nil)))) [] [])) (.cons (.iff (.cmp .eq (.cons (.op .mod (.cons (.op .fdiv (.cons (.var 1) (.cons (.cst (.int 4)) .nil))) (.cons (.cst (.int 8)) .nil))) (.cons (.cst (.int 1)) .nil))) (.cons (.asg (.tup [3, 4, 5]) (.call "_law_case" (.cons (.var 0) (.cons (.cst (.int 0)) (.cons (.cst (.int 3)) (.cons (.cst (.int 300)) .nil)))) [] [])) .nil) .nil) (.cons (.asg (.name 6) (.call "cells_of/3" (.cons (.var 3) (.cons (.var 4) (.cons (.var 5) .nil))) [] [])) (.cons (.iff (.notv (.ex (.call "_law_right" (.cons (.var 6) (.cons (.var 3) (.cons (.var 4) (.cons (.var 5) (.cons (.cst (.bl false)) .nil))))) [] []))) (.cons (.ret (.cst (.bl false))) .nil) .nil) (.cons (.iff (.notv (.ex (.call "_law_right" (.cons (.call "cells_of/free" (.cons (.var 3) (.cons (.var 4) (.cons (.var 5) (.cons (.cst (.bl true)) .nil)))) [] []) (.cons (.var 3) (.cons (.var 4) (.cons (.var 5) (.cons (.cst (.bl true)) .nil))))) [] []))) (.cons (.ret (.cst (.bl false))) .nil) .nil) (.cons (.iff (.cmp .ne (.cons (.call "cells_of" (.cons (.var 3) (.cons (.var 4) (.cons (.var 5) (.cons (.cst (.bl false)) .nil)))) [] []) (.cons (.var 6) .nil))) (.cons (.ret (.cst (.bl false))) .nil) .nil) (.cons (.ret (.call "_law_is" (.cons (.call "price_between" (.cons (.var 3) (.cons (.var 4) (.cons (.var 5) .nil))) [] []) (.cons (.op .idx (.cons (.op .idx (.cons (.var 6) (.cons (.op .neg (.cons (.cst (.int 1)) .nil)) .nil))) (.cons (.op .neg (.cons (.cst (.int 1)) .nil)) .nil))) .nil)) [] [])) .nil)))))))))⟩

theorem deq_self2 {d : D} (h : eqOk d = true) : deq d d = true := PySem.SeqAt.eqv_refl _ (SeqAt.canLay_of_shaped h)
theorem cells_last {p : List (List Nat)} {t : List Nat} {pr : Pr} {free : Bool} : atI ((cellsV p t pr free).map encCol) (-1) = some (encCol (rowV p t pr free p.length)) := by
  unfold cellsV
  rw [List.range_succ, List.map_append, List.map_append]
  exact atI_last _ _
theorem row_last {p : List (List Nat)} {t : List Nat} {pr : Pr} {free : Bool} {j : Nat} : atI ((rowV p t pr free j).map encO) (-1) = some (encO (dp p t pr free t.length j)) := by
  unfold rowV
  rw [List.range_succ, List.map_append, List.map_append]
  exact atI_last _ _
theorem price_dp (p : List (List Nat)) (t : List Nat) (pr : Pr) : priceV p t pr = dp p t pr false t.length p.length := by
  unfold priceV dp
  rw [List.getLast?_eq_getElem?, colV_len, List.getD_eq_getElem?_getD]
  rfl
theorem tail11 (Γ : String → Con) (gc : String → Option D) (K : Out → Prop) (h2 : Has Γ "cells_of" con_cells) (h3 : Has Γ "cells_of/3" (conDfl (.bl false) con_cells)) (h4 : Has Γ "cells_of/free" con_cells) (h5 : Has Γ "_law_right" con_right11) (h6 : Has Γ "_law_is" con_is11) (h7 : Has Γ "price_between" con_between)
    {ns : List Int} {c : Int} {g : Slot} {p : List (List Nat)} {t : List Nat} {pr : Pr} {m f : Nat} (ok : CaseOk p t pr m f) (hm : m ≤ 900) (hf : f ≤ 9000) (h : K (.ret (.v (.bl true)) [])) :
    wpSs (P1 Γ gc K) (ssTl 4 ir_k11_law.body) [.sh (encS ns), .sh (.int c), g, .sh (encP p), .sh (.str t), .sh (encPr pr), .no] (fn1 K) := by
  have hp := ok.pl
  have ht := ok.tl
  refine h3 _ _ ⟨fun s hs => ?_, rfl, p, t, pr, false, rfl, by omega, by omega, ?_⟩
  · simp only [List.mem_cons, List.not_mem_nil, or_false] at hs
    rcases hs with rfl | rfl | rfl <;> exact ⟨_, rfl⟩
  refine h5 _ _ ⟨p, t, pr, false, rfl, by omega, by omega, ?_⟩
  refine h4 _ _ ⟨p, t, pr, true, rfl, by omega, by omega, ?_⟩
  refine h5 _ _ ⟨p, t, pr, true, rfl, by omega, by omega, ?_⟩
  refine h2 _ _ ⟨p, t, pr, false, rfl, by omega, by omega, ?_⟩
  refine ⟨lay_cells _ _ _ _, lay_cells _ _ _ _, iteF (by have := deq_self2 (lay_cells p t pr false); simp [this]) ?_⟩
  refine h7 _ _ ⟨p, t, pr, rfl, by omega, by omega, ?_⟩
  refine optW_some cells_last ?_
  refine optW_some row_last ?_
  refine h6 _ _ ⟨priceV p t pr, by rw [price_dp], h⟩
set_option maxHeartbeats 2000000 in
theorem ok_k11_law (Γ : String → Con) (gc : String → Option D) (h0 : Has Γ "_law_cell" con_cell) (h1 : Has Γ "_law_case" con_case11) (h2 : Has Γ "cells_of" con_cells) (h3 : Has Γ "cells_of/3" (conDfl (.bl false) con_cells)) (h4 : Has Γ "cells_of/free" con_cells) (h5 : Has Γ "_law_right" con_right11) (h6 : Has Γ "_law_is" con_is11) (h7 : Has Γ "price_between" con_between) : DefOk Γ gc ir_k11_law (conLaw 63) := by
  rintro as K ⟨ns, rfl, hn, hb, h⟩
  refine h0 _ _ ⟨ns, 4, rfl, by decide, ?_⟩
  generalize cellV ns 4 = c
  have rest : ∀ (g : Slot) p t pr (m f : Nat), CaseOk p t pr m f → m ≤ 900 → f ≤ 9000 → wpSs (P1 Γ gc K) (ssTl 3 ir_k11_law.body) [.sh (encS ns), .sh (.int c), g, .sh (encP p), .sh (.str t), .sh (encPr pr), .no] (fn1 K) := by
    intro g p t pr m f ok hm hf
    refine ⟨⟨by decide, by decide⟩, (by decide : (0 : Int) < 8), ?_⟩
    refine ⟨rfl, rfl, ite2 (fun e => ?_) fun e => ?_⟩
    · refine h1 _ _ ⟨ns, 3, 300, rfl, by omega, by omega, fun p t pr ok => ?_⟩
      exact tail11 Γ gc K h2 h3 h4 h5 h6 h7 ok (by omega) (by omega) h
    · exact tail11 Γ gc K h2 h3 h4 h5 h6 h7 ok hm hf h
  refine ⟨(by decide : (0 : Int) < 4), ?_⟩
  obtain ⟨m, em, hm⟩ := four_pick (n := c) (a := 40) (b := 10) (c := 10) (d := 10) (P := fun i => i = 40 ∨ i = 10) (.inl rfl) (.inr rfl) (.inr rfl) (.inr rfl)
  refine optW_some em ?_
  rcases hm with rfl | rfl
  · refine ⟨mulR (by decide) (by decide), ⟨by decide, by decide⟩, ?_⟩
    refine h1 _ _ ⟨ns, 40, 60, rfl, by omega, by omega, fun p t pr ok => ?_⟩
    exact rest _ p t pr 40 60 ok (by omega) (by omega)
  · refine ⟨mulR (by decide) (by decide), ⟨by decide, by decide⟩, ?_⟩
    refine h1 _ _ ⟨ns, 10, 15, rfl, by omega, by omega, fun p t pr ok => ?_⟩
    exact rest _ p t pr 10 15 ok (by omega) (by omega)
end Nf
/-! k34: the law -/
namespace Nf
open PySem PySem.Spec L2
def ir_many34 : Def := ⟨"_law_many", 3, ["_law_pattern_here", "_law_most", "_law_signs", "_law_first", "_law_at", "_law_columns", "_law_row", "_law_sign", "_law_column"],
  (.cons (.asg (.name 3) (.op .tuple1 (.cons (.comp (.ite (.cmp .le (.cons (.var 4) (.cons (.var 1) .nil))) (.var 4) (.cst .non)) (.name 4) (.range (.cons (.op .add (.cons (.op .len (.cons (.var 0) .nil)) (.cons (.cst (.int 1)) .nil))) .nil)) .no [4]) .nil))) (.cons (.asg (.name 5) (.dt1 (.var 3) (.bl true))) (.cons (.asg (.name 6) (.lst (.cons (.var 3) .nil))) (.cons (.asg (.name 4) (.cst (.int 0))) (.cons (.whl (.andv (.cons (.cmp .lt (.cons (.var 4) (.cons (.op .len (.cons (.var 6) .nil)) .nil))) (.cons (.cmp .le (.cons (.op .len (.cons (.var 6) .nil)) (.cons (.cst (.int 300)) .nil))) .nil))) (.cons (.loop (.name 7) (.ex (.var 2)) (.cons (.asg (.name 8) (.call "_law_next" (.cons (.var 0) (.cons (.op .idx (.cons (.var 6) (.cons (.var 4) .nil))) (.cons (.var 7) (.cons (.var 1) .nil)))) [] [])) (.cons (.iff (.dtin true 8 5) (.cons (.dtset 5 8 (.cst (.bl true))) (.cons (.append 6 (.var 8)) .nil)) .nil) .nil))) (.cons (.asg (.name 4) (.op .add (.cons (.var 4) (.cons (.cst (.int 1)) .nil)))) .nil))) (.cons (.ret (.op .len (.cons (.var 6) .nil))) .nil))))))⟩

def hasD (row : List Col) : List (List Leaf × D) := row.map fun c => (colK c, D.bl true)
theorem dtAt_has (c : Col) : ∀ row : List Col, dtAt (hasD row) (colK c) = if c ∈ row then some (.bl true) else none
  | [] => rfl
  | x :: row => by
    have ih := dtAt_has c row
    by_cases e : x = c
    · subst e; simp [hasD, dtAt]
    · have ek : ¬ colK x = colK c := fun z => e (colK_inj z)
      have : dtAt (hasD (x :: row)) (colK c) = dtAt (hasD row) (colK c) := by simp [hasD, dtAt, List.find?_cons, ek]
      rw [this, ih]
      by_cases q : c ∈ row
      · rw [if_pos q, if_pos (List.mem_cons_of_mem _ q)]
      · rw [if_neg q, if_neg (fun z => (List.mem_cons.mp z).elim (fun w => e w.symm) q)]
theorem dtPut_has {c : Col} {row : List Col} (h : c ∉ row) : dtPut (hasD row) (colK c) (.bl true) = hasD (row ++ [c]) := by
  unfold dtPut
  rw [dtAt_has, if_neg h]
  unfold hasD
  rw [List.map_append]
  rfl
theorem hasD_len (row : List Col) : (hasD row).length = row.length := List.length_map _
def con_many34 : Con := fun as K => ∃ (w : List Nat) (m : Int), as = [.sh (encP (w.map fun c => [c])), .sh (.int m), .sh (.str klm)] ∧ w.length ≤ 900 ∧ (∀ c ∈ w, c < 128) ∧ ∀ row, ManyOk (w.map fun c => [c]) m plainPr row → K (.ret (.v (.int ((row.length : Nat) : Int))) [])
set_option maxHeartbeats 4000000 in
theorem ok_many34 (Γ : String → Con) (gc : String → Option D) (hn : Has Γ "_law_next" con_lnext34) : DefOk Γ gc ir_many34 con_many34 := by
  rintro as K ⟨w, m, rfl, hp, hw, hK⟩
  have hP : ((w.map fun c => [c]).map D.str).length = w.length := by rw [List.length_map, List.length_map]
  have hpl : (w.map fun c => [c]).length = w.length := List.length_map _
  have hst : startC (w.map fun c => [c]) m plainPr = (List.range (w.length + 1)).map fun i => capO m (some ((i : Nat) : Int)) := by
    unfold startC capC
    show (firstCol 1 _).map _ = _
    rw [first_plain, hpl, List.map_map]; rfl
  refine ⟨⟨by omega, by omega⟩, ?_⟩
  have hrg : rangeD 0 ((((w.map fun c => [c]).map D.str).length : Nat) + 1 : Int).toNat = (List.range (w.length + 1)).map fun i => D.int ((i : Nat) : Int) := by
    unfold rangeD
    have : ((((w.map fun c => [c]).map D.str).length : Nat) + 1 : Int).toNat = w.length + 1 := by omega
    rw [this]
    refine List.map_congr_left fun i _ => ?_
    show D.int (0 + (i : Nat)) = _
    rw [Int.zero_add]
  rw [hrg]
  refine compW_fm (xs := List.range (w.length + 1)) (fun i : Nat => D.int ((i : Nat) : Int)) (fun i => some (encO (capO m (some ((i : Nat) : Int))))) (by rw [List.length_range]; omega) (fun i hi kt kf ht hf => ?_) ?_
  · have z := ht _ rfl ([.sh (encP (w.map fun c => [c])), .sh (.int m), .sh (.str klm), .no, .sh (.int ((i : Nat) : Int)), .no, .no, .no, .no]) rfl
    refine ite2 (fun q => ?_) (fun q => ?_)
    · have q' : ((i : Nat) : Int) ≤ m := of_decide_eq_true q
      rw [show capO m (some ((i : Nat) : Int)) = some ((i : Nat) : Int) from if_pos q'] at z
      exact z
    · have q' : ¬ ((i : Nat) : Int) ≤ m := fun w => q (decide_eq_true w)
      rw [show capO m (some ((i : Nat) : Int)) = none from if_neg q'] at z
      exact z
  have hfm : ((List.range (w.length + 1)).filterMap fun i => some (encO (capO m (some ((i : Nat) : Int))))) = (startC (w.map fun c => [c]) m plainPr).map encO := by
    rw [List.filterMap_eq_map', hst, List.map_map]; rfl
  rw [hfm]
  refine optW_some (leafs_col _) ?_
  refine ⟨fun M env => ∃ (row : List Col) (at_ : Nat) (g7 g8 : Slot), env = [.sh (encP (w.map fun c => [c])), .sh (.int m), .sh (.str klm), .sh (encCol (startC (w.map fun c => [c]) m plainPr)), .sh (.int ((at_ : Nat) : Int)), .ow (.dtp (hasD row)), .ow (.lst (row.map encCol)), g7, g8] ∧
    M = 400 - at_ ∧ at_ ≤ row.length ∧ row.length ≤ 303 ∧ row.Nodup ∧ startC (w.map fun c => [c]) m plainPr ∈ row ∧ (∀ c ∈ row, c.length = w.length + 1) ∧ (∀ c ∈ row, ReachC (w.map fun c => [c]) m plainPr c) ∧
    ∀ i c, i < at_ → row[i]? = some c → ∀ a ∈ klm, bhF (w.map fun c => [c]) m plainPr c a ∈ row,
    ⟨_, [startC (w.map fun c => [c]) m plainPr], 0, .no, .no, rfl, rfl, Nat.zero_le _, by simp, by simp, by simp, fun c hc => ?_, fun c hc => ?_, fun i c hi => by omega⟩, ?_⟩
  · rw [List.mem_singleton.mp hc]
    unfold startC
    rw [firstC_len, hpl]
  · rw [List.mem_singleton.mp hc]
    exact fun T h1 _ => h1
  rintro M env ⟨row, at_, g7, g8, rfl, rfl, hat, h303, hnd, hs0, hcl, hre, hclo⟩
  have hrl : (row.map encCol).length = row.length := List.length_map _
  have fin : (300 < row.length ∨ at_ = row.length) → K (.ret (.v (.int (((row.map encCol).length : Nat) : Int))) []) := fun z => by
    rw [hrl]
    refine hK row ⟨hnd, hs0, hre, ?_⟩
    rcases z with z | z
    · exact .inl z
    · refine .inr fun c hc a ha => ?_
      obtain ⟨i, hi⟩ := List.mem_iff_getElem?.mp hc
      exact hclo i c (by have := (List.getElem?_eq_some_iff.mp hi).1; omega) hi a ha
  refine ite2 (fun c1 => ?_) (fun c1 => ?_)
  · have c1' : ((at_ : Nat) : Int) < (((row.map encCol).length : Nat) : Int) := of_decide_eq_true c1
    refine ite2 (fun c2 => ?_) (fun c2 => ?_)
    · have c2' : (((row.map encCol).length : Nat) : Int) ≤ 300 := of_decide_eq_true c2
      obtain ⟨c0, hc0⟩ : ∃ c, row[at_]? = some c := ⟨_, List.getElem?_eq_getElem (by omega)⟩
      have hc0l := hcl c0 (List.mem_of_getElem? hc0)
      refine forW_pre (xs := klm) enc1 (fun pre env => ∃ (more : List Col) (g7 g8 : Slot), env = [.sh (encP (w.map fun c => [c])), .sh (.int m), .sh (.str klm), .sh (encCol (startC (w.map fun c => [c]) m plainPr)), .sh (.int ((at_ : Nat) : Int)), .ow (.dtp (hasD (row ++ more))), .ow (.lst ((row ++ more).map encCol)), g7, g8] ∧
        more.length ≤ pre.length ∧ (row ++ more).Nodup ∧ (∀ c ∈ more, c.length = w.length + 1) ∧ (∀ c ∈ more, ReachC (w.map fun c => [c]) m plainPr c) ∧ ∀ a ∈ pre, bhF (w.map fun c => [c]) m plainPr c0 a ∈ row ++ more)
        ⟨[], _, _, by rw [List.append_nil], Nat.le_refl _, by rw [List.append_nil]; exact hnd, fun c hc => (nomatch hc), fun c hc => (nomatch hc), fun a ha => (nomatch ha)⟩ (fun pre x post env k e hI hk => ?_) fun env hI => ?_
      · obtain ⟨more, g7, g8, rfl, hml, hnd2, hcl2, hre2, hin⟩ := hI
        have hpl3 := congrArg List.length e
        have e3 : klm.length = 3 := rfl
        rw [e3, List.length_append, List.length_cons] at hpl3
        have hx : x ∈ klm := by rw [e]; simp
        have hx128 : x < 128 := by
          simp only [List.mem_cons, List.not_mem_nil, or_false] at hx
          omega
        have hxabc : x ∈ abc := by
          simp only [List.mem_cons, List.not_mem_nil, or_false] at hx
          rcases hx with rfl | rfl | rfl <;> decide
        have hatc : atI ((row ++ more).map encCol) ((at_ : Nat) : Int) = some (encCol c0) := by
          rw [atI_nat, List.getElem?_map, List.getElem?_append_left (by omega), hc0]; rfl
        refine optW_some hatc ?_
        refine hn _ _ ⟨w, c0, x, m, rfl, hp, hw, hx128, hc0l, ?_⟩
        have hyl : (bhF (w.map fun c => [c]) m plainPr c0 x).length = w.length + 1 := by rw [bhF_len, hpl]
        have hyr : ReachC (w.map fun c => [c]) m plainPr (bhF (w.map fun c => [c]) m plainPr c0 x) := fun T h1 h2 => h2 _ (hre c0 (List.mem_of_getElem? hc0) T h1 h2) x hxabc
        have hpre : ∀ mo, bhF (w.map fun c => [c]) m plainPr c0 x ∈ row ++ mo → (∀ c ∈ row ++ more, c ∈ row ++ mo) → ∀ a ∈ pre ++ [x], bhF (w.map fun c => [c]) m plainPr c0 a ∈ row ++ mo := fun mo h1 h2 a ha => by
          rcases List.mem_append.mp ha with ha | ha
          · exact h2 _ (hin a ha)
          · rw [List.mem_singleton.mp ha]; exact h1
        generalize bhF (w.map fun c => [c]) m plainPr c0 x = y at hyl hyr hpre
        refine optW_some (leafs_col y) ?_
        by_cases q : y ∈ row ++ more
        · refine iteF (by rw [dtAt_has, if_pos q]; rfl) ?_
          exact hk _ ⟨more, .sh (enc1 x), .sh (encCol y), rfl, by rw [List.length_append]; omega, hnd2, hcl2, hre2, hpre more q fun c hc => hc⟩
        · refine iteT (by rw [dtAt_has, if_neg q]; rfl) ?_
          have hl306 : (row ++ more).length ≤ 306 := by rw [List.length_append]; omega
          refine optW_some (leafs_col y) ⟨size_small (by rw [hasD_len]; omega), ?_⟩
          have hput := dtPut_has q
          refine ⟨size_small (by rw [List.length_map]; omega), ?_⟩
          refine hk _ ⟨more ++ [y], .sh (enc1 x), .sh (encCol y), ?_, by rw [List.length_append, List.length_append, List.length_singleton, List.length_singleton]; omega, ?_, fun c hc => ?_, fun c hc => ?_, hpre (more ++ [y]) (by simp) fun c hc => by rw [← List.append_assoc]; exact List.mem_append_left _ hc⟩
          · rw [← List.append_assoc, ← hput, List.map_append (l₁ := row ++ more)]; rfl
          · rw [← List.append_assoc]
            refine List.nodup_append.mpr ⟨hnd2, by simp, fun a ha b hb => ?_⟩
            rw [List.mem_singleton.mp hb]
            rintro rfl
            exact q ha
          · rcases List.mem_append.mp hc with hc | hc
            · exact hcl2 c hc
            · rw [List.mem_singleton.mp hc]; exact hyl
          · rcases List.mem_append.mp hc with hc | hc
            · exact hre2 c hc
            · rw [List.mem_singleton.mp hc]; exact hyr
      · obtain ⟨more, g7, g8, rfl, hml, hnd2, hcl2, hre2, hin⟩ := hI
        have e3 : klm.length = 3 := rfl
        rw [e3] at hml
        refine ⟨400 - (at_ + 1), by omega, row ++ more, at_ + 1, g7, g8, rfl, rfl, by rw [List.length_append]; omega, by rw [List.length_append]; omega, hnd2, List.mem_append_left _ hs0, fun c hc => ?_, fun c hc => ?_, fun i c hi hc a ha => ?_⟩
        · rcases List.mem_append.mp hc with hc | hc
          · exact hcl c hc
          · exact hcl2 c hc
        · rcases List.mem_append.mp hc with hc | hc
          · exact hre c hc
          · exact hre2 c hc
        · rw [List.getElem?_append_left (by omega)] at hc
          by_cases z : i = at_
          · subst z
            rw [hc0] at hc; cases hc
            exact hin a ha
          · exact List.mem_append_left _ (hclo i c (by omega) hc a ha)
    · have c2' : ¬ (((row.map encCol).length : Nat) : Int) ≤ 300 := fun z => c2 (decide_eq_true z)
      exact fin (.inl (by omega))
  · have c1' : ¬ ((at_ : Nat) : Int) < (((row.map encCol).length : Nat) : Int) := fun z => c1 (decide_eq_true z)
    exact fin (.inr (by omega))
theorem len_many34 : ∀ as K, con_many34 as K → as.length = 3 := by rintro as K ⟨_, _, rfl, _⟩; rfl
def ir_refused34 : Def := ⟨"_law_refused", 4, ["_law_pattern_here", "_law_most", "_law_prices", "_law_way", "_law_own", "error"],
  (.cons (.asg (.name 4) (.lst .nil)) (.cons (.tryp 4 5 "FindError" ["TooMany", "NoPrices", "ValueError"] ["NoPattern"] ["TooMany", "NoPrices"] "rooms_for" 0 1 2) (.cons (.ret (.op .eq (.cons (.var 4) (.cons (.lst (.cons (.op .eq (.cons (.var 3) (.cons (.cst (.int 0)) .nil))) (.cons (.op .eq (.cons (.var 3) (.cons (.cst (.int 1)) .nil))) (.cons (.cst (.bl true)) (.cons (.cst (.bl false)) .nil))))) .nil)))) .nil)))⟩

def con_refused34 : Con := fun as K => ∃ (p : List (List Nat)) (m : Int) (pr : Pr) (way : Int), as = [.sh (encP p), .sh (.int m), .sh (encPr pr), .sh (.int way)] ∧ p.length ≤ 900 ∧ ((way = 1 ∧ pr.turn ≠ 0) ∨ (way = 0 ∧ pr.turn = 0 ∧ ∃ s, Stop p m pr s ∧ 300 < s.1.length)) ∧ K (.ret (.v (.bl true)) [])
theorem ok_refused34 (Γ : String → Con) (gc : String → Option D) (hr : Has Γ "rooms_for" con_rooms) : DefOk Γ gc ir_refused34 con_refused34 := by
  rintro as K ⟨p, m, pr, way, rfl, hp, hc, h⟩
  rcases hc with ⟨rfl, ht⟩ | ⟨rfl, ht, s, hS, hlt⟩
  · refine ⟨rfl, rfl, hr _ _ ⟨p, m, pr, rfl, hp, fun _ => ?_, fun z => (ht z).elim⟩⟩
    exact ⟨by decide, rfl, rfl, rfl, rfl, rfl, rfl, rfl, h⟩
  · refine ⟨rfl, rfl, hr _ _ ⟨p, m, pr, rfl, hp, fun z => (z ht).elim, fun _ => ⟨s, hS, fun z => by omega, fun _ => ?_⟩⟩⟩
    exact ⟨by decide, rfl, rfl, rfl, rfl, rfl, rfl, rfl, h⟩
theorem len_refused34 : ∀ as K, con_refused34 as K → as.length = 4 := by rintro as K ⟨_, _, _, _, rfl, _⟩; rfl
end Nf
/-! k34: the law -/
namespace Nf
open PySem PySem.Spec L2
def ir_digits34 : Def := ⟨"_law_digits", 3, ["_law_cell_here", "_law_base", "_law_many_here", "_law_found", "_law_left", "_law_k"], ir__law_digits.body⟩
/-- it does stop -/
theorem stop_is (p : List (List Nat)) (m : Int) (pr : Pr) : ∃ s, Stop p m pr s := by
  have main : ∀ k n : Nat, 301 - (brun p m pr n).2.length ≤ k → (∀ j, j < n → Goes (brun p m pr j)) → ∃ s, Stop p m pr s := by
    intro k
    induction k with
    | zero =>
      intro n hk hg
      refine ⟨_, n, rfl, fun z => ?_, hg⟩
      have h1 := z.1
      have h2 := z.2
      omega
    | succ k ih =>
      intro n hk hg
      by_cases g : Goes (brun p m pr n)
      · refine ih (n + 1) ?_ fun j hj => ?_
        · obtain ⟨c, hc⟩ : ∃ c, (brun p m pr n).1[(brun p m pr n).2.length]? = some c := ⟨_, List.getElem?_eq_getElem g.1⟩
          have e : brun p m pr (n + 1) = _ := bstep_at hc
          have : (brun p m pr (n + 1)).2.length = (brun p m pr n).2.length + 1 := by rw [e]; simp
          omega
        · by_cases z : j = n
          · rw [z]; exact g
          · exact hg j (by omega)
      · exact ⟨_, n, rfl, g, hg⟩
  exact main 301 0 (by omega) fun j hj => by omega
theorem ok_digits34 (Γ : String → Con) (gc : String → Option D) : DefOk Γ gc ir_digits34 con_digits := fun as K h => ok_digits Γ gc as K h
def ir_pattern34 : Def := ⟨"_law_pattern", 3, ["_law_pool_here", "_law_cell_here", "_law_many_here", "_law_digit"], ir__law_pattern.body⟩
theorem ok_pattern34 (Γ : String → Con) (gc : String → Option D) (hd : Has Γ "_law_digits" con_digits) (hc : Has Γ "_law_class" con_class) : DefOk Γ gc ir_pattern34 con_pattern := fun as K h => ok_pattern Γ gc hd hc as K h
def ir_k34_law : Def := ⟨"law", 1, ["_law_script", "_law_cell_here", "_law_size", "_law_most", "_law_pattern_here", "_law_digit", "_law_numbers", "_law_prices", "_law_great", "_law_many_here"],
  (.cons (.asg (.name 1) (.call "_law_cell" (.cons (.var 0) (.cons (.cst (.int 0)) .nil)) [] [])) (.cons (.asg (.name 2) (.op .mod (.cons (.var 1) (.cons (.cst (.int 13)) .nil)))) (.cons (.asg (.name 3) (.op .mod (.cons (.op .fdiv (.cons (.var 1) (.cons (.cst (.int 13)) .nil))) (.cons (.cst (.int 7)) .nil)))) (.cons (.iff (.cmp .eq (.cons (.op .mod (.cons (.op .fdiv (.cons (.var 1) (.cons (.cst (.int 387)) .nil))) (.cons (.cst (.int 8)) .nil))) (.cons (.cst (.int 1)) .nil))) (.cons (.asg (.name 2) (.op .mod (.cons (.var 1) (.cons (.cst (.int 41)) .nil)))) (.cons (.asg (.name 3) (.cst (.int 0))) .nil)) .nil) (.cons (.asg (.name 4) (.op .tuple1 (.cons (.comp (.op .idx (.cons (.cst (.str [107, 108])) (.cons (.var 5) .nil))) (.name 5) (.ex (.call "_law_digits" (.cons (.call "_law_cell" (.cons (.var 0) (.cons (.cst (.int 1)) .nil)) [] []) (.cons (.cst (.int 2)) (.cons (.var 2) .nil))) [] [])) .no [5]) .nil))) (.cons (.asg (.name 6) (.call "_law_digits" (.cons (.call "_law_cell" (.cons (.var 0) (.cons (.cst (.int 2)) .nil)) [] []) (.cons (.cst (.int 10)) (.cons (.cst (.int 4)) .nil))) [] [])) (.cons (.asg (.name 7) (.tup (.cons (.op .idx (.cons (.var 6) (.cons (.cst (.int 0)) .nil))) (.cons (.op .idx (.cons (.var 6) (.cons (.cst (.int 1)) .nil))) (.cons (.op .idx (.cons (.var 6) (.cons (.cst (.int 2)) .nil))) (.cons (.op .add (.cons (.cst (.int 1)) (.cons (.op .mod (.cons (.op .idx (.cons (.var 6) (.cons (.cst (.int 3)) .nil))) (.cons (.cst (.int 9)) .nil))) .nil))) .nil)))))) (.cons (.asg (.name 8) (.call "_law_pattern" (.cons (.call "_law_pool" (.cons (.op .fdiv (.cons (.var 1) (.cons (.cst (.int 91)) .nil))) .nil) [] []) (.cons (.call "_law_cell" (.cons (.var 0) (.cons (.cst (.int 3)) .nil)) [] []) (.cons (.op .mod (.cons (.op .fdiv (.cons (.var 1) (.cons (.cst (.int 9464)) .nil))) (.cons (.cst (.int 41)) .nil))) .nil))) [] [])) (.cons (.iff (.orv (.cons (.notv (.ex (.call "_law_refused" (.cons (.var 8) (.cons (.op .mod (.cons (.op .fdiv (.cons (.var 1) (.cons (.cst (.int 13)) .nil))) (.cons (.cst (.int 400)) .nil))) (.cons (.var 7) (.cons (.cst (.int 1)) .nil)))) [] []))) (.cons (.notv (.ex (.call "_law_refused" (.cons (.var 4) (.cons (.var 3) (.cons (.tup (.cons (.cst (.int 1)) (.cons (.cst (.int 1)) (.cons (.cst (.int 1)) (.cons (.cst (.int 9)) .nil))))) (.cons (.cst (.int 1)) .nil)))) [] []))) .nil))) (.cons (.ret (.cst (.bl false))) .nil) .nil) (.cons (.asg (.name 9) (.call "_law_many" (.cons (.var 4) (.cons (.var 3) (.cons (.cst (.str [107, 108, 109])) .nil))) [] [])) (.cons (.iff (.cmp .gt (.cons (.var 9) (.cons (.cst (.int 300)) .nil))) (.cons (.ret (.call "_law_refused" (.cons (.var 4) (.cons (.var 3) (.cons (.tup (.cons (.cst (.int 1)) (.cons (.cst (.int 1)) (.cons (.cst (.int 1)) (.cons (.cst (.int 0)) .nil))))) (.cons (.cst (.int 0)) .nil)))) [] [])) .nil) .nil) (.cons (.ret (.op .eq (.cons (.op .len (.cons (.call "rooms_for" (.cons (.var 4) (.cons (.var 3) (.cons (.tup (.cons (.cst (.int 1)) (.cons (.cst (.int 1)) (.cons (.cst (.int 1)) (.cons (.cst (.int 0)) .nil))))) .nil))) [] []) .nil)) (.cons (.var 9) .nil)))) .nil))))))))))))⟩

set_option maxHeartbeats 4000000 in
theorem ok_k34_law (Γ : String → Con) (gc : String → Option D) (h1 : Has Γ "_law_cell" con_cell) (h2 : Has Γ "_law_pool" con_pool) (h3 : Has Γ "_law_pattern" con_pattern) (h4 : Has Γ "_law_digits" con_digits) (h5 : Has Γ "_law_refused" con_refused34) (h6 : Has Γ "_law_many" con_many34) (h7 : Has Γ "rooms_for" con_rooms) : DefOk Γ gc ir_k34_law (conLaw 63) := by
  rintro as K ⟨ns, rfl, hn, hb, h⟩
  refine h1 _ _ ⟨ns, 0, rfl, by omega, ?_⟩
  generalize cellV ns 0 = c0
  have rest : ∀ (n : Nat) (m : Int), n ≤ 40 → wpSs ⟨Γ, gc, [], fun c => K (.exc c)⟩ (ssTl 4 ir_k34_law.body) [.sh (encS ns), .sh (.int c0), .sh (.int ((n : Nat) : Int)), .sh (.int m), .no, .no, .no, .no, .no, .no] ⟨fun env => finW [] K (.v .non) env, finW [] K⟩ := fun n m hn40 => by
    refine h1 _ _ ⟨ns, 1, rfl, by omega, ?_⟩
    refine h4 _ _ ⟨cellV ns 1, 2, n, rfl, by decide, by decide, by omega, ?_⟩
    have dl := digitsV_len (cellV ns 1) 2 n
    have di := digitsV_in (c := cellV ns 1) (b := 2) (n := n) (by decide)
    generalize digitsV (cellV ns 1) 2 n = ds at dl di
    refine compW_fm (xs := ds) D.int (fun x => some (D.str [107 + x.toNat])) (by omega) (fun x hx kt kf ht hf => ?_) ?_
    · have hx2 := di x hx
      refine ⟨size_le (by simp), optW_some (a := 107 + x.toNat) ?_ (ht _ rfl _ rfl)⟩
      have : x = 0 ∨ x = 1 := by omega
      rcases this with rfl | rfl <;> rfl
    rw [List.filterMap_eq_map']
    obtain ⟨w, hwe, hwl, hw⟩ : ∃ w : List Nat, (ds.map fun x => D.str [107 + x.toNat]) = (w.map fun c => [c]).map D.str ∧ w.length = n ∧ ∀ c ∈ w, c = 107 ∨ c = 108 := ⟨ds.map fun x => 107 + x.toNat, by rw [List.map_map, List.map_map]; rfl, by rw [List.length_map, dl], fun c hc => by
      obtain ⟨x, hx, rfl⟩ := List.mem_map.mp hc
      have := di x hx
      omega⟩
    rw [hwe]
    have hw128 : ∀ c ∈ w, c < 128 := fun c hc => by have := hw c hc; omega
    have hwl2 : (w.map fun c => [c]).length ≤ 900 := by rw [List.length_map]; omega
    refine h1 _ _ ⟨ns, 2, rfl, by omega, ?_⟩
    refine h4 _ _ ⟨cellV ns 2, 10, 4, rfl, by decide, by decide, by decide, ?_⟩
    have dl2 := digitsV_len (cellV ns 2) 10 4
    have di2 := digitsV_in (c := cellV ns 2) (b := 10) (n := 4) (by decide)
    generalize digitsV (cellV ns 2) 10 4 = es at dl2 di2
    obtain ⟨a, b, c, e, rfl⟩ : ∃ a b c e, es = [a, b, c, e] := by
      match es, dl2 with
      | [a, b, c, e], _ => exact ⟨a, b, c, e, rfl⟩
    refine ⟨(by decide : (0 : Int) < 9), ?_⟩
    have m9 : 0 ≤ e % 9 := Int.emod_nonneg _ (by decide)
    generalize e % 9 = e9 at m9
    refine ⟨⟨by decide, by decide⟩, ?_⟩
    refine h2 _ _ ⟨_, rfl, ?_⟩
    have hp := poolV_len (c0 / 91)
    have hf := fewV_in (c0 / 91)
    have hpi := poolV_in (c0 / 91)
    refine h1 _ _ ⟨ns, 3, rfl, by omega, ?_⟩
    obtain ⟨k, ek, lk⟩ := nat_mod (m := 40) (c0 / 9464) (by decide)
    have ek' : c0 / 9464 % 41 = (k : Int) := ek
    refine ⟨⟨by decide, by decide⟩, (by decide : (0 : Int) < 41), ?_⟩
    refine h3 _ _ ⟨poolV (c0 / 91), cellV ns 3, k, by rw [← ek'], by omega, by omega, hpi, by omega, fun q hq hok => ?_⟩
    refine ⟨⟨by decide, by decide⟩, (by decide : (0 : Int) < 400), ?_⟩
    refine h5 _ _ ⟨q, c0 / 13 % 400, ⟨a, b, c, 1 + e9⟩, 1, rfl, by omega, .inl ⟨rfl, by show 1 + e9 ≠ 0; omega⟩, ?_⟩
    refine h5 _ _ ⟨w.map fun c => [c], m, ⟨1, 1, 1, 9⟩, 1, rfl, hwl2, .inl ⟨rfl, by decide⟩, ?_⟩
    refine h6 _ _ ⟨w, m, rfl, by omega, hw128, fun row hM => ?_⟩
    refine ite2 (fun c1 => ?_) (fun c1 => ?_)
    · have c1' : (300 : Int) < ((row.length : Nat) : Int) := of_decide_eq_true c1
      obtain ⟨s, hS⟩ : ∃ s, Stop (w.map fun c => [c]) m plainPr s := stop_is _ _ _
      refine h5 _ _ ⟨w.map fun c => [c], m, plainPr, 0, rfl, hwl2, .inr ⟨rfl, rfl, s, hS, (many_plain hw hS hM).1 (by omega)⟩, h⟩
    · have c1' : ¬ (300 : Int) < ((row.length : Nat) : Int) := fun z => c1 (decide_eq_true z)
      obtain ⟨s, hS⟩ : ∃ s, Stop (w.map fun c => [c]) m plainPr s := stop_is _ _ _
      have hlen := (many_plain hw hS hM).2 (by omega)
      refine h7 _ _ ⟨w.map fun c => [c], m, plainPr, rfl, hwl2, fun z => (z rfl).elim, fun _ => ⟨s, hS, fun _ => ?_, fun z => by omega⟩⟩
      have hrl : (roomsL s).length = row.length := by
        obtain ⟨n', rfl, g, _⟩ := hS
        have b := brun_ok (w.map fun c => [c]) m plainPr n'
        rw [roomsL_len b, ← hlen]
        by_cases z : (brun (w.map fun c => [c]) m plainPr n').2.length < (brun (w.map fun c => [c]) m plainPr n').1.length
        · exact (g ⟨z, by omega⟩).elim
        · have := b.tl; omega
      refine ⟨rfl, rfl, ?_⟩
      show K (.ret (.v (.bl (deq (.int (((roomsL s).length : Nat) : Int)) (.int ((row.length : Nat) : Int))))) [])
      rw [hrl, deq_int, decide_eq_true rfl]
      exact h
  obtain ⟨n, en, ln⟩ := nat_mod (m := 12) c0 (by decide)
  have en' : c0 % 13 = (n : Int) := en
  refine ⟨(by decide : (0 : Int) < 13), ⟨by decide, by decide⟩, (by decide : (0 : Int) < 7), ⟨by decide, by decide⟩, (by decide : (0 : Int) < 8), rfl, rfl, ite2 (fun c1 => ?_) (fun c1 => ?_)⟩
  · obtain ⟨n2, en2, ln2⟩ := nat_mod (m := 40) c0 (by decide)
    have en2' : c0 % 41 = (n2 : Int) := en2
    refine ⟨(by decide : (0 : Int) < 41), ?_⟩
    rw [en2']
    exact rest n2 0 (by omega)
  · rw [en']
    exact rest n _ (by omega)
end Nf
set_option autoImplicit true
set_option maxHeartbeats 0
/-! ### the links -/
namespace Lk
open PySem PySem.Spec L2 Nf
abbrev prog : Program := PySem.Challenge.pw_nearfind_k34_rooms_refused
def fn : List He.DefD := [topOf prog 22, topOf prog 23, topOf prog 24, topOf prog 26, topOf prog 27, topOf prog 29, topOf prog 28, topOf prog 30, topOf prog 31, topOf prog 7, topOf prog 9, topOf prog 10, topOf prog 11, topOf prog 12, topOf prog 13, topOf prog 14, topOf prog 17, topOf prog 18, topOf prog 19, topOf prog 20, topOf prog 32, topOf prog 33]
def fa : List He.Fa := [.glo "_law_cell", .glo "_law_digits", .glo "_law_pool", .glo "_law_class", .glo "_law_pattern", .glo "_law_dearer", .glo "_law_least", .glo "_law_next", .glo "_law_many", .glo "fits", .glo "lower", .glo "dearer", .glo "met", .glo "crossed", .glo "first_column", .glo "next_column", .glo "capped", .glo "sorts_of", .glo "columns_behind", .glo "rooms_for", .glo "_law_refused", .glo "law", .free "len", .free "min", .free "max", .free "sum", .free "abs", .free "int", .free "bool", .free "str", .free "list", .free "tuple", .free "dict", .free "sorted", .free "set", .free "reversed", .free "range", .free "enumerate", .free "zip", .free "isinstance", .str "LETTERS" "abcdefghijklmnopqrstuvwxyz", .int "MOST_ROOMS" (300), .exc "NoPrices", .exc "TooMany", .glo "NoPrices", .glo "TooMany"]
def gfs : List Gf := [.xp "TooMany" "FindError", .xp "TooMany" "TooMany", .xp "TooMany" "NoPrices", .xp "TooMany" "ValueError", .xp "TooMany" "NoPattern", .xp "NoPrices" "FindError", .xp "NoPrices" "TooMany", .xp "NoPrices" "NoPrices", .xp "NoPrices" "ValueError", .xp "NoPrices" "NoPattern"]
def gc : String → Option D := fun x => if x = "LETTERS" then some (.str [97, 98, 99, 100, 101, 102, 103, 104, 105, 106, 107, 108, 109, 110, 111, 112, 113, 114, 115, 116, 117, 118, 119, 120, 121, 122]) else if x = "MOST_ROOMS" then some (.int (300)) else none
section
variable {P : Program} {w : World} {K : PySem.W.Frag} {h base : Heap} {mg : Str → Option Value}
theorem top_ok (X : K.In h) (G : h.Ns mainGlobals mg) (c : He.SaysD fa fn K) (cn : SaysN fa fn gfs w K) : Top P w (baseOf P w K mg) mg gc := by
  refine ⟨fun s hs => ?_, fun x d e => ?_, rfl, rfl, rfl⟩
  · have key : ∀ s ∈ bnames, He.Fa.free (Str.ofString s) ∈ fa := by
      intro s hs
      simp only [bnames, List.mem_cons, List.not_mem_nil, or_false] at hs
      rcases hs with rfl | rfl | rfl | rfl | rfl | rfl | rfl | rfl | rfl | rfl | rfl | rfl | rfl | rfl | rfl | rfl | rfl | rfl <;> simp [fa]
    exact He.free_ok X G (says_mem c (key s hs))
  · unfold gc at e
    split at e
    · rename_i ex; subst ex; cases e
      obtain ⟨t, ht⟩ := He.str_ok X G (c.fact 40 rfl)
      exact .inl ⟨rfl, .str "abcdefghijklmnopqrstuvwxyz", _, ht, ⟨t, rfl⟩, fun _ => rfl⟩
    split at e
    · rename_i ex; subst ex; cases e
      obtain ⟨t, ht⟩ := He.int_ok X G (c.fact 41 rfl)
      exact .inl ⟨rfl, .int (300), _, ht, ⟨t, rfl⟩, fun _ => rfl⟩
    cases e
theorem exc_0 (X : K.In h) (G : h.Ns mainGlobals mg) (c : He.SaysD fa fn K) : ExcF K mg "NoPrices" := by
  obtain ⟨e1, e2, e3, e4⟩ := He.exc_ok (c.fact 42 rfl)
  exact excF_of (by decide) ⟨_, _, _, _, _, PySem.F.excBase_ValueError, e1, He.glo_ok X G (c.fact 44 rfl), e2, e3, e4⟩
theorem exc_1 (X : K.In h) (G : h.Ns mainGlobals mg) (c : He.SaysD fa fn K) : ExcF K mg "TooMany" := by
  obtain ⟨e1, e2, e3, e4⟩ := He.exc_ok (c.fact 43 rfl)
  exact excF_of (by decide) ⟨_, _, _, _, _, PySem.F.excBase_ValueError, e1, He.glo_ok X G (c.fact 45 rfl), e2, e3, e4⟩
theorem xp_0 (X : K.In h) (G : h.Ns mainGlobals mg) (cn : SaysN fa fn gfs w K) : ExcF K mg "TooMany<FindError" := excP_of (by decide) (xp_ok X G (cn.g (g := .xp "TooMany" "FindError") (by simp [gfs])))
theorem xp_1 (X : K.In h) (G : h.Ns mainGlobals mg) (cn : SaysN fa fn gfs w K) : ExcF K mg "TooMany<TooMany" := excP_of (by decide) (xp_ok X G (cn.g (g := .xp "TooMany" "TooMany") (by simp [gfs])))
theorem xp_2 (X : K.In h) (G : h.Ns mainGlobals mg) (cn : SaysN fa fn gfs w K) : ExcF K mg "TooMany<NoPrices" := excP_of (by decide) (xp_ok X G (cn.g (g := .xp "TooMany" "NoPrices") (by simp [gfs])))
theorem xp_3 (X : K.In h) (G : h.Ns mainGlobals mg) (cn : SaysN fa fn gfs w K) : ExcF K mg "TooMany<ValueError" := excP_of (by decide) (xp_ok X G (cn.g (g := .xp "TooMany" "ValueError") (by simp [gfs])))
theorem xp_4 (X : K.In h) (G : h.Ns mainGlobals mg) (cn : SaysN fa fn gfs w K) : ExcF K mg "TooMany<NoPattern" := excP_of (by decide) (xp_ok X G (cn.g (g := .xp "TooMany" "NoPattern") (by simp [gfs])))
theorem xp_5 (X : K.In h) (G : h.Ns mainGlobals mg) (cn : SaysN fa fn gfs w K) : ExcF K mg "NoPrices<FindError" := excP_of (by decide) (xp_ok X G (cn.g (g := .xp "NoPrices" "FindError") (by simp [gfs])))
theorem xp_6 (X : K.In h) (G : h.Ns mainGlobals mg) (cn : SaysN fa fn gfs w K) : ExcF K mg "NoPrices<TooMany" := excP_of (by decide) (xp_ok X G (cn.g (g := .xp "NoPrices" "TooMany") (by simp [gfs])))
theorem xp_7 (X : K.In h) (G : h.Ns mainGlobals mg) (cn : SaysN fa fn gfs w K) : ExcF K mg "NoPrices<NoPrices" := excP_of (by decide) (xp_ok X G (cn.g (g := .xp "NoPrices" "NoPrices") (by simp [gfs])))
theorem xp_8 (X : K.In h) (G : h.Ns mainGlobals mg) (cn : SaysN fa fn gfs w K) : ExcF K mg "NoPrices<ValueError" := excP_of (by decide) (xp_ok X G (cn.g (g := .xp "NoPrices" "ValueError") (by simp [gfs])))
theorem xp_9 (X : K.In h) (G : h.Ns mainGlobals mg) (cn : SaysN fa fn gfs w K) : ExcF K mg "NoPrices<NoPattern" := excP_of (by decide) (xp_ok X G (cn.g (g := .xp "NoPrices" "NoPattern") (by simp [gfs])))
abbrev t0 : List (String × Con) := []
theorem lk0 (X : K.In h) (G : h.Ns mainGlobals mg) (c : He.SaysD fa fn K) (T : Top P w (baseOf P w K mg) mg gc) (t : Tab P w (baseOf P w K mg) mg base 0 t0) : Tab P w (baseOf P w K mg) mg base 1 (("_law_cell", con_cell) :: t0) := by
  obtain ⟨fd, F⟩ := c.def_ 0 rfl
  exact tab_cons (ps := ["_law_script", "_law_at"]) t ⟨by kernel_rfl, by kernel_rfl, by kernel_rfl⟩ (by decide) (He.glo_ok X G (c.fact 0 rfl)) F.kp (FunD.bindsN F fun _ _ _ _ _ _ us hl => match us, hl with | [_, _], _ => rfl) len_cell
    (def_in (B := baseOf P w K mg) (ps := ["_law_script", "_law_at"]) (fs := []) (xs := []) F (by kernel_rfl) T (fun c hc => by cases hc) (mem_tab t (by decide)) (ok_cell _ _))
abbrev t1 : List (String × Con) := ("_law_cell", con_cell) :: t0
theorem lk1 (X : K.In h) (G : h.Ns mainGlobals mg) (c : He.SaysD fa fn K) (T : Top P w (baseOf P w K mg) mg gc) (t : Tab P w (baseOf P w K mg) mg base 1 t1) : Tab P w (baseOf P w K mg) mg base 2 (("_law_digits", con_digits) :: t1) := by
  obtain ⟨fd, F⟩ := c.def_ 1 rfl
  exact tab_cons (ps := ["_law_cell_here", "_law_base", "_law_many_here"]) t ⟨by kernel_rfl, by kernel_rfl, by kernel_rfl⟩ (by decide) (He.glo_ok X G (c.fact 1 rfl)) F.kp (FunD.bindsN F fun _ _ _ _ _ _ us hl => match us, hl with | [_, _, _], _ => rfl) len_digits
    (def_in (B := baseOf P w K mg) (ps := ["_law_cell_here", "_law_base", "_law_many_here"]) (fs := []) (xs := []) F (by kernel_rfl) T (fun c hc => by cases hc) (mem_tab t (by decide)) (ok_digits34 _ _))
abbrev t2 : List (String × Con) := ("_law_digits", con_digits) :: t1
theorem lk2 (X : K.In h) (G : h.Ns mainGlobals mg) (c : He.SaysD fa fn K) (T : Top P w (baseOf P w K mg) mg gc) (t : Tab P w (baseOf P w K mg) mg base 2 t2) : Tab P w (baseOf P w K mg) mg base 3 (("_law_pool", con_pool) :: t2) := by
  obtain ⟨fd, F⟩ := c.def_ 2 rfl
  exact tab_cons (ps := ["_law_cell_here"]) t ⟨by kernel_rfl, by kernel_rfl, by kernel_rfl⟩ (by decide) (He.glo_ok X G (c.fact 2 rfl)) F.kp (FunD.bindsN F fun _ _ _ _ _ _ us hl => match us, hl with | [_], _ => rfl) len_pool
    (def_in (B := baseOf P w K mg) (ps := ["_law_cell_here"]) (fs := []) (xs := []) F (by kernel_rfl) T (fun c hc => by cases hc) (mem_tab t (by decide)) (ok_pool _ _))
abbrev t3 : List (String × Con) := ("_law_pool", con_pool) :: t2
theorem lk3 (X : K.In h) (G : h.Ns mainGlobals mg) (c : He.SaysD fa fn K) (T : Top P w (baseOf P w K mg) mg gc) (t : Tab P w (baseOf P w K mg) mg base 3 t3) : Tab P w (baseOf P w K mg) mg base 4 (("_law_class", con_class) :: t3) := by
  obtain ⟨fd, F⟩ := c.def_ 3 rfl
  exact tab_cons (ps := ["_law_pool_here", "_law_number"]) t ⟨by kernel_rfl, by kernel_rfl, by kernel_rfl⟩ (by decide) (He.glo_ok X G (c.fact 3 rfl)) F.kp (FunD.bindsN F fun _ _ _ _ _ _ us hl => match us, hl with | [_, _], _ => rfl) len_class
    (def_in (B := baseOf P w K mg) (ps := ["_law_pool_here", "_law_number"]) (fs := []) (xs := []) F (by kernel_rfl) T (fun c hc => by cases hc) (mem_tab t (by decide)) (ok_class _ _))
abbrev t4 : List (String × Con) := ("_law_class", con_class) :: t3
theorem lk4 (X : K.In h) (G : h.Ns mainGlobals mg) (c : He.SaysD fa fn K) (T : Top P w (baseOf P w K mg) mg gc) (t : Tab P w (baseOf P w K mg) mg base 4 t4) : Tab P w (baseOf P w K mg) mg base 5 (("_law_pattern", con_pattern) :: t4) := by
  obtain ⟨fd, F⟩ := c.def_ 4 rfl
  exact tab_cons (ps := ["_law_pool_here", "_law_cell_here", "_law_many_here"]) t ⟨by kernel_rfl, by kernel_rfl, by kernel_rfl⟩ (by decide) (He.glo_ok X G (c.fact 4 rfl)) F.kp (FunD.bindsN F fun _ _ _ _ _ _ us hl => match us, hl with | [_, _, _], _ => rfl) len_pattern
    (def_in (B := baseOf P w K mg) (ps := ["_law_pool_here", "_law_cell_here", "_law_many_here"]) (fs := ["_law_digits", "_law_class"]) (xs := []) F (by kernel_rfl) T (fun c hc => by cases hc) (mem_tab t (by decide)) (ok_pattern34 _ _ (has_of (by simp [t4, promises])) (has_of (by simp [t4, promises]))))
abbrev t5 : List (String × Con) := ("_law_pattern", con_pattern) :: t4
theorem lk5 (X : K.In h) (G : h.Ns mainGlobals mg) (c : He.SaysD fa fn K) (T : Top P w (baseOf P w K mg) mg gc) (t : Tab P w (baseOf P w K mg) mg base 5 t5) : Tab P w (baseOf P w K mg) mg base 6 (("_law_dearer", con_dearer) :: t5) := by
  obtain ⟨fd, F⟩ := c.def_ 5 rfl
  exact tab_cons (ps := ["_law_price", "_law_by"]) t ⟨by kernel_rfl, by kernel_rfl, by kernel_rfl⟩ (by decide) (He.glo_ok X G (c.fact 5 rfl)) F.kp (FunD.bindsN F fun _ _ _ _ _ _ us hl => match us, hl with | [_, _], _ => rfl) len_dearer
    (def_in (B := baseOf P w K mg) (ps := ["_law_price", "_law_by"]) (fs := []) (xs := []) F (by kernel_rfl) T (fun c hc => by cases hc) (mem_tab t (by decide)) (ok_ldearer _ _))
abbrev t6 : List (String × Con) := ("_law_dearer", con_dearer) :: t5
theorem lk6 (X : K.In h) (G : h.Ns mainGlobals mg) (c : He.SaysD fa fn K) (T : Top P w (baseOf P w K mg) mg gc) (t : Tab P w (baseOf P w K mg) mg base 6 t6) : Tab P w (baseOf P w K mg) mg base 7 (("_law_least", con_least) :: t6) := by
  obtain ⟨fd, F⟩ := c.def_ 6 rfl
  exact tab_cons (ps := ["_law_some"]) t ⟨by kernel_rfl, by kernel_rfl, by kernel_rfl⟩ (by decide) (He.glo_ok X G (c.fact 6 rfl)) F.kp (FunD.bindsN F fun _ _ _ _ _ _ us hl => match us, hl with | [_], _ => rfl) len_least
    (def_in (B := baseOf P w K mg) (ps := ["_law_some"]) (fs := []) (xs := []) F (by kernel_rfl) T (fun c hc => by cases hc) (mem_tab t (by decide)) (ok_least _ _))
abbrev t7 : List (String × Con) := ("_law_least", con_least) :: t6
theorem lk7 (X : K.In h) (G : h.Ns mainGlobals mg) (c : He.SaysD fa fn K) (T : Top P w (baseOf P w K mg) mg gc) (t : Tab P w (baseOf P w K mg) mg base 7 t7) : Tab P w (baseOf P w K mg) mg base 8 (("_law_next", con_lnext34) :: t7) := by
  obtain ⟨fd, F⟩ := c.def_ 7 rfl
  exact tab_cons (ps := ["_law_pattern_here", "_law_column", "_law_sign", "_law_most"]) t ⟨by kernel_rfl, by kernel_rfl, by kernel_rfl⟩ (by decide) (He.glo_ok X G (c.fact 7 rfl)) F.kp (FunD.bindsN F fun _ _ _ _ _ _ us hl => match us, hl with | [_, _, _, _], _ => rfl) len_lnext34
    (def_in (B := baseOf P w K mg) (ps := ["_law_pattern_here", "_law_column", "_law_sign", "_law_most"]) (fs := ["_law_dearer", "_law_least"]) (xs := []) F (by kernel_rfl) T (fun c hc => by cases hc) (mem_tab t (by decide)) (ok_lnext34 _ _ (has_of (by simp [t7, promises])) (has_of (by simp [t7, promises]))))
abbrev t8 : List (String × Con) := ("_law_next", con_lnext34) :: t7
theorem lk8 (X : K.In h) (G : h.Ns mainGlobals mg) (c : He.SaysD fa fn K) (T : Top P w (baseOf P w K mg) mg gc) (t : Tab P w (baseOf P w K mg) mg base 8 t8) : Tab P w (baseOf P w K mg) mg base 9 (("_law_many", con_many34) :: t8) := by
  obtain ⟨fd, F⟩ := c.def_ 8 rfl
  exact tab_cons (ps := ["_law_pattern_here", "_law_most", "_law_signs"]) t ⟨by kernel_rfl, by kernel_rfl, by kernel_rfl⟩ (by decide) (He.glo_ok X G (c.fact 8 rfl)) F.kp (FunD.bindsN F fun _ _ _ _ _ _ us hl => match us, hl with | [_, _, _], _ => rfl) len_many34
    (def_in (B := baseOf P w K mg) (ps := ["_law_pattern_here", "_law_most", "_law_signs"]) (fs := ["_law_next"]) (xs := []) F (by kernel_rfl) T (fun c hc => by cases hc) (mem_tab t (by decide)) (ok_many34 _ _ (has_of (by simp [t8, promises]))))
abbrev t9 : List (String × Con) := ("_law_many", con_many34) :: t8
theorem lk9 (X : K.In h) (G : h.Ns mainGlobals mg) (c : He.SaysD fa fn K) (T : Top P w (baseOf P w K mg) mg gc) (t : Tab P w (baseOf P w K mg) mg base 9 t9) : Tab P w (baseOf P w K mg) mg base 10 (("fits", con_fits) :: t9) := by
  obtain ⟨fd, F⟩ := c.def_ 9 rfl
  exact tab_cons (ps := ["one", "sign"]) t ⟨by kernel_rfl, by kernel_rfl, by kernel_rfl⟩ (by decide) (He.glo_ok X G (c.fact 9 rfl)) F.kp (FunD.bindsN F fun _ _ _ _ _ _ us hl => match us, hl with | [_, _], _ => rfl) len_fits
    (def_in (B := baseOf P w K mg) (ps := ["one", "sign"]) (fs := []) (xs := []) F (by kernel_rfl) T (fun c hc => by cases hc) (mem_tab t (by decide)) (ok_fits _ _))
abbrev t10 : List (String × Con) := ("fits", con_fits) :: t9
theorem lk10 (X : K.In h) (G : h.Ns mainGlobals mg) (c : He.SaysD fa fn K) (T : Top P w (baseOf P w K mg) mg gc) (t : Tab P w (baseOf P w K mg) mg base 10 t10) : Tab P w (baseOf P w K mg) mg base 11 (("lower", con_lower) :: t10) := by
  obtain ⟨fd, F⟩ := c.def_ 10 rfl
  exact tab_cons (ps := ["one", "other"]) t ⟨by kernel_rfl, by kernel_rfl, by kernel_rfl⟩ (by decide) (He.glo_ok X G (c.fact 10 rfl)) F.kp (FunD.bindsN F fun _ _ _ _ _ _ us hl => match us, hl with | [_, _], _ => rfl) len_lower
    (def_in (B := baseOf P w K mg) (ps := ["one", "other"]) (fs := []) (xs := []) F (by kernel_rfl) T (fun c hc => by cases hc) (mem_tab t (by decide)) (ok_lower _ _))
abbrev t11 : List (String × Con) := ("lower", con_lower) :: t10
theorem lk11 (X : K.In h) (G : h.Ns mainGlobals mg) (c : He.SaysD fa fn K) (T : Top P w (baseOf P w K mg) mg gc) (t : Tab P w (baseOf P w K mg) mg base 11 t11) : Tab P w (baseOf P w K mg) mg base 12 (("dearer", con_dearer) :: t11) := by
  obtain ⟨fd, F⟩ := c.def_ 11 rfl
  exact tab_cons (ps := ["price", "by"]) t ⟨by kernel_rfl, by kernel_rfl, by kernel_rfl⟩ (by decide) (He.glo_ok X G (c.fact 11 rfl)) F.kp (FunD.bindsN F fun _ _ _ _ _ _ us hl => match us, hl with | [_, _], _ => rfl) len_dearer
    (def_in (B := baseOf P w K mg) (ps := ["price", "by"]) (fs := []) (xs := []) F (by kernel_rfl) T (fun c hc => by cases hc) (mem_tab t (by decide)) (ok_dearer _ _))
abbrev t12 : List (String × Con) := ("dearer", con_dearer) :: t11
theorem lk12 (X : K.In h) (G : h.Ns mainGlobals mg) (c : He.SaysD fa fn K) (T : Top P w (baseOf P w K mg) mg gc) (t : Tab P w (baseOf P w K mg) mg base 12 t12) : Tab P w (baseOf P w K mg) mg base 13 (("met", con_met) :: t12) := by
  obtain ⟨fd, F⟩ := c.def_ 12 rfl
  exact tab_cons (ps := ["price", "one", "sign", "exchanged"]) t ⟨by kernel_rfl, by kernel_rfl, by kernel_rfl⟩ (by decide) (He.glo_ok X G (c.fact 12 rfl)) F.kp (FunD.bindsN F fun _ _ _ _ _ _ us hl => match us, hl with | [_, _, _, _], _ => rfl) len_met
    (def_in (B := baseOf P w K mg) (ps := ["price", "one", "sign", "exchanged"]) (fs := ["fits", "dearer"]) (xs := []) F (by kernel_rfl) T (fun c hc => by cases hc) (mem_tab t (by decide)) (ok_met _ _ (has_of (by simp [t12, promises])) (has_of (by simp [t12, promises]))))
abbrev t13 : List (String × Con) := ("met", con_met) :: t12
theorem lk13 (X : K.In h) (G : h.Ns mainGlobals mg) (c : He.SaysD fa fn K) (T : Top P w (baseOf P w K mg) mg gc) (t : Tab P w (baseOf P w K mg) mg base 13 t13) : Tab P w (baseOf P w K mg) mg base 14 (("crossed", con_crossed) :: t13) := by
  obtain ⟨fd, F⟩ := c.def_ 13 rfl
  exact tab_cons (ps := ["pattern", "at", "signs"]) t ⟨by kernel_rfl, by kernel_rfl, by kernel_rfl⟩ (by decide) (He.glo_ok X G (c.fact 13 rfl)) F.kp (FunD.bindsN F fun _ _ _ _ _ _ us hl => match us, hl with | [_, _, _], _ => rfl) len_crossed
    (def_in (B := baseOf P w K mg) (ps := ["pattern", "at", "signs"]) (fs := ["fits"]) (xs := []) F (by kernel_rfl) T (fun c hc => by cases hc) (mem_tab t (by decide)) (ok_crossed _ _ (has_of (by simp [t13, promises]))))
abbrev t14 : List (String × Con) := ("crossed", con_crossed) :: t13
theorem lk14 (X : K.In h) (G : h.Ns mainGlobals mg) (c : He.SaysD fa fn K) (T : Top P w (baseOf P w K mg) mg gc) (t : Tab P w (baseOf P w K mg) mg base 14 t14) : Tab P w (baseOf P w K mg) mg base 15 (("first_column", con_first) :: t14) := by
  obtain ⟨fd, F⟩ := c.def_ 14 rfl
  exact tab_cons (ps := ["pattern", "prices"]) t ⟨by kernel_rfl, by kernel_rfl, by kernel_rfl⟩ (by decide) (He.glo_ok X G (c.fact 14 rfl)) F.kp (FunD.bindsN F fun _ _ _ _ _ _ us hl => match us, hl with | [_, _], _ => rfl) len_first
    (def_in (B := baseOf P w K mg) (ps := ["pattern", "prices"]) (fs := ["dearer"]) (xs := []) F (by kernel_rfl) T (fun c hc => by cases hc) (mem_tab t (by decide)) (ok_first _ _ (has_of (by simp [t14, promises]))))
abbrev t15 : List (String × Con) := ("first_column", con_first) :: t14
theorem lk15 (X : K.In h) (G : h.Ns mainGlobals mg) (c : He.SaysD fa fn K) (T : Top P w (baseOf P w K mg) mg gc) (t : Tab P w (baseOf P w K mg) mg base 15 t15) : Tab P w (baseOf P w K mg) mg base 16 (("next_column", con_next) :: t15) := by
  obtain ⟨fd, F⟩ := c.def_ 15 rfl
  exact tab_cons (ps := ["pattern", "prices", "columns", "signs", "free"]) t ⟨by kernel_rfl, by kernel_rfl, by kernel_rfl⟩ (by decide) (He.glo_ok X G (c.fact 15 rfl)) F.kp (FunD.bindsN F fun _ _ _ _ _ _ us hl => match us, hl with | [_, _, _, _, _], _ => rfl) len_next
    (def_in (B := baseOf P w K mg) (ps := ["pattern", "prices", "columns", "signs", "free"]) (fs := ["met", "lower", "dearer", "crossed"]) (xs := []) F (by kernel_rfl) T (fun c hc => by cases hc) (mem_tab t (by decide)) (ok_next _ _ (has_of (by simp [t15, promises])) (has_of (by simp [t15, promises])) (has_of (by simp [t15, promises])) (has_of (by simp [t15, promises]))))
abbrev t16 : List (String × Con) := ("next_column", con_next) :: t15
theorem lk16 (X : K.In h) (G : h.Ns mainGlobals mg) (c : He.SaysD fa fn K) (T : Top P w (baseOf P w K mg) mg gc) (t : Tab P w (baseOf P w K mg) mg base 16 t16) : Tab P w (baseOf P w K mg) mg base 17 (("capped", con_capped) :: t16) := by
  obtain ⟨fd, F⟩ := c.def_ 16 rfl
  exact tab_cons (ps := ["column", "most"]) t ⟨by kernel_rfl, by kernel_rfl, by kernel_rfl⟩ (by decide) (He.glo_ok X G (c.fact 16 rfl)) F.kp (FunD.bindsN F fun _ _ _ _ _ _ us hl => match us, hl with | [_, _], _ => rfl) len_capped
    (def_in (B := baseOf P w K mg) (ps := ["column", "most"]) (fs := []) (xs := []) F (by kernel_rfl) T (fun c hc => by cases hc) (mem_tab t (by decide)) (ok_capped _ _))
abbrev t17 : List (String × Con) := ("capped", con_capped) :: t16
theorem lk17 (X : K.In h) (G : h.Ns mainGlobals mg) (c : He.SaysD fa fn K) (T : Top P w (baseOf P w K mg) mg gc) (t : Tab P w (baseOf P w K mg) mg base 17 t17) : Tab P w (baseOf P w K mg) mg base 18 (("sorts_of", con_sorts) :: t17) := by
  obtain ⟨fd, F⟩ := c.def_ 17 rfl
  exact tab_cons (ps := ["pattern"]) t ⟨by kernel_rfl, by kernel_rfl, by kernel_rfl⟩ (by decide) (He.glo_ok X G (c.fact 17 rfl)) F.kp (FunD.bindsN F fun _ _ _ _ _ _ us hl => match us, hl with | [_], _ => rfl) len_sorts
    (def_in (B := baseOf P w K mg) (ps := ["pattern"]) (fs := ["fits"]) (xs := []) F (by kernel_rfl) T (fun c hc => by cases hc) (mem_tab t (by decide)) (ok_sorts _ _ rfl (has_of (by simp [t17, promises]))))
abbrev t18 : List (String × Con) := ("sorts_of", con_sorts) :: t17
theorem lk18 (X : K.In h) (G : h.Ns mainGlobals mg) (c : He.SaysD fa fn K) (T : Top P w (baseOf P w K mg) mg gc) (t : Tab P w (baseOf P w K mg) mg base 18 t18) : Tab P w (baseOf P w K mg) mg base 19 (("columns_behind", con_behind) :: t18) := by
  obtain ⟨fd, F⟩ := c.def_ 18 rfl
  exact tab_cons (ps := ["pattern", "most", "prices", "column", "sorts"]) t ⟨by kernel_rfl, by kernel_rfl, by kernel_rfl⟩ (by decide) (He.glo_ok X G (c.fact 18 rfl)) F.kp (FunD.bindsN F fun _ _ _ _ _ _ us hl => match us, hl with | [_, _, _, _, _], _ => rfl) len_behind
    (def_in (B := baseOf P w K mg) (ps := ["pattern", "most", "prices", "column", "sorts"]) (fs := ["next_column", "capped"]) (xs := []) F (by kernel_rfl) T (fun c hc => by cases hc) (mem_tab t (by decide)) (ok_behind _ _ (has_of (by simp [t18, promises])) (has_of (by simp [t18, promises]))))
abbrev t19 : List (String × Con) := ("columns_behind", con_behind) :: t18
theorem lk19 (X : K.In h) (G : h.Ns mainGlobals mg) (c : He.SaysD fa fn K) (T : Top P w (baseOf P w K mg) mg gc) (t : Tab P w (baseOf P w K mg) mg base 19 t19) : Tab P w (baseOf P w K mg) mg base 20 (("rooms_for", con_rooms) :: t19) := by
  obtain ⟨fd, F⟩ := c.def_ 19 rfl
  exact tab_cons (ps := ["pattern", "most", "prices"]) t ⟨by kernel_rfl, by kernel_rfl, by kernel_rfl⟩ (by decide) (He.glo_ok X G (c.fact 19 rfl)) F.kp (FunD.bindsN F fun _ _ _ _ _ _ us hl => match us, hl with | [_, _, _], _ => rfl) len_rooms
    (def_in (B := baseOf P w K mg) (ps := ["pattern", "most", "prices"]) (fs := ["sorts_of", "capped", "first_column", "columns_behind"]) (xs := ["NoPrices", "TooMany"]) F (by kernel_rfl) T (fun c hc => by simp only [List.mem_cons, List.not_mem_nil, or_false] at hc; rcases hc with rfl | rfl <;> first | exact exc_0 X G c | exact exc_1 X G c) (mem_tab t (by decide)) (ok_rooms _ _ rfl (has_of (by simp [t19, promises])) (has_of (by simp [t19, promises])) (has_of (by simp [t19, promises])) (has_of (by simp [t19, promises]))))
abbrev t20 : List (String × Con) := ("rooms_for", con_rooms) :: t19
theorem lk20 (X : K.In h) (G : h.Ns mainGlobals mg) (c : He.SaysD fa fn K) (cn : SaysN fa fn gfs w K) (T : Top P w (baseOf P w K mg) mg gc) (t : Tab P w (baseOf P w K mg) mg base 20 t20) : Tab P w (baseOf P w K mg) mg base 21 (("_law_refused", con_refused34) :: t20) := by
  obtain ⟨fd, F⟩ := c.def_ 20 rfl
  exact tab_cons (ps := ["_law_pattern_here", "_law_most", "_law_prices", "_law_way"]) t ⟨by kernel_rfl, by kernel_rfl, by kernel_rfl⟩ (by decide) (He.glo_ok X G (c.fact 20 rfl)) F.kp (FunD.bindsN F fun _ _ _ _ _ _ us hl => match us, hl with | [_, _, _, _], _ => rfl) len_refused34
    (def_in (B := baseOf P w K mg) (ps := ["_law_pattern_here", "_law_most", "_law_prices", "_law_way"]) (fs := ["rooms_for"]) (xs := ["TooMany<FindError", "TooMany<TooMany", "TooMany<NoPrices", "TooMany<ValueError", "TooMany<NoPattern", "NoPrices<FindError", "NoPrices<TooMany", "NoPrices<NoPrices", "NoPrices<ValueError", "NoPrices<NoPattern"]) F (by kernel_rfl) T (fun c hc => by simp only [List.mem_cons, List.not_mem_nil, or_false] at hc; rcases hc with rfl | rfl | rfl | rfl | rfl | rfl | rfl | rfl | rfl | rfl <;> first | exact xp_0 X G cn | exact xp_1 X G cn | exact xp_2 X G cn | exact xp_3 X G cn | exact xp_4 X G cn | exact xp_5 X G cn | exact xp_6 X G cn | exact xp_7 X G cn | exact xp_8 X G cn | exact xp_9 X G cn) (mem_tab t (by decide)) (ok_refused34 _ _ (has_of (by simp [t20, promises]))))
abbrev t21 : List (String × Con) := ("_law_refused", con_refused34) :: t20
theorem lk_law (X : K.In h) (G : h.Ns mainGlobals mg) (c : He.SaysD fa fn K) (cn : SaysN fa fn gfs w K) (hfa : mg ("law" : Str) = some (.ref f)) : LamX.LawAtS PySem.Challenge.rw_nearfind_k34_rooms_refused w K (L2.CX prog w) 22 63 "_law_script" mg f h := by
  obtain ⟨fd, F⟩ := c.def_ 21 rfl
  have e := hfa.symm.trans (He.glo_ok X G (c.fact 21 rfl))
  cases e
  have b := FunD.bindsA (ps := ["_law_script"]) F fun _ _ _ _ _ _ us hl => match us, hl with | [_], _ => rfl
  refine ⟨fd, [], spCon (baseOf prog w K mg) mg 1 (conLaw 63), fun p hp => (by cases hp), fun p hp => (by cases hp), fun p hp => (by cases hp), fun s v => b s [v] rfl, fun H a ns hl hb _ hS => law_sp (B := baseOf prog w K mg) hl hb hS, fun base _ G2 _ => ?_⟩
  have T := top_ok (P := prog) (w := w) X G c cn
  have t0 : Tab prog w (baseOf prog w K mg) mg base 0 [] := tab_nil
  have t1' := lk0 X G c T t0
  have t2' := lk1 X G c T t1'
  have t3' := lk2 X G c T t2'
  have t4' := lk3 X G c T t3'
  have t5' := lk4 X G c T t4'
  have t6' := lk5 X G c T t5'
  have t7' := lk6 X G c T t6'
  have t8' := lk7 X G c T t7'
  have t9' := lk8 X G c T t8'
  have t10' := lk9 X G c T t9'
  have t11' := lk10 X G c T t10'
  have t12' := lk11 X G c T t11'
  have t13' := lk12 X G c T t12'
  have t14' := lk13 X G c T t13'
  have t15' := lk14 X G c T t14'
  have t16' := lk15 X G c T t15'
  have t17' := lk16 X G c T t16'
  have t18' := lk17 X G c T t17'
  have t19' := lk18 X G c T t18'
  have t20' := lk19 X G c T t19'
  have t21' := lk20 X G c cn T t20'
  exact def_in (B := baseOf prog w K mg) (ps := ["_law_script"]) (fs := ["_law_cell", "_law_pool", "_law_pattern", "_law_digits", "_law_refused", "_law_many", "rooms_for"]) (xs := []) F (by kernel_rfl) T (fun c hc => by cases hc) (mem_tab t21' (by decide)) (ok_k34_law _ _ (has_of (by simp [t21, promises])) (has_of (by simp [t21, promises])) (has_of (by simp [t21, promises])) (has_of (by simp [t21, promises])) (has_of (by simp [t21, promises])) (has_of (by simp [t21, promises])) (has_of (by simp [t21, promises])))
end
/-! the head -/
abbrev R : PySem.W.OpenRow := PySem.W.OpenLaw.row PySem.Challenge.rw_nearfind_k34_rooms_refused
abbrev hk : PySem.W.Hook := hookN 4 fa fn gfs
def ob (s : PySem.W.SharedT) : AlN := obsNG 4 fa fn gfs (HandSHeadRun.getT s)
theorem ob_eq (s : PySem.W.SharedT) : ob s = hk.obs s.abs := obsNG_eq (HandSHeadRun.getT_eq s)
def nm0 : List PySem.Str := ["FindError", "NoPattern", "NoPrices", "TooMany", "LETTERS", "fits", "lower", "dearer", "met", "crossed", "first_column", "next_column", "MOST_ROOMS", "capped", "sorts_of", "columns_behind", "rooms_for", "_law_cell", "_law_digits", "_law_pool", "_law_text", "_law_class", "_law_pattern", "_law_least", "_law_dearer", "_law_next", "_law_many", "_law_refused"]
abbrev names : List PySem.Str := nm0
theorem run (w : World) : HandSHeadRun.RunEq R (PySem.W.view R.prog [33]) hk ob 4000 names w := by
  intro os
  kernel_rfl
end Lk
open PySem PySem.W PySem.Calls PyProof.Rows
theorem PySem.Challenge.cw_nearfind_k34_rooms_refused_holds : PySem.Challenge.rw_nearfind_k34_rooms_refused.Holds := by
  w_on; o_law
  refine HandSHeadRun.head_any (r := OpenLaw.row PySem.Challenge.rw_nearfind_k34_rooms_refused) (q := view (OpenLaw.row PySem.Challenge.rw_nearfind_k34_rooms_refused).prog [33]) (H := Lk.hk) (ob := Lk.ob) (M := 4000) (loose := Lk.names) (d := HandSHeadRun.topDef (OpenLaw.row PySem.Challenge.rw_nearfind_k34_rooms_refused).prog 33) (kwd := []) Lk.ob_eq
    (by kernel_rfl) (fun s => by kernel_rfl) Lk.run (by kernel_rfl) (by kernel_rfl) (by kernel_rfl) (by rfl) (by first | assumption | decide +kernel) (by decide +kernel) ⟨rfl, rfl, rfl, rfl, rfl, by decide +kernel⟩ ?hw ?hc
  case hw => w_witness2
  case hc =>
    refine LamX.walk_ofTsE (l := PySem.Challenge.rw_nearfind_k34_rooms_refused) (n := 63) (k := 22) (x := "_law_script") (CX := fun w => L2.CX Lk.prog w) rfl (by decide) (by kernel_rfl) ⟨rfl, by decide, by decide⟩ ?F (fun _ _ _ _ _ z => Nf.cx_no z)
    intro w mg fa h Y G hmg0
    obtain ⟨K, KX, c⟩ := Y
    have hmg : mg ("law" : PySem.Str) = some (.ref fa) := by
      have e : (HandSHeadRun.topDef (OpenLaw.row PySem.Challenge.rw_nearfind_k34_rooms_refused).prog 33).name = ("law" : PySem.Str) := by kernel_rfl
      rw [← e]
      exact hmg0
    exact ⟨K, KX, Lk.lk_law KX G c.d c hmg⟩

