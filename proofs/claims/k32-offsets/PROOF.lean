import PyProof.Rows.All
import Wide.All
import OpenK.AllK
import Wide.FinOn
import HandS.ForMost
import HandS.Flow
import HandS.Style
import HandS.TupAny
import HandS.TupMul
import HandS.Deep
import HandS.TupLe
import HandS.IsInst
import HandS.Conv
import KE.SortData
import KE.GoesNew
import HandS.Defaults
import HandS.HeadEnd
import HandS.Star
import HandS.Head0
import HandS.Head1
import HandS.Head2
import HandS.HeadHook4
import PySem.Challenge.RW_lookturns_k32_whole_offsets
set_option Elab.async false
set_option linter.all false
set_option autoImplicit false
set_option maxRecDepth 100000
namespace DL
open PySem PySem.Spec L2

/-- data: what a value stands for, deep, without addresses -/
inductive D where
  | non
  | bl (b : Bool)
  | int (i : Int)
  | str (x : Str)
  | tup (ds : List D)
  | lst (ds : List D)
  | dct (ks vs : List D)
  | well

abbrev Frg := PySem.W.Frag

mutual
def D.same : D → D → Bool
  | .non, .non => true
  | .bl a, .bl b => decide (a = b)
  | .int a, .int b => decide (a = b)
  | .str a, .str b => decide (a = b)
  | .tup a, .tup b => sameAll a b
  | .lst a, .lst b => sameAll a b
  | .dct a b, .dct c d => sameAll a c && sameAll b d
  | .well, .well => true
  | _, _ => false
def sameAll : List D → List D → Bool
  | [], [] => true
  | a :: as, b :: bs => D.same a b && sameAll as bs
  | _, _ => false
end
mutual
theorem D.same_iff : ∀ a b : D, D.same a b = true ↔ a = b
  | .non, b => by cases b <;> simp [D.same]
  | .bl x, b => by cases b <;> simp [D.same]
  | .int x, b => by cases b <;> simp [D.same]
  | .str x, b => by cases b <;> simp [D.same]
  | .tup x, b => by cases b <;> simp [D.same, sameAll_iff x]
  | .lst x, b => by cases b <;> simp [D.same, sameAll_iff x]
  | .dct x y, b => by cases b <;> simp [D.same, sameAll_iff x, sameAll_iff y]
  | .well, b => by cases b <;> simp [D.same]
theorem sameAll_iff : ∀ as bs : List D, sameAll as bs = true ↔ as = bs
  | [], bs => by cases bs <;> simp [sameAll]
  | a :: as, bs => by cases bs <;> simp [sameAll, D.same_iff a, sameAll_iff as]
end
instance : DecidableEq D := fun a b => decidable_of_iff _ (D.same_iff a b)

/-- three ints in a list, whichever -/
def WellIn (p : Addr) (h : Heap) : Prop :=
  ∃ (a b c : Int) (t u v : Tok) (n : Nat), h.get? p = some { cls := .type "list", data := .seq #[.int a t, .int b u, .int c v] n }
abbrev wellO (p : Addr) : HO := .ext (WellIn p)

/-- what is never written -/
def fixed : HO → Bool
  | .tup _ => true
  | .frz _ _ => true
  | .ext _ => true
  | _ => false
def Imm (H H' : Hp) : Prop := ∀ b o, H b = some o → fixed o = true → H' b = some o
theorem Imm.refl (H : Hp) : Imm H H := fun _ _ h _ => h
theorem Imm.trans {H H1 H2 : Hp} (p : Imm H H1) (q : Imm H1 H2) : Imm H H2 := fun b o h k => q b o (p b o h k) k
theorem Imm.of {H H' : Hp} (s : Same H H') : Imm H H' := fun b o h _ => s b o h
theorem same_upd {H : Hp} {p : Addr} {o : HO} (h : H p = none) : Same H (upd H p o) := fun b u q => by
  rw [upd_ne (ne_of_none q h)]
  exact q
theorem imm_upd {H : Hp} {p : Addr} {o u : HO} (h : H p = some u) (k : fixed u = false) : Imm H (upd H p o) := fun b v q f => by
  have : b ≠ p := by
    rintro rfl
    rw [h] at q
    cases q
    rw [k] at f
    cases f
  rw [upd_ne this]
  exact q

/-- a list of the text's own top -/
def TopL (K : Frg) (a : Addr) (vs : List V) : Prop :=
  ∃ (its : Array Value) (n : Nat), K.lookup a = some { cls := .type "list", data := .seq its n } ∧ its.size ≤ sizeLine ∧ Vals vs its.toList
/-- a list that stands for ever -/
def FzL (K : Frg) (H : Hp) (a : Addr) (vs : List V) : Prop := (∃ o, H a = some (.frz o (.lst vs))) ∨ TopL K a vs
theorem FzL.seq {K : Frg} {H : Hp} {a : Addr} {vs : List V} (h : FzL K H a vs) : SqL K H a vs := by
  rcases h with ⟨o, h⟩ | h
  · exact .inl (.inr ⟨o, h⟩)
  · obtain ⟨its, n, h1, h2, h3⟩ := h
    exact .inr ⟨_, its, n, h1, rfl, rfl, rfl, h2, h3⟩
theorem FzL.keep {K : Frg} {H H' : Hp} {a : Addr} {vs : List V} (h : FzL K H a vs) (i : Imm H H') : FzL K H' a vs := by
  rcases h with ⟨o, h⟩ | h
  · exact .inl ⟨o, i _ _ h rfl⟩
  · exact .inr h
theorem sqT_keep {K : Frg} {H H' : Hp} {a : Addr} {vs : List V} (h : SqT K H a vs) (i : Imm H H') : SqT K H' a vs := by
  rcases h with (h | ⟨o, h⟩) | h
  · exact .inl (.inl (i _ _ h rfl))
  · exact .inl (.inr ⟨o, i _ _ h rfl⟩)
  · exact .inr h

/-- keys as data -/
def kD : Key → D
  | .inl i => .int i
  | .inr x => .str x
def ktD (k : List Key) : D := .tup (k.map kD)
/-- a dict that stands for ever -/
def FzD (H : Hp) (a : Addr) (ks : List D) (vs : List V) : Prop :=
  (∃ o kvs, H a = some (.frz o (.dK kvs)) ∧ ks = kvs.map (fun p => kD p.1) ∧ vs = kvs.map (·.2)) ∨
  ∃ o kvs, H a = some (.frz o (.dT kvs)) ∧ ks = kvs.map (fun p => ktD p.1) ∧ vs = kvs.map (·.2)
theorem FzD.keep {H H' : Hp} {a : Addr} {ks : List D} {vs : List V} (h : FzD H a ks vs) (i : Imm H H') : FzD H' a ks vs := by
  rcases h with ⟨o, kvs, h, e⟩ | ⟨o, kvs, h, e⟩
  · exact .inl ⟨o, kvs, i _ _ h rfl, e⟩
  · exact .inr ⟨o, kvs, i _ _ h rfl, e⟩

mutual
/-- a value stands for data, and for ever -/
inductive Rep (K : Frg) (H : Hp) : V → D → Prop where
  | non : Rep K H .non .non
  | bl (b : Bool) : Rep K H (.bl b) (.bl b)
  | int (i : Int) : Rep K H (.int i) (.int i)
  | str (x : Str) : Rep K H (.str x) (.str x)
  | tup {a : Addr} {vs : List V} {ds : List D} (h : SqT K H a vs) (r : Reps K H vs ds) : Rep K H (.ref a) (.tup ds)
  | lst {a : Addr} {vs : List V} {ds : List D} (h : FzL K H a vs) (r : Reps K H vs ds) : Rep K H (.ref a) (.lst ds)
  | dct {a : Addr} {ks : List D} {vs : List V} {ds : List D} (h : FzD H a ks vs) (r : Reps K H vs ds) : Rep K H (.ref a) (.dct ks ds)
  | well {p : Addr} (h : H p = some (wellO p)) : Rep K H (.ref p) .well
inductive Reps (K : Frg) (H : Hp) : List V → List D → Prop where
  | nil : Reps K H [] []
  | cons {v : V} {d : D} {vs : List V} {ds : List D} (h : Rep K H v d) (r : Reps K H vs ds) : Reps K H (v :: vs) (d :: ds)
end

section
variable {K : Frg} {H H' : Hp} {v : V} {d : D} {vs ws : List V} {ds es : List D}
mutual
theorem Rep.keep (i : Imm H H') : ∀ {v : V} {d : D}, Rep K H v d → Rep K H' v d
  | _, _, .non => .non
  | _, _, .bl b => .bl b
  | _, _, .int j => .int j
  | _, _, .str x => .str x
  | _, _, .tup h r => .tup (sqT_keep h i) (Reps.keep i r)
  | _, _, .lst h r => .lst (h.keep i) (Reps.keep i r)
  | _, _, .dct h r => .dct (h.keep i) (Reps.keep i r)
  | _, _, .well h => .well (i _ _ h rfl)
theorem Reps.keep (i : Imm H H') : ∀ {vs : List V} {ds : List D}, Reps K H vs ds → Reps K H' vs ds
  | _, _, .nil => .nil
  | _, _, .cons h r => .cons (Rep.keep i h) (Reps.keep i r)
end
theorem Reps.length : ∀ {vs : List V} {ds : List D}, Reps K H vs ds → vs.length = ds.length
  | _, _, .nil => rfl
  | _, _, .cons _ r => congrArg (· + 1) r.length
theorem Reps.append : ∀ {vs ws : List V} {ds es : List D}, Reps K H vs ds → Reps K H ws es → Reps K H (vs ++ ws) (ds ++ es)
  | _, _, _, _, .nil, q => q
  | _, _, _, _, .cons h r, q => .cons h (r.append q)
theorem Reps.get : ∀ {vs : List V} {ds : List D} {i : Nat} {d : D}, Reps K H vs ds → ds[i]? = some d → ∃ v, vs[i]? = some v ∧ Rep K H v d
  | _, _, _, _, .nil, e => by simp at e
  | _, _, 0, _, .cons h _, e => by
    simp at e
    subst e
    exact ⟨_, by simp, h⟩
  | _, _, i + 1, _, .cons _ r, e => by
    obtain ⟨v, h1, h2⟩ := r.get (i := i) (by simpa using e)
    exact ⟨v, by simpa using h1, h2⟩
theorem Reps.getV : ∀ {vs : List V} {ds : List D} {i : Nat} {v : V}, Reps K H vs ds → vs[i]? = some v → ∃ d, ds[i]? = some d ∧ Rep K H v d
  | _, _, _, _, .nil, e => by simp at e
  | _, _, 0, _, .cons h _, e => by
    simp at e
    subst e
    exact ⟨_, by simp, h⟩
  | _, _, i + 1, _, .cons _ r, e => by
    obtain ⟨v, h1, h2⟩ := r.getV (i := i) (by simpa using e)
    exact ⟨v, by simpa using h1, h2⟩
theorem Reps.set {v : V} {d : D} (h : Rep K H v d) : ∀ {vs : List V} {ds : List D} (i : Nat), Reps K H vs ds → Reps K H (vs.set i v) (ds.set i d)
  | _, _, _, .nil => .nil
  | _, _, 0, .cons _ r => .cons h r
  | _, _, i + 1, .cons q r => .cons q (Reps.set h i r)
theorem Reps.erase : ∀ {vs : List V} {ds : List D} (i : Nat), Reps K H vs ds → Reps K H (vs.eraseIdx i) (ds.eraseIdx i)
  | _, _, _, .nil => .nil
  | _, _, 0, .cons _ r => r
  | _, _, i + 1, .cons q r => .cons q (Reps.erase i r)
theorem Reps.take : ∀ {vs : List V} {ds : List D} (n : Nat), Reps K H vs ds → Reps K H (vs.take n) (ds.take n)
  | _, _, 0, _ => .nil
  | _, _, _ + 1, .nil => .nil
  | _, _, n + 1, .cons h r => .cons h (Reps.take n r)
theorem Reps.drop : ∀ {vs : List V} {ds : List D} (n : Nat), Reps K H vs ds → Reps K H (vs.drop n) (ds.drop n)
  | _, _, 0, r => r
  | _, _, _ + 1, .nil => .nil
  | _, _, n + 1, .cons _ r => Reps.drop n r
theorem Reps.reverse : ∀ {vs : List V} {ds : List D}, Reps K H vs ds → Reps K H vs.reverse ds.reverse
  | _, _, .nil => .nil
  | _, _, .cons h r => by
    rw [List.reverse_cons, List.reverse_cons]
    exact (Reps.reverse r).append (.cons h .nil)
theorem Reps.ints : ∀ {vs : List V} {ns : List Int}, Reps K H vs (ns.map D.int) → vs = ns.map V.int
  | _, [], .nil => rfl
  | _, _ :: _, .cons (.int _) r => by rw [r.ints]; rfl
theorem Reps.of_ints : ∀ (ns : List Int), Reps K H (ns.map V.int) (ns.map D.int)
  | [] => .nil
  | n :: ns => .cons (.int n) (Reps.of_ints ns)
theorem Reps.strs : ∀ {vs : List V} {ns : List Str}, Reps K H vs (ns.map D.str) → vs = ns.map V.str
  | _, [], .nil => rfl
  | _, _ :: _, .cons (.str _) r => by rw [r.strs]; rfl
theorem Reps.of_strs : ∀ (ns : List Str), Reps K H (ns.map V.str) (ns.map D.str)
  | [] => .nil
  | n :: ns => .cons (.str n) (Reps.of_strs ns)
theorem Reps.bls : ∀ {vs : List V} {ns : List Bool}, Reps K H vs (ns.map D.bl) → vs = ns.map V.bl
  | _, [], .nil => rfl
  | _, _ :: _, .cons (.bl _) r => by rw [r.bls]; rfl
end

/-- what a name holds: something that stands for ever (sh), or a list or dict that this frame alone knows and may change (ow) -/
inductive Slot where
  | sh (d : D)
  | ow (d : D)
abbrev DEnv := List (Option Slot)

/-- a list or a dict of one's own -/
def OwnAt (K : Frg) (H : Hp) (a : Addr) : D → Prop
  | .lst ds => ∃ vs, H a = some (.lst vs) ∧ Reps K H vs ds
  | .dct ks ds => (∃ kvs, H a = some (.dK kvs) ∧ ks = kvs.map (fun p => kD p.1) ∧ Reps K H (kvs.map (·.2)) ds) ∨
      ∃ kvs, H a = some (.dT kvs) ∧ ks = kvs.map (fun p => ktD p.1) ∧ Reps K H (kvs.map (·.2)) ds
  | _ => False
theorem OwnAt.keep {K : Frg} {H H' : Hp} {a : Addr} (i : Imm H H') (e : H' a = H a) : ∀ {d : D}, OwnAt K H a d → OwnAt K H' a d
  | .lst _, ⟨vs, h, r⟩ => ⟨vs, e.trans h, r.keep i⟩
  | .dct _ _, .inl ⟨kvs, h, q, r⟩ => .inl ⟨kvs, e.trans h, q, r.keep i⟩
  | .dct _ _, .inr ⟨kvs, h, q, r⟩ => .inr ⟨kvs, e.trans h, q, r.keep i⟩
theorem OwnAt.some {K : Frg} {H : Hp} {a : Addr} : ∀ {d : D}, OwnAt K H a d → ∃ o, H a = Option.some o ∧ fixed o = false ∧ Mut (Option.some o)
  | .lst _, ⟨_, h, _⟩ => ⟨_, h, rfl, trivial⟩
  | .dct _ _, .inl ⟨_, h, _, _⟩ => ⟨_, h, rfl, trivial⟩
  | .dct _ _, .inr ⟨_, h, _, _⟩ => ⟨_, h, rfl, trivial⟩
/-- frozen, it stands for ever -/
theorem OwnAt.freeze {K : Frg} {H : Hp} {a : Addr} {o : HO} {ob : Obj} (h0 : H a = Option.some o) (h : ∀ {d : D}, OwnAt K H a d → True) : ∀ {d : D}, OwnAt K H a d → Rep K (upd H a (.frz ob o)) (.ref a) d
  | .lst _, ⟨vs, e, r⟩ => by
    rw [h0] at e
    cases e
    exact .lst (.inl ⟨ob, upd_same⟩) (r.keep (imm_upd h0 rfl))
  | .dct _ _, .inl ⟨kvs, e, q, r⟩ => by
    rw [h0] at e
    cases e
    exact .dct (.inl ⟨ob, kvs, upd_same, q, rfl⟩) (r.keep (imm_upd h0 rfl))
  | .dct _ _, .inr ⟨kvs, e, q, r⟩ => by
    rw [h0] at e
    cases e
    exact .dct (.inr ⟨ob, kvs, upd_same, q, rfl⟩) (r.keep (imm_upd h0 rfl))

/-- the frame: what its names stand for; H0 is what stood at the entry -/
structure R (K : Frg) (H0 : Hp) (ρ : DEnv) (σ : St) (H : Hp) : Prop where
  len : ρ.length = σ.length
  sh : ∀ (i : Nat) (d : D), ρ[i]? = some (some (Slot.sh d)) → ∃ v, σ[i]? = some (some v) ∧ Rep K H v d
  ow : ∀ (i : Nat) (d : D), ρ[i]? = some (some (Slot.ow d)) → ∃ a, σ[i]? = some (some (V.ref a)) ∧ OwnAt K H a d ∧ H0 a = none
  dis : ∀ (i j : Nat) (d e : D) (a : Addr), i ≠ j → ρ[i]? = some (some (Slot.ow d)) → ρ[j]? = some (some (Slot.ow e)) → σ[i]? = some (some (V.ref a)) → σ[j]? ≠ some (some (V.ref a))
  same : Same H0 H
section
variable {K : Frg} {H0 : Hp} {ρ ρ' : DEnv} {σ σ' : St} {H H' : Hp}
/-- the heap has grown -/
theorem R.grow (r : R K H0 ρ σ H) (s : Same H H') : R K H0 ρ σ H' where
  len := r.len
  sh := fun i d e => let ⟨v, h, q⟩ := r.sh i d e; ⟨v, h, q.keep (.of s)⟩
  ow := fun i d e => let ⟨a, h, q, n⟩ := r.ow i d e; ⟨a, h, q.keep (.of s) (let ⟨o, z, _⟩ := q.some; (s _ _ z).trans z.symm), n⟩
  dis := r.dis
  same := r.same.trans s
/-- names forgotten -/
theorem R.sub (r : R K H0 ρ σ H) (hl : ρ'.length = σ'.length) (h : ∀ (i : Nat) (s : Slot), ρ'[i]? = some (some s) → ρ[i]? = some (some s) ∧ σ'[i]? = σ[i]?) : R K H0 ρ' σ' H where
  len := hl
  sh := fun i d e => let ⟨v, q, w⟩ := r.sh i d (h i _ e).1; ⟨v, (h i _ e).2.trans q, w⟩
  ow := fun i d e => let ⟨a, q, w⟩ := r.ow i d (h i _ e).1; ⟨a, (h i _ e).2.trans q, w⟩
  dis := fun i j d e a n p q s => by
    rw [(h j _ q).2]
    rw [(h i _ p).2] at s
    exact r.dis i j d e a n (h i _ p).1 (h j _ q).1 s
  same := r.same
theorem R.lt (r : R K H0 ρ σ H) {i : Nat} {s : Option Slot} (e : ρ[i]? = some s) : i < σ.length := by
  rw [← r.len]
  exact (List.getElem?_eq_some_iff.mp e).1
/-- a name is given what stands for ever -/
theorem R.set (r : R K H0 ρ σ H) {i : Nat} {v : V} {d : D} (h : Rep K H v d) : R K H0 (ρ.set i (some (Slot.sh d))) (σ.set i (some v)) H where
  len := by rw [List.length_set, List.length_set]; exact r.len
  sh := fun j e q => by
    by_cases hj : i = j
    · subst hj
      have hi : i < ρ.length := by
        have := (List.getElem?_eq_some_iff.mp q).1
        rwa [List.length_set] at this
      rw [List.getElem?_set_self hi] at q
      cases q
      exact ⟨v, List.getElem?_set_self (by rw [← r.len]; exact hi), h⟩
    · rw [List.getElem?_set_ne hj] at q
      rw [List.getElem?_set_ne hj]
      exact r.sh j e q
  ow := fun j e q => by
    by_cases hj : i = j
    · subst hj
      have hi : i < ρ.length := by
        have := (List.getElem?_eq_some_iff.mp q).1
        rwa [List.length_set] at this
      rw [List.getElem?_set_self hi] at q
      cases q
    · rw [List.getElem?_set_ne hj] at q
      rw [List.getElem?_set_ne hj]
      exact r.ow j e q
  dis := fun j k d e a n p q s => by
    have hne : ∀ {j : Nat} {d : D}, (ρ.set i (some (Slot.sh d)))[j]? = some (some (Slot.ow d)) → True := fun _ => trivial
    have nj : i ≠ j := by
      rintro rfl
      have hi := (List.getElem?_eq_some_iff.mp p).1
      rw [List.length_set] at hi
      rw [List.getElem?_set_self hi] at p
      cases p
    have nk : i ≠ k := by
      rintro rfl
      have hi := (List.getElem?_eq_some_iff.mp q).1
      rw [List.length_set] at hi
      rw [List.getElem?_set_self hi] at q
      cases q
    rw [List.getElem?_set_ne nj] at p s
    rw [List.getElem?_set_ne nk] at q ⊢
    exact r.dis j k d e a n p q s
  same := r.same
/-- a name is given a list or a dict of its own: no other name of the frame has it -/
theorem R.setOw (r : R K H0 ρ σ H) {i : Nat} {a : Addr} {d : D} (h : OwnAt K H a d) (h0 : H0 a = none) (hn : ∀ (j : Nat) (e : D), ρ[j]? = some (some (Slot.ow e)) → σ[j]? ≠ some (some (V.ref a))) :
    R K H0 (ρ.set i (some (Slot.ow d))) (σ.set i (some (V.ref a))) H where
  len := by rw [List.length_set, List.length_set]; exact r.len
  sh := fun j e q => by
    by_cases hj : i = j
    · subst hj
      have hi := (List.getElem?_eq_some_iff.mp q).1
      rw [List.length_set] at hi
      rw [List.getElem?_set_self hi] at q
      cases q
    · rw [List.getElem?_set_ne hj] at q
      rw [List.getElem?_set_ne hj]
      exact r.sh j e q
  ow := fun j e q => by
    by_cases hj : i = j
    · subst hj
      have hi := (List.getElem?_eq_some_iff.mp q).1
      rw [List.length_set] at hi
      rw [List.getElem?_set_self hi] at q
      cases q
      exact ⟨a, List.getElem?_set_self (by rw [← r.len]; exact hi), h, h0⟩
    · rw [List.getElem?_set_ne hj] at q
      rw [List.getElem?_set_ne hj]
      exact r.ow j e q
  dis := fun j k d' e b n p q s => by
    by_cases hj : i = j
    · subst hj
      have hi := (List.getElem?_eq_some_iff.mp p).1
      rw [List.length_set] at hi
      rw [List.getElem?_set_self (by rw [← r.len]; exact hi)] at s
      cases s
      rw [List.getElem?_set_ne n] at q ⊢
      exact hn k e q
    · rw [List.getElem?_set_ne hj] at p s
      by_cases hk : i = k
      · subst hk
        have hi := (List.getElem?_eq_some_iff.mp q).1
        rw [List.length_set] at hi
        rw [List.getElem?_set_self (by rw [← r.len]; exact hi)]
        intro z
        cases z
        exact hn j d' p s
      · rw [List.getElem?_set_ne hk] at q ⊢
        exact r.dis j k d' e b n p q s
  same := r.same
/-- the own thing of the name i has changed -/
theorem R.write (r : R K H0 ρ σ H) {i : Nat} {a : Addr} {d d' : D} {o : HO} (e : ρ[i]? = some (some (Slot.ow d))) (ea : σ[i]? = some (some (V.ref a))) (h : OwnAt K (upd H a o) a d') : R K H0 (ρ.set i (some (Slot.ow d'))) σ (upd H a o) := by
  obtain ⟨a', ea', oa, h0⟩ := r.ow i d e
  rw [ea] at ea'
  cases ea'
  obtain ⟨o₀, z, fx, _⟩ := oa.some
  have im : Imm H (upd H a o) := imm_upd z fx
  have hi : i < ρ.length := (List.getElem?_eq_some_iff.mp e).1
  refine ⟨by rw [List.length_set]; exact r.len, fun j f q => ?_, fun j f q => ?_, fun j k f g b n p q s => ?_, fun b u q => ?_⟩
  · have nj : i ≠ j := by
      rintro rfl
      rw [List.getElem?_set_self hi] at q
      cases q
    rw [List.getElem?_set_ne nj] at q
    obtain ⟨v, h1, h2⟩ := r.sh j f q
    exact ⟨v, h1, h2.keep im⟩
  · by_cases nj : i = j
    · subst nj
      rw [List.getElem?_set_self hi] at q
      cases q
      exact ⟨a, ea, h, h0⟩
    · rw [List.getElem?_set_ne nj] at q
      obtain ⟨b, h1, h2, h3⟩ := r.ow j f q
      refine ⟨b, h1, h2.keep im (upd_ne ?_), h3⟩
      rintro rfl
      exact r.dis i j d f b nj e q ea h1
  · have back : ∀ {j : Nat} {f : D}, (ρ.set i (some (Slot.ow d')))[j]? = some (some (Slot.ow f)) → ∃ f', ρ[j]? = some (some (Slot.ow f')) := fun {j f} q => by
      by_cases nj : i = j
      · subst nj
        exact ⟨d, e⟩
      · rw [List.getElem?_set_ne nj] at q
        exact ⟨f, q⟩
    obtain ⟨f', p'⟩ := back p
    obtain ⟨g', q'⟩ := back q
    exact r.dis j k f' g' b n p' q' s
  · have nb : b ≠ a := by
      rintro rfl
      rw [h0] at q
      cases q
    rw [upd_ne nb]
    exact r.same b u q
/-- the own thing of the name i is frozen: it is shared from now on -/
theorem R.freeze (r : R K H0 ρ σ H) {i : Nat} {d : D} (e : ρ[i]? = some (some (Slot.ow d))) : ∃ (a : Addr) (o : HO), σ[i]? = some (some (V.ref a)) ∧ H a = some o ∧ Mut (some o) ∧ fixed o = false ∧
    ∀ ob, Rep K (upd H a (.frz ob o)) (.ref a) d ∧ R K H0 (ρ.set i (some (Slot.sh d))) σ (upd H a (.frz ob o)) ∧ Imm H (upd H a (.frz ob o)) := by
  obtain ⟨a, ea, oa, h0⟩ := r.ow i d e
  obtain ⟨o, z, fx, mu⟩ := oa.some
  refine ⟨a, o, ea, z, mu, fx, fun ob => ?_⟩
  have im : Imm H (upd H a (.frz ob o)) := imm_upd z fx
  have rp : Rep K (upd H a (.frz ob o)) (.ref a) d := OwnAt.freeze z (fun _ => trivial) oa
  have hi : i < ρ.length := (List.getElem?_eq_some_iff.mp e).1
  refine ⟨rp, ⟨by rw [List.length_set]; exact r.len, fun j f q => ?_, fun j f q => ?_, fun j k f g b n p q s => ?_, fun b u q => ?_⟩, im⟩
  · by_cases nj : i = j
    · subst nj
      rw [List.getElem?_set_self hi] at q
      cases q
      exact ⟨.ref a, ea, rp⟩
    · rw [List.getElem?_set_ne nj] at q
      obtain ⟨v, h1, h2⟩ := r.sh j f q
      exact ⟨v, h1, h2.keep im⟩
  · have nj : i ≠ j := by
      rintro rfl
      rw [List.getElem?_set_self hi] at q
      cases q
    rw [List.getElem?_set_ne nj] at q
    obtain ⟨b, h1, h2, h3⟩ := r.ow j f q
    refine ⟨b, h1, h2.keep im (upd_ne ?_), h3⟩
    rintro rfl
    exact r.dis i j d f b nj e q ea h1
  · have nj : i ≠ j := by
      rintro rfl
      rw [List.getElem?_set_self hi] at p
      cases p
    have nk : i ≠ k := by
      rintro rfl
      rw [List.getElem?_set_self hi] at q
      cases q
    rw [List.getElem?_set_ne nj] at p
    rw [List.getElem?_set_ne nk] at q
    exact r.dis j k f g b n p q s
  · have nb : b ≠ a := by
      rintro rfl
      rw [h0] at q
      cases q
    rw [upd_ne nb]
    exact r.same b u q
end

def Own (ρ : DEnv) (σ : L2.St) (b : Addr) : Prop := ∃ (j : Nat) (d : D), ρ[j]? = some (some (Slot.ow d)) ∧ σ[j]? = some (some (V.ref b))
structure Ev (ρ : DEnv) (σ : L2.St) (H : Hp) (ρ' : DEnv) (σ' : L2.St) (H' : Hp) : Prop where
  own : ∀ b, Own ρ' σ' b → Own ρ σ b ∨ H b = none
  stay : ∀ b o, H b = some o → ¬ Own ρ σ b → H' b = some o
  dom : ∀ b o, H b = some o → ∃ o', H' b = some o'
section
variable {K : Frg} {H0 H H1 H2 H' : Hp} {ρ ρ1 ρ2 ρ' : DEnv} {σ σ1 σ2 σ' : L2.St} {a : Addr}
theorem Ev.refl (H : Hp) : Ev ρ σ H ρ σ H := ⟨fun _ h => .inl h, fun _ _ h _ => h, fun _ o h => ⟨o, h⟩⟩
theorem Ev.of (s : Same H H') : Ev ρ σ H ρ σ H' := ⟨fun _ h => .inl h, fun b o h _ => s b o h, fun b o h => ⟨o, s b o h⟩⟩
theorem Ev.back (e : Ev ρ σ H ρ' σ' H') {b : Addr} (h : H' b = none) : H b = none := by
  cases q : H b with
  | none => rfl
  | some o =>
    obtain ⟨o', z⟩ := e.dom b o q
    rw [h] at z
    cases z
theorem Ev.trans (x : Ev ρ σ H ρ1 σ1 H1) (y : Ev ρ1 σ1 H1 ρ2 σ2 H2) : Ev ρ σ H ρ2 σ2 H2 where
  own := fun b h => by
    rcases y.own b h with h | h
    · exact x.own b h
    · exact .inr (x.back h)
  stay := fun b o h n => y.stay b o (x.stay b o h n) fun z => by
    rcases x.own b z with z | z
    · exact n z
    · rw [h] at z
      cases z
  dom := fun b o h => let ⟨o1, h1⟩ := x.dom b o h; y.dom b o1 h1
theorem R.own_some (r : R K H0 ρ σ H) {b : Addr} (h : Own ρ σ b) : ∃ o, H b = some o ∧ fixed o = false := by
  obtain ⟨j, d, e1, e2⟩ := h
  obtain ⟨a, h1, h2, _⟩ := r.ow j d e1
  rw [e2] at h1
  cases h1
  obtain ⟨o, z, f, _⟩ := h2.some
  exact ⟨o, z, f⟩
theorem Ev.imm (x : Ev ρ σ H ρ' σ' H') (r : R K H0 ρ σ H) : Imm H H' := fun b o h f => x.stay b o h fun z => by
  obtain ⟨o', h', f'⟩ := r.own_some z
  rw [h] at h'
  cases h'
  rw [f] at f'
  cases f'
theorem Ev.upd_new (x : Ev ρ σ H ρ' σ' H') (n : H a = none) {o : HO} : Ev ρ σ H ρ' σ' (upd H' a o) where
  own := x.own
  stay := fun b u h k => by
    rw [upd_ne (ne_of_none h n)]
    exact x.stay b u h k
  dom := fun b u h => by
    rw [upd_ne (ne_of_none h n)]
    exact x.dom b u h
/-- an own thing has been written or frozen -/
theorem Ev.upd_own (r : R K H0 ρ σ H) (h : Own ρ σ a) {o : HO} (hs : ∀ b, Own ρ' σ' b → Own ρ σ b) : Ev ρ σ H ρ' σ' (upd H a o) where
  own := fun b z => .inl (hs b z)
  stay := fun b u q n => by
    have : b ≠ a := by
      rintro rfl
      exact n h
    rw [upd_ne this]
    exact q
  dom := fun b u q => by
    by_cases e : b = a
    · subst e
      exact ⟨o, upd_same⟩
    · exact ⟨u, by rw [upd_ne e]; exact q⟩
theorem own_set_ow {i : Nat} {d d' : D} (e : ρ[i]? = some (some (Slot.ow d))) (b : Addr) (h : Own (ρ.set i (some (Slot.ow d'))) σ b) : Own ρ σ b := by
  obtain ⟨j, f, h1, h2⟩ := h
  by_cases hj : i = j
  · subst hj
    exact ⟨i, d, e, h2⟩
  · rw [List.getElem?_set_ne hj] at h1
    exact ⟨j, f, h1, h2⟩
theorem own_set_sh {i : Nat} {d : D} (b : Addr) (h : Own (ρ.set i (some (Slot.sh d))) σ b) : Own ρ σ b := by
  obtain ⟨j, f, h1, h2⟩ := h
  by_cases hj : i = j
  · subst hj
    have hi := (List.getElem?_eq_some_iff.mp h1).1
    rw [List.length_set] at hi
    rw [List.getElem?_set_self hi] at h1
    cases h1
  · rw [List.getElem?_set_ne hj] at h1
    exact ⟨j, f, h1, h2⟩
/-- a thing of nobody's is written -/
theorem R.updAlone (r : R K H0 ρ σ H) {o u : HO} (h : H a = some u) (f : fixed u = false) (h0 : H0 a = Option.none) (no : ¬ Own ρ σ a) : R K H0 ρ σ (upd H a o) := by
  have im : Imm H (upd H a o) := imm_upd h f
  refine ⟨r.len, fun j f q => ?_, fun j f q => ?_, r.dis, fun b u q => ?_⟩
  · obtain ⟨v, h1, h2⟩ := r.sh j f q
    exact ⟨v, h1, h2.keep im⟩
  · obtain ⟨b, h1, h2, h3⟩ := r.ow j f q
    refine ⟨b, h1, h2.keep im (upd_ne ?_), h3⟩
    rintro rfl
    exact no ⟨j, f, q, h1⟩
  · have nb : b ≠ a := by
      rintro rfl
      rw [h0] at q
      cases q
    rw [upd_ne nb]
    exact r.same b u q
end
end DL
namespace DL
open PySem PySem.Spec L2

theorem pe_imp {X : Cx} {e : Expr} {t t' : TE} (h : PE X e t) (k : ∀ σ H Q, t' σ H Q → t σ H Q) : PE X e t' := ⟨fun pins s σ H Q I hw => h.run pins s σ H Q I (k _ _ _ hw)⟩
theorem pt_imp {X : Cx} {e : Expr} {t t' : TT} (h : PT X e t) (k : ∀ σ H Q, t' σ H Q → t σ H Q) : PT X e t' := ⟨fun pins s σ H Q I hw => h.run pins s σ H Q I (k _ _ _ hw)⟩
theorem pw_imp {X : Cx} {e : Expr} {t t' : TT} (h : PW X e t) (k : ∀ σ H Q, t' σ H Q → t σ H Q) : PW X e t' := ⟨fun wh pins s σ H Q I hw => h.run wh pins s σ H Q I (k _ _ _ hw)⟩
theorem pa_imp {X : Cx} {e : List Expr} {t t' : TA} (h : PA X e t) (k : ∀ σ H Q, t' σ H Q → t σ H Q) : PA X e t' := ⟨fun pos pins s σ H Q I hw => h.run pos pins s σ H Q I (k _ _ _ hw)⟩
theorem ps_imp {X : Cx} {e : Stmt} {t t' : TS} (h : PS X e t) (k : ∀ D σ H, t' D σ H → t D σ H) : PS X e t' := ⟨fun pins s σ H D I hw => h.run pins s σ H D I (k _ _ _ hw)⟩
theorem pss_imp {X : Cx} {e : List Stmt} {t t' : TS} (h : PSs X e t) (k : ∀ D σ H, t' D σ H → t D σ H) : PSs X e t' := ⟨fun pins s σ H D I hw => h.run pins s σ H D I (k _ _ _ hw)⟩
theorem pi_imp {X : Cx} {tg e : Expr} {t t' : TI} (h : PI X tg e t) (k : ∀ σ H Q, t' σ H Q → t σ H Q) : PI X tg e t' := ⟨fun pins s σ H Q I hw => h.run pins s σ H Q I (k _ _ _ hw)⟩
theorem pe_or {X : Cx} {e : Expr} {t t' : TE} (h : PE X e t) (h' : PE X e t') : PE X e (fun σ H Q => t σ H Q ∨ t' σ H Q) := ⟨fun pins s σ H Q I hw => hw.elim (h.run pins s σ H Q I) (h'.run pins s σ H Q I)⟩
theorem pi_or {X : Cx} {tg e : Expr} {t t' : TI} (h : PI X tg e t) (h' : PI X tg e t') : PI X tg e (fun σ H Q => t σ H Q ∨ t' σ H Q) := ⟨fun pins s σ H Q I hw => hw.elim (h.run pins s σ H Q I) (h'.run pins s σ H Q I)⟩

abbrev WE := DEnv → (D → DEnv → Prop) → Prop
abbrev WT := DEnv → (Bool → DEnv → Prop) → Prop
abbrev WA := DEnv → (List D → DEnv → Prop) → Prop
/-- the value stands for what w says -/
def tD (K : Frg) (w : WE) : TE := fun σ H Q => ∃ H0 ρ Qd, R K H0 ρ σ H ∧ w ρ Qd ∧ ∀ v d H' ρ', Qd d ρ' → R K H0 ρ' σ H' → Rep K H' v d → Ev ρ σ H ρ' σ H' → Q v H'
def tDT (K : Frg) (w : WT) : TT := fun σ H Q => ∃ H0 ρ Qd, R K H0 ρ σ H ∧ w ρ Qd ∧ ∀ b H' ρ', Qd b ρ' → R K H0 ρ' σ H' → Ev ρ σ H ρ' σ H' → Q b H'
def tDA (K : Frg) (w : WA) : TA := fun σ H Q => ∃ H0 ρ Qd, R K H0 ρ σ H ∧ w ρ Qd ∧ ∀ vs ds H' ρ', Qd ds ρ' → R K H0 ρ' σ H' → Reps K H' vs ds → Ev ρ σ H ρ' σ H' → Q vs H'
/-- .. a new list or dict that nobody else knows -/
def Alone (H : Hp) (ρ : DEnv) (σ : L2.St) (a : Addr) : Prop := H a = none ∧ ¬ Own ρ σ a
def tDF (K : Frg) (w : WE) : TE := fun σ H Q => ∃ H0 ρ Qd, R K H0 ρ σ H ∧ w ρ Qd ∧ ∀ a d H' ρ', Qd d ρ' → R K H0 ρ' σ H' → OwnAt K H' a d → Alone H ρ' σ a → Ev ρ σ H ρ' σ H' → Q (.ref a) H'
abbrev DE (X : Cx) (e : Expr) (w : WE) : Prop := PE X e (tD X.K w)
abbrev DT (X : Cx) (e : Expr) (w : WT) : Prop := PT X e (tDT X.K w)
abbrev DW (X : Cx) (e : Expr) (w : WT) : Prop := PW X e (tDT X.K w)
abbrev DA (X : Cx) (es : List Expr) (w : WA) : Prop := PA X es (tDA X.K w)
abbrev DF (X : Cx) (e : Expr) (w : WE) : Prop := PE X e (tDF X.K w)

section
variable {K : Frg} {H0 H H' : Hp} {ρ ρ' : DEnv} {σ : St} {a : Addr} {d : D}
theorem alone_new (r : R K H0 ρ' σ H') (e : Ev ρ σ H ρ' σ H') (h : H' a = none) : Alone H ρ' σ a := ⟨e.back h, fun z => by
  obtain ⟨o, q, _⟩ := r.own_some z
  rw [h] at q
  cases q⟩
theorem R.lockNew (r : R K H0 ρ σ H) (h : OwnAt K H a d) (h0 : H0 a = none) (no : ¬ Own ρ σ a) : ∃ o, H a = some o ∧ Mut (some o) ∧ ∀ ob, R K H0 ρ σ (upd H a (.frz ob o)) ∧ Rep K (upd H a (.frz ob o)) (.ref a) d := by
  obtain ⟨o, z, fx, mu⟩ := h.some
  refine ⟨o, z, mu, fun ob => ?_⟩
  have im : Imm H (upd H a (.frz ob o)) := imm_upd z fx
  refine ⟨⟨r.len, fun j f q => ?_, fun j f q => ?_, r.dis, fun b u q => ?_⟩, OwnAt.freeze z (fun _ => trivial) h⟩
  · obtain ⟨v, h1, h2⟩ := r.sh j f q
    exact ⟨v, h1, h2.keep im⟩
  · obtain ⟨b, h1, h2, h3⟩ := r.ow j f q
    refine ⟨b, h1, h2.keep im (upd_ne ?_), h3⟩
    rintro rfl
    exact no ⟨j, f, q, h1⟩
  · have nb : b ≠ a := by
      rintro rfl
      rw [h0] at q
      cases q
    rw [upd_ne nb]
    exact r.same b u q
theorem R.none0 (r : R K H0 ρ σ H) (h : H a = none) : H0 a = none := by
  cases q : H0 a with
  | none => rfl
  | some o =>
    have := r.same a o q
    rw [h] at this
    cases this
end

/-- what has been made alone is shared from now on -/
theorem de_frz {X : Cx} {e : Expr} {w : WE} (h : DF X e w) : DE X e w := by
  refine ⟨fun pins s σ H Q I hw => ?_⟩
  obtain ⟨H0, ρ, Qd, r, hw, k⟩ := hw
  refine thn (h.run pins s σ H (fun v H' => ∃ a d ρ', v = .ref a ∧ Qd d ρ' ∧ R X.K H0 ρ' σ H' ∧ OwnAt X.K H' a d ∧ Alone H ρ' σ a ∧ Ev ρ σ H ρ' σ H') I ⟨H0, ρ, Qd, r, hw, fun a d H' ρ' q r' o al im => ⟨a, d, ρ', rfl, q, r', o, al, im⟩⟩) fun u s1 ⟨v, H1, I1, rv, a, d, ρ', e, q, r', o, al, im⟩ => ?_
  subst e
  obtain ⟨o', z, mu, f⟩ := r'.lockNew o (r.none0 al.1) al.2
  obtain ⟨ob, I2⟩ := I1.lock z mu
  obtain ⟨r2, rp⟩ := f ob
  exact ⟨_, _, I2, rv, k _ _ _ _ q r2 rp (im.upd_new al.1)⟩

def wVar (i : Nat) : WE := fun ρ Q => ∃ d, ρ[i]? = some (some (Slot.sh d)) ∧ Q d ρ
/-- a list of one's own, from now on shared -/
def wEsc (i : Nat) : WE := fun ρ Q => ∃ d, ρ[i]? = some (some (Slot.ow d)) ∧ Q d (ρ.set i (some (.sh d)))
def wC (d : D) : WE := fun ρ Q => Q d ρ
section
variable {X : Cx}
theorem de_var {e : Expr} {i : Nat} (h : PE X e (tVar i)) : DE X e (wVar i) := pe_imp h fun σ H Q ⟨H0, ρ, Qd, r, ⟨d, e, q⟩, k⟩ =>
  let ⟨v, h1, h2⟩ := r.sh i d e
  ⟨v, h1, k v d H ρ q r h2 (.refl H)⟩
theorem de_esc {e : Expr} {i : Nat} (h : PE X e (tVar i)) : DE X e (wEsc i) := by
  refine ⟨fun pins s σ H Q I hw => ?_⟩
  obtain ⟨H0, ρ, Qd, r, ⟨d, e, q⟩, k⟩ := hw
  obtain ⟨a, o, h1, h2, mu, _, f⟩ := r.freeze e
  refine thn (h.run pins s σ H (fun v H' => v = .ref a ∧ H' = H) I ⟨_, h1, rfl, rfl⟩) fun u s1 ⟨v, H1, I1, rv, e1, e2⟩ => ?_
  subst e1 e2
  obtain ⟨ob, I2⟩ := I1.lock h2 mu
  obtain ⟨rp, r2, _⟩ := f ob
  exact ⟨_, _, I2, rv, k _ _ _ _ q r2 rp (Ev.upd_own r ⟨i, d, e, h1⟩ own_set_sh)⟩
theorem de_c {e : Expr} {v : V} {d : D} (h : PE X e (tC v)) (rp : ∀ H, Rep X.K H v d) : DE X e (wC d) := pe_imp h fun σ H Q ⟨H0, ρ, Qd, r, q, k⟩ => k v d H ρ q r (rp H) (.refl H)

def wNil : WA := fun ρ Q => Q [] ρ
def wCons (a : WE) (as : WA) : WA := fun ρ Q => a ρ fun d ρ1 => as ρ1 fun ds ρ2 => Q (d :: ds) ρ2
theorem da_nil : DA X [] wNil := pa_imp pa_nil fun σ H Q ⟨H0, ρ, Qd, r, q, k⟩ => k [] [] H ρ q r .nil (.refl H)
theorem da_cons {e : Expr} {es : List Expr} {a : WE} {as : WA} (ha : DE X e a) (hr : DA X es as) (hs : starEach (e :: es) X.env = (false, eval e X.env) :: starEach es X.env) : DA X (e :: es) (wCons a as) :=
  pa_imp (pa_cons ha hr hs) fun σ H Q ⟨H0, ρ, Qd, r, q, k⟩ => ⟨H0, ρ, _, r, q, fun v d H1 ρ1 q1 r1 p1 i1 => ⟨H0, ρ1, _, r1, q1, fun vs ds H2 ρ2 q2 r2 p2 i2 =>
    k (v :: vs) (d :: ds) H2 ρ2 q2 r2 (.cons (p1.keep (i2.imm r1)) p2) (i1.trans i2)⟩⟩
def wTup (as : WA) : WE := fun ρ Q => as ρ fun ds ρ1 => ds.length ≤ sizeLine ∧ Q (.tup ds) ρ1
theorem de_tup {es : List Expr} {n : Nat} {pos : Pos} {as : WA} (h : DA X es as) : DE X (.Tuple es n pos) (wTup as) :=
  pe_imp (pe_tup h) fun σ H Q ⟨H0, ρ, Qd, r, q, k⟩ => ⟨H0, ρ, _, r, q, fun vs ds H1 ρ1 ⟨l1, q1⟩ r1 p1 i1 => ⟨by rw [p1.length]; exact l1, fun p hp =>
    k _ _ _ ρ1 q1 (r1.grow (same_upd hp)) (.tup (.of upd_same) (p1.keep (.of (same_upd hp)))) (i1.trans (.of (same_upd hp)))⟩⟩
def wLst (as : WA) : WE := fun ρ Q => as ρ fun ds ρ1 => ds.length ≤ sizeLine ∧ Q (.lst ds) ρ1
theorem df_lst {es : List Expr} {pos : Pos} {as : WA} (h : DA X es as) : DF X (.List es pos) (wLst as) :=
  pe_imp (pe_lst h) fun σ H Q ⟨H0, ρ, Qd, r, q, k⟩ => ⟨H0, ρ, _, r, q, fun vs ds H1 ρ1 ⟨l1, q1⟩ r1 p1 i1 => ⟨by rw [p1.length]; exact l1, fun p hp =>
    k _ _ _ ρ1 q1 (r1.grow (same_upd hp)) ⟨vs, upd_same, p1.keep (.of (same_upd hp))⟩ (alone_new r1 i1 hp) (i1.trans (.of (same_upd hp)))⟩⟩

abbrev O2 := D → D → (D → Prop) → Prop
/-- the rule r does what o says -/
def O2Ok (K : Frg) (r : R2) (o : O2) : Prop := ∀ (x y : V) (H : Hp) (dx dy : D) (Qd : D → Prop) (Q : VK), Rep K H x dx → Rep K H y dy → o dx dy Qd → (∀ v d H', Qd d → Same H H' → Rep K H' v d → Q v H') → r x y H Q
def O2F (K : Frg) (r : R2) (o : O2) : Prop := ∀ (x y : V) (H : Hp) (dx dy : D) (Qd : D → Prop) (Q : VK), Rep K H x dx → Rep K H y dy → o dx dy Qd → (∀ a d H', Qd d → Same H H' → H a = none → OwnAt K H' a d → Q (.ref a) H') → r x y H Q
def w2 (o : O2) (a b : WE) : WE := fun ρ Q => a ρ fun x ρ1 => b ρ1 fun y ρ2 => o x y fun d => Q d ρ2
section
variable {a b : Expr} {wa wb : WE} {r : R2} {o : O2}
theorem t2_of (hk : O2Ok X.K r o) : ∀ σ H Q, tD X.K (w2 o wa wb) σ H Q → tOp r (tD X.K wa) (tD X.K wb) σ H Q := fun σ H Q ⟨H0, ρ, Qd, r0, q, k⟩ =>
  ⟨H0, ρ, _, r0, q, fun v d H1 ρ1 q1 r1 p1 i1 => ⟨H0, ρ1, _, r1, q1, fun v2 d2 H2 ρ2 q2 r2 p2 i2 =>
    hk _ _ _ _ _ _ _ (p1.keep (i2.imm r1)) p2 q2 fun v3 d3 H3 q3 s3 p3 => k _ _ _ ρ2 q3 (r2.grow s3) p3 ((i1.trans i2).trans (.of s3))⟩⟩
theorem t2_ofF (hk : O2F X.K r o) : ∀ σ H Q, tDF X.K (w2 o wa wb) σ H Q → tOp r (tD X.K wa) (tD X.K wb) σ H Q := fun σ H Q ⟨H0, ρ, Qd, r0, q, k⟩ =>
  ⟨H0, ρ, _, r0, q, fun v d H1 ρ1 q1 r1 p1 i1 => ⟨H0, ρ1, _, r1, q1, fun v2 d2 H2 ρ2 q2 r2 p2 i2 =>
    hk _ _ _ _ _ _ _ (p1.keep (i2.imm r1)) p2 q2 fun a d3 H3 q3 s3 n3 p3 => k _ _ _ ρ2 q3 (r2.grow s3) p3 (alone_new r2 (i1.trans i2) n3) ((i1.trans i2).trans (.of s3))⟩⟩
theorem de_op {op : Operator} {pos : Pos} (ho : OpR X (binaryOp op) r) (hk : O2Ok X.K r o) (ha : DE X a wa) (hb : DE X b wb) : DE X (.BinOp a op b pos) (w2 o wa wb) := pe_imp (pe_op ho ha hb) (t2_of hk)
theorem df_op {op : Operator} {pos : Pos} (ho : OpR X (binaryOp op) r) (hk : O2F X.K r o) (ha : DE X a wa) (hb : DE X b wb) : DF X (.BinOp a op b pos) (w2 o wa wb) := pe_imp (pe_op ho ha hb) (t2_ofF hk)
theorem de_cmp {op : CmpOp} {pos : Pos} (ho : OpR X (compareOp op) r) (hk : O2Ok X.K r o) (ha : DE X a wa) (hb : DE X b wb) (hm : behindInMarks op b = false) : DE X (.Compare a [op] [b] pos) (w2 o wa wb) := pe_imp (pe_cmpR ho ha hb hm) (t2_of hk)
/-- a comparison as a test: what comes is True or False -/
def wTB (w : WE) : WT := fun ρ Q => w ρ fun d ρ1 => ∃ k, d = .bl k ∧ Q k ρ1
theorem rep_bl {K : Frg} {H : Hp} {v : V} {k : Bool} (h : Rep K H v (.bl k)) : v = .bl k := by cases h; rfl
theorem dt_cmp {op : CmpOp} {pos : Pos} (ho : OpR X (compareOp op) r) (hk : O2Ok X.K r o) (ha : DE X a wa) (hb : DE X b wb) (hm : behindInMarks op b = false) : DT X (.Compare a [op] [b] pos) (wTB (w2 o wa wb)) :=
  pt_imp (pt_cmpR ho ha hb hm) fun σ H Q ⟨H0, ρ, Qd, r0, q, k⟩ => t2_of hk σ H _ ⟨H0, ρ, _, r0, q, fun v d H1 ρ1 ⟨c, e, q1⟩ r1 p1 i1 => by
    subst e
    exact ⟨c, rep_bl p1, k c H1 ρ1 q1 r1 i1⟩⟩
theorem O2Ok.or {r' : R2} {o' : O2} (h : O2Ok X.K r o) (h' : O2Ok X.K r' o') : O2Ok X.K (fun x y H Q => r x y H Q ∨ r' x y H Q) (fun x y Q => o x y Q ∨ o' x y Q) := fun x y H dx dy Qd Q px py q k =>
  q.elim (fun q => .inl (h x y H dx dy Qd Q px py q k)) fun q => .inr (h' x y H dx dy Qd Q px py q k)
end
section
variable {K : Frg}
def oI (C : Int → Int → Prop) (g : Int → Int → D) : O2
  | .int i, .int j, Q => C i j ∧ Q (g i j)
  | _, _, _ => False
/-- a scalar and its data -/
def dV : V → D
  | .bl b => .bl b
  | .int i => .int i
  | .str x => .str x
  | _ => .non
theorem o2_I {C : Int → Int → Prop} {g : Int → Int → Int} : O2Ok K (rI C fun i j => .int (g i j)) (oI C fun i j => .int (g i j)) := by
  intro x y H dx dy Qd Q px py q k
  cases px <;> cases py <;> first | exact q.elim | skip
  exact ⟨_, _, rfl, rfl, q.1, k _ _ _ q.2 (Same.refl H) (.int _)⟩
theorem o2_I0 {g : Int → Int → Int} : O2Ok K (rI0 fun i j => .int (g i j)) (oI (fun _ _ => True) fun i j => .int (g i j)) := by
  intro x y H dx dy Qd Q px py q k
  cases px <;> cases py <;> first | exact q.elim | skip
  exact ⟨_, _, rfl, rfl, k _ _ _ q.2 (Same.refl H) (.int _)⟩
theorem o2_B0 {g : Int → Int → Bool} : O2Ok K (rI0 fun i j => .bl (g i j)) (oI (fun _ _ => True) fun i j => .bl (g i j)) := by
  intro x y H dx dy Qd Q px py q k
  cases px <;> cases py <;> first | exact q.elim | skip
  exact ⟨_, _, rfl, rfl, k _ _ _ q.2 (Same.refl H) (.bl _)⟩
/-- + of ints, texts, tuples -/
def oAdd : O2
  | .int i, .int j, Q => Q (.int (i + j))
  | .str a, .str b, Q => a.length + b.length ≤ sizeLine ∧ Q (.str (a ++ b))
  | .tup a, .tup b, Q => a.length + b.length ≤ sizeLine ∧ Q (.tup (a ++ b))
  | _, _, _ => False
def rAdd3 (K : Frg) : R2 := fun x y H Q => (rI0 (fun i j => .int (i + j)) x y H Q ∨ (∃ i j, x = .str i ∧ y = .str j ∧ i.length + j.length ≤ sizeLine ∧ Q (.str (i ++ j)) H)) ∨ rCatA K x y H Q
theorem op_add3 : OpR X (binaryOp .Add) (rAdd3 X.K) := (op_add.or op_add_str).or op_catA
theorem o2_add : O2Ok K (rAdd3 K) oAdd := by
  intro x y H dx dy Qd Q px py q k
  cases px <;> cases py <;> first | exact q.elim | skip
  · exact .inl (.inl ⟨_, _, rfl, rfl, k _ _ _ q (Same.refl H) (.int _)⟩)
  · exact .inl (.inr ⟨_, _, rfl, rfl, q.1, k _ _ _ q.2 (Same.refl H) (.str _)⟩)
  · rename_i a vs ds h r b ws es h' r'
    refine .inr ⟨a, b, vs, ws, rfl, rfl, h, h', by rw [r.length, r'.length]; exact q.1, fun e => ?_, fun _ e => ?_, fun _ _ p hp => ?_⟩
    · subst e
      cases r
      exact k _ _ _ q.2 (Same.refl H) (.tup h' r')
    · subst e
      cases r'
      have q2 := q.2
      rw [List.append_nil] at q2
      exact k _ _ _ q2 (Same.refl H) (.tup h r)
    · exact k _ _ _ q.2 (same_upd hp) (.tup (.of upd_same) ((r.append r').keep (.of (same_upd hp))))
/-- - -/
abbrev oSub : O2 := oI (fun _ _ => True) fun i j => .int (i - j)
abbrev oMul : O2 := oI CMul fun i j => .int (i * j)
abbrev oDiv : O2 := oI CDiv fun i j => .int (i / j)
abbrev oMod : O2 := oI (fun _ j => 0 < j) fun i j => .int (i % j)
abbrev oPow : O2 := oI CPow fun i j => .int (i ^ j.toNat)
abbrev oLtI : O2 := oI (fun _ _ => True) fun i j => .bl (decide (i < j))
abbrev oLeI : O2 := oI (fun _ _ => True) fun i j => .bl (decide (i ≤ j))
abbrev oGtI : O2 := oI (fun _ _ => True) fun i j => .bl (decide (j < i))
abbrev oGeI : O2 := oI (fun _ _ => True) fun i j => .bl (decide (j ≤ i))
/-- is None, is not None -/
def oIsN : O2
  | .non, .non, Q => Q (.bl true)
  | _, .non, Q => Q (.bl false)
  | _, _, _ => False
def oNotN : O2
  | .non, .non, Q => Q (.bl false)
  | _, .non, Q => Q (.bl true)
  | _, _, _ => False
theorem o2_isN : O2Ok K (fun x y H Q => y = .non ∧ Q (.bl (decide (x = .non))) H) oIsN := by
  intro x y H dx dy Qd Q px py q k
  cases py <;> first | (cases px <;> exact q.elim) | skip
  cases px <;> exact ⟨rfl, k _ _ _ q (Same.refl H) (by first | exact .bl true | exact .bl false)⟩
theorem o2_notN : O2Ok K (fun x y H Q => y = .non ∧ Q (.bl (!decide (x = .non))) H) oNotN := by
  intro x y H dx dy Qd Q px py q k
  cases py <;> first | (cases px <;> exact q.elim) | skip
  cases px <;> exact ⟨rfl, k _ _ _ q (Same.refl H) (by first | exact .bl true | exact .bl false)⟩
end
end
end DL
namespace DL
open PySem PySem.Spec L2

mutual
def D.py : D → PyData
  | .non => .none
  | .bl b => .bool b
  | .int i => .int i
  | .str x => .str x
  | .tup ds => .tuple (pyAll ds)
  | .lst ds => .list (pyAll ds)
  | .dct _ _ => .none
  | .well => .none
def pyAll : List D → List PyData
  | [] => []
  | d :: ds => d.py :: pyAll ds
end
theorem pyAll_map : ∀ ds : List D, pyAll ds = ds.map D.py
  | [] => rfl
  | d :: ds => by rw [pyAll, pyAll_map ds, List.map_cons]
mutual
/-- ints, texts, tuples and lists of these, nested at most so deep -/
def D.good : Nat → D → Bool
  | _, .non => true
  | _, .bl _ => true
  | _, .int _ => true
  | _, .str x => PySem.PyData.strOk x
  | 0, .tup _ => false
  | n + 1, .tup ds => goodAll n ds
  | 0, .lst _ => false
  | n + 1, .lst ds => goodAll n ds
  | _, .dct _ _ => false
  | _, .well => false
def goodAll : Nat → List D → Bool
  | _, [] => true
  | n, d :: ds => d.good n && goodAll n ds
end
theorem goodAll_iff {n : Nat} : ∀ {ds : List D}, goodAll n ds = true ↔ ∀ d ∈ ds, d.good n = true
  | [] => by simp [goodAll]
  | d :: ds => by
    rw [goodAll, Bool.and_eq_true, goodAll_iff, List.forall_mem_cons]
mutual
theorem good_lay : ∀ (n : Nat) (d : D), d.good n = true → d.py.canLay0 = true
  | _, .non, _ => rfl
  | _, .bl _, _ => rfl
  | _, .int _, _ => rfl
  | n, .str x, h => by
    cases n <;> exact h
  | 0, .tup _, h => by cases h
  | n + 1, .tup ds, h => goodAll_lay n ds h
  | 0, .lst _, h => by cases h
  | n + 1, .lst ds, h => goodAll_lay n ds h
  | n, .dct _ _, h => by cases n <;> cases h
  | n, .well, h => by cases n <;> cases h
theorem goodAll_lay : ∀ (n : Nat) (ds : List D), goodAll n ds = true → PyData.canLayAll0 (pyAll ds) = true
  | _, [], _ => rfl
  | n, d :: ds, h => by
    rw [goodAll, Bool.and_eq_true] at h
    rw [pyAll, PyData.canLayAll0, good_lay n d h.1, goodAll_lay n ds h.2]
    rfl
end
mutual
theorem good_depth : ∀ (n : Nat) (d : D), d.good n = true → d.py.depth ≤ n
  | _, .non, _ => Nat.zero_le _
  | _, .bl _, _ => Nat.zero_le _
  | _, .int _, _ => Nat.zero_le _
  | n, .str x, h => Nat.zero_le _
  | 0, .tup _, h => by cases h
  | n + 1, .tup ds, h => by
    have q := goodAll_depth n ds h
    show PyData.depth (.tuple (pyAll ds)) ≤ _
    simp only [PyData.depth]
    omega
  | 0, .lst _, h => by cases h
  | n + 1, .lst ds, h => by
    have q := goodAll_depth n ds h
    show PyData.depth (.list (pyAll ds)) ≤ _
    simp only [PyData.depth]
    omega
  | n, .dct _ _, h => by cases n <;> cases h
  | n, .well, h => by cases n <;> cases h
theorem goodAll_depth : ∀ (n : Nat) (ds : List D), goodAll n ds = true → PyData.depthAll (pyAll ds) ≤ n
  | _, [], _ => Nat.zero_le _
  | n, d :: ds, h => by
    rw [goodAll, Bool.and_eq_true] at h
    have q1 := good_depth n d h.1
    have q2 := goodAll_depth n ds h.2
    rw [pyAll]
    simp only [PyData.depthAll]
    omega
end
theorem good_shaped {d : D} (h : d.good 8 = true) : SeqAt.shaped d.py = true := by
  have h1 := good_lay 8 d h
  have h2 := good_depth 8 d h
  unfold SeqAt.shaped
  rw [h1, Bool.true_and, decide_eq_true (by omega)]
mutual
theorem dp_of {K : Frg} {H : Hp} : ∀ (d : D) (n : Nat) (v : V), d.good n = true → Rep K H v d → Dp K H v d.py
  | .non, _, _, _, h => by cases h; exact .non
  | .bl b, _, _, _, h => by cases h; exact .bl b
  | .int i, _, _, _, h => by cases h; exact .int i
  | .str x, _, _, _, h => by cases h; exact .str x
  | .tup ds, n, _, g, h => by
    cases h with
    | tup h r =>
      cases n with
      | zero => cases g
      | succ n => exact .tup h (dps_of ds n _ g r)
  | .lst ds, n, _, g, h => by
    cases h with
    | lst h r =>
      cases n with
      | zero => cases g
      | succ n => exact .lst h.seq (dps_of ds n _ g r)
  | .dct _ _, n, _, g, _ => by cases n <;> cases g
  | .well, n, _, g, _ => by cases n <;> cases g
theorem dps_of {K : Frg} {H : Hp} : ∀ (ds : List D) (n : Nat) (vs : List V), goodAll n ds = true → Reps K H vs ds → DpAll K H vs (pyAll ds)
  | [], _, _, _, h => by cases h; exact .nil
  | d :: ds, n, _, g, h => by
    cases h with
    | cons h r =>
      rw [goodAll, Bool.and_eq_true] at g
      exact .cons (dp_of d n _ g.1 h) (dps_of ds n _ g.2 r)
end
theorem Rep.dp {K : Frg} {H : Hp} (n : Nat) {v : V} {d : D} (g : d.good n = true) (h : Rep K H v d) : Dp K H v d.py := dp_of d n v g h

def deq (x y : D) : Bool := PyData.eqv x.py y.py
def oEq : O2
  | .int i, .int j, Q => Q (.bl (decide (i = j)))
  | .str i, .str j, Q => Q (.bl (decide (i = j)))
  | x, y, Q => x.good 8 = true ∧ y.good 8 = true ∧ Q (.bl (deq x y))
def oNe : O2
  | .int i, .int j, Q => Q (.bl (!decide (i = j)))
  | .str i, .str j, Q => Q (.bl (!decide (i = j)))
  | x, y, Q => x.good 8 = true ∧ y.good 8 = true ∧ Q (.bl (!deq x y))
section
variable {X : Cx}
theorem dec_int' {i j : Int} : decide (V.int i = V.int j) = decide (i = j) := by rw [dec_int, Bool.beq_eq_decide_eq]
theorem dec_str' {i j : Str} : decide (V.str i = V.str j) = decide (i = j) := by rw [dec_str, Bool.beq_eq_decide_eq]
theorem o2_eqD {K : Frg} (x y : V) (H : Hp) (dx dy : D) (Qd : D → Prop) (Q : VK) (px : Rep K H x dx) (py : Rep K H y dy) (h : dx.good 8 = true ∧ dy.good 8 = true ∧ Qd (.bl (deq dx dy)))
    (k : ∀ v d H', Qd d → Same H H' → Rep K H' v d → Q v H') : rEqD K x y H Q :=
  ⟨_, _, px.dp 8 h.1, py.dp 8 h.2.1, good_shaped h.1, good_shaped h.2.1, k _ _ _ h.2.2 (Same.refl H) (.bl _)⟩
theorem o2_neD {K : Frg} (x y : V) (H : Hp) (dx dy : D) (Qd : D → Prop) (Q : VK) (px : Rep K H x dx) (py : Rep K H y dy) (h : dx.good 8 = true ∧ dy.good 8 = true ∧ Qd (.bl (!deq dx dy)))
    (k : ∀ v d H', Qd d → Same H H' → Rep K H' v d → Q v H') : rNeD K x y H Q :=
  ⟨_, _, px.dp 8 h.1, py.dp 8 h.2.1, good_shaped h.1, good_shaped h.2.1, k _ _ _ h.2.2 (Same.refl H) (.bl _)⟩
theorem o2_eq {K : Frg} : O2Ok K (fun x y H Q => rEq x y H Q ∨ rEqD K x y H Q) oEq := by
  intro x y H dx dy Qd Q px py q k
  cases px <;> cases py <;> first
    | (refine .inl ⟨rfl, ?_⟩; rw [dec_int']; exact k _ _ _ q (Same.refl H) (.bl _))
    | (refine .inl ⟨rfl, ?_⟩; rw [dec_str']; exact k _ _ _ q (Same.refl H) (.bl _))
    | exact .inr (o2_eqD _ _ H _ _ Qd Q (by constructor <;> assumption) (by constructor <;> assumption) q k)
theorem o2_ne {K : Frg} : O2Ok K (fun x y H Q => rNe x y H Q ∨ rNeD K x y H Q) oNe := by
  intro x y H dx dy Qd Q px py q k
  cases px <;> cases py <;> first
    | (refine .inl ⟨rfl, ?_⟩; rw [dec_int']; exact k _ _ _ q (Same.refl H) (.bl _))
    | (refine .inl ⟨rfl, ?_⟩; rw [dec_str']; exact k _ _ _ q (Same.refl H) (.bl _))
    | exact .inr (o2_neD _ _ H _ _ Qd Q (by constructor <;> assumption) (by constructor <;> assumption) q k)
theorem op_eqA (hu : X.A.units + 64 < cLine) : OpR X (compareOp .Eq) (fun x y H Q => rEq x y H Q ∨ rEqD X.K x y H Q) := op_eq.or (op_eqD hu)
theorem op_neA (hu : X.A.units + 64 < cLine) : OpR X (compareOp .NotEq) (fun x y H Q => rNe x y H Q ∨ rNeD X.K x y H Q) := op_ne.or (op_neD hu)

def strLt (a b : Str) : Bool := decide (a.cps.toList < b.cps.toList)
def oLt : O2
  | .int i, .int j, Q => Q (.bl (decide (i < j)))
  | .str i, .str j, Q => Q (.bl (strLt i j))
  | .tup xs, .tup ys, Q => ∃ ns ms : List Int, xs = ns.map D.int ∧ ys = ms.map D.int ∧ Q (.bl (HT.lexLt ns ms))
  | _, _, _ => False
def oLe : O2
  | .int i, .int j, Q => Q (.bl (decide (i ≤ j)))
  | .str i, .str j, Q => Q (.bl (!strLt j i))
  | _, _, _ => False
def oGt : O2
  | .int i, .int j, Q => Q (.bl (decide (j < i)))
  | .str i, .str j, Q => Q (.bl (strLt j i))
  | _, _, _ => False
def oGe : O2
  | .int i, .int j, Q => Q (.bl (decide (j ≤ i)))
  | .str i, .str j, Q => Q (.bl (!strLt i j))
  | _, _, _ => False
def rLt3 (K : Frg) : R2 := fun x y H Q => (rI0 (fun i j => .bl (decide (i < j))) x y H Q ∨ (∃ i j, x = .str i ∧ y = .str j ∧ Q (.bl (decide (i.cps.toList < j.cps.toList))) H)) ∨ rLtT K x y H Q
theorem op_lt3 (hu : X.A.units + 64 < cLine) : OpR X (compareOp .Lt) (rLt3 X.K) := (op_lt.or op_lt_str).or (op_ltT (by omega))
theorem o2_lt {K : Frg} : O2Ok K (rLt3 K) oLt := by
  intro x y H dx dy Qd Q px py q k
  cases px <;> cases py <;> first | exact q.elim | skip
  · exact .inl (.inl ⟨_, _, rfl, rfl, k _ _ _ q (Same.refl H) (.bl _)⟩)
  · exact .inl (.inr ⟨_, _, rfl, rfl, k _ _ _ q (Same.refl H) (.bl _)⟩)
  · rename_i h r _ _ _ h' r'
    obtain ⟨ns, ms, rfl, rfl, q⟩ := q
    exact .inr ⟨_, _, ns, ms, rfl, rfl, by rw [← r.ints]; exact h, by rw [← r'.ints]; exact h', k _ _ _ q (Same.refl H) (.bl _)⟩
theorem o2_le {K : Frg} : O2Ok K (fun x y H Q => rI0 (fun i j => .bl (decide (i ≤ j))) x y H Q ∨ ∃ i j, x = .str i ∧ y = .str j ∧ Q (.bl (!decide (j.cps.toList < i.cps.toList))) H) oLe := by
  intro x y H dx dy Qd Q px py q k
  cases px <;> cases py <;> first | exact q.elim | skip
  · exact .inl ⟨_, _, rfl, rfl, k _ _ _ q (Same.refl H) (.bl _)⟩
  · exact .inr ⟨_, _, rfl, rfl, k _ _ _ q (Same.refl H) (.bl _)⟩
theorem o2_gt {K : Frg} : O2Ok K (fun x y H Q => rI0 (fun i j => .bl (decide (i > j))) x y H Q ∨ ∃ i j, x = .str i ∧ y = .str j ∧ Q (.bl (decide (j.cps.toList < i.cps.toList))) H) oGt := by
  intro x y H dx dy Qd Q px py q k
  cases px <;> cases py <;> first | exact q.elim | skip
  · exact .inl ⟨_, _, rfl, rfl, k _ _ _ q (Same.refl H) (.bl _)⟩
  · exact .inr ⟨_, _, rfl, rfl, k _ _ _ q (Same.refl H) (.bl _)⟩
theorem o2_ge {K : Frg} : O2Ok K (fun x y H Q => rI0 (fun i j => .bl (decide (i ≥ j))) x y H Q ∨ ∃ i j, x = .str i ∧ y = .str j ∧ Q (.bl (!decide (i.cps.toList < j.cps.toList))) H) oGe := by
  intro x y H dx dy Qd Q px py q k
  cases px <;> cases py <;> first | exact q.elim | skip
  · exact .inl ⟨_, _, rfl, rfl, k _ _ _ q (Same.refl H) (.bl _)⟩
  · exact .inr ⟨_, _, rfl, rfl, k _ _ _ q (Same.refl H) (.bl _)⟩

/-- a key of a dict: an int, a text, a tuple of these -/
def asKey : D → Option Key
  | .int i => some (.inl i)
  | .str x => some (.inr x)
  | _ => none
def asKeys : List D → Option (List Key)
  | [] => some []
  | d :: ds => match asKey d, asKeys ds with
    | some k, some ks => some (k :: ks)
    | _, _ => none
theorem asKey_eq {d : D} {k : Key} (h : asKey d = some k) : d = kD k := by
  cases d <;> first | (cases h; done) | skip
  · cases h; rfl
  · cases h; rfl
theorem asKeys_eq : ∀ {ds : List D} {ks : List Key}, asKeys ds = some ks → ds = ks.map kD
  | [], _, h => by cases h; rfl
  | d :: ds, ks, h => by
    unfold asKeys at h
    cases h1 : asKey d with
    | none => rw [h1] at h; cases h
    | some k =>
      cases h2 : asKeys ds with
      | none => rw [h1, h2] at h; cases h
      | some r =>
        rw [h1, h2] at h
        cases h
        rw [asKey_eq h1, asKeys_eq h2]
        rfl
theorem kD_inj {a b : Key} (e : kD a = kD b) : a = b := by
  cases a <;> cases b <;> cases e <;> rfl
theorem kDs_inj : ∀ {a b : List Key}, a.map kD = b.map kD → a = b
  | [], [], _ => rfl
  | [], _ :: _, e => by simp at e
  | _ :: _, [], e => by simp at e
  | x :: xs, y :: ys, e => by
    rw [List.map_cons, List.map_cons] at e
    injection e with e1 e2
    rw [kD_inj e1, kDs_inj e2]
/-- the value of a key: keys are compared as data -/
def dlook : List D → List D → D → Option D
  | k' :: ks, v :: vs, k => if k' = k then some v else dlook ks vs k
  | _, _, _ => none
theorem look_dK {K : Frg} {H : Hp} {k : Key} : ∀ {kvs : List (Key × V)} {ds : List D}, Reps K H (kvs.map (·.2)) ds →
    (∀ d, dlook (kvs.map fun p => kD p.1) ds (kD k) = some d → ∃ v, valV kvs k = some v ∧ Rep K H v d) ∧ (dlook (kvs.map fun p => kD p.1) ds (kD k) = none → valV kvs k = none)
  | [], _, .nil => ⟨fun d e => by simp [dlook] at e, fun _ => rfl⟩
  | (k', v) :: r, [], h => by rw [List.map_cons] at h; nomatch h
  | (k', v) :: r, d₀ :: ds, h => by
    rw [List.map_cons] at h
    obtain ⟨h1, r1⟩ : Rep K H v d₀ ∧ Reps K H (r.map (·.2)) ds := by
      cases h with
      | cons h1 r1 => exact ⟨h1, r1⟩
    have ih := look_dK (k := k) r1
    rw [List.map_cons]
    by_cases e : k' = k
    · subst e
      simp only [dlook, if_true]
      exact ⟨fun d q => by cases q; exact ⟨v, valV_pos rfl, h1⟩, fun q => by cases q⟩
    · have ne : ¬ kD k' = kD k := fun z => e (kD_inj z)
      simp only [dlook, if_neg ne]
      exact ⟨fun d z => by rw [valV_neg (p := (k', v)) e]; exact ih.1 d z, fun z => by rw [valV_neg (p := (k', v)) e]; exact ih.2 z⟩
theorem look_dT {K : Frg} {H : Hp} {k : List Key} : ∀ {kvs : List (List Key × V)} {ds : List D}, Reps K H (kvs.map (·.2)) ds →
    (∀ d, dlook (kvs.map fun p => ktD p.1) ds (ktD k) = some d → ∃ v, valV kvs k = some v ∧ Rep K H v d) ∧ (dlook (kvs.map fun p => ktD p.1) ds (ktD k) = none → valV kvs k = none)
  | [], _, .nil => ⟨fun d e => by simp [dlook] at e, fun _ => rfl⟩
  | (k', v) :: r, [], h => by rw [List.map_cons] at h; nomatch h
  | (k', v) :: r, d₀ :: ds, h => by
    rw [List.map_cons] at h
    obtain ⟨h1, r1⟩ : Rep K H v d₀ ∧ Reps K H (r.map (·.2)) ds := by
      cases h with
      | cons h1 r1 => exact ⟨h1, r1⟩
    have ih := look_dT (k := k) r1
    rw [List.map_cons]
    by_cases e : k' = k
    · subst e
      simp only [dlook, if_true]
      exact ⟨fun d q => by cases q; exact ⟨v, valV_pos rfl, h1⟩, fun q => by cases q⟩
    · have ne : ¬ ktD k' = ktD k := fun z => e (kDs_inj (D.tup.inj z))
      simp only [dlook, if_neg ne]
      exact ⟨fun d z => by rw [valV_neg (p := (k', v)) e]; exact ih.1 d z, fun z => by rw [valV_neg (p := (k', v)) e]; exact ih.2 z⟩

def oIn : O2
  | x, .lst ds, Q => x.good 7 = true ∧ goodAll 7 ds = true ∧ Q (.bl (ds.any fun z => deq z x))
  | x, .tup ds, Q => x.good 7 = true ∧ goodAll 7 ds = true ∧ Q (.bl (ds.any fun z => deq z x))
  | .str x, .str y, Q => ∃ c : Nat, x = ⟨#[c]⟩ ∧ Q (.bl (decide (c ∈ y.cps.toList)))
  | _, _, _ => False
def oNotIn : O2 := fun x y Q => oIn x y fun d => ∃ b, d = .bl b ∧ Q (.bl (!b))
/-- membership by data, of a list or a tuple -/
def rInA (K : Frg) (neg : Bool) : R2 := fun x y H Q => ∃ d ds, Dp K H x d ∧ (Dp K H y (.list ds) ∨ Dp K H y (.tuple ds)) ∧ d.canLay0 = true ∧ d.depth ≤ 64 ∧ PyData.canLayAll0 ds = true ∧ Q (.bl (if neg then !ds.any (fun z => PyData.eqv z d) else ds.any (fun z => PyData.eqv z d))) H
theorem op_inA (hu : X.A.units + 66 < cLine) : OpR X (compareOp .In) (rInA X.K false) := by
  intro pins s σ H x y v u Q I rx ry h
  obtain ⟨d, ds, hd, he, ld, dd, ls, q⟩ := h
  obtain ⟨as, r1⟩ := Dp.reads I d x v hd rx
  have hr : X.A.units + 1 + min (PyData.depthAll ds) d.depth < cLine := by
    have := Nat.min_le_right (PyData.depthAll ds) d.depth
    omega
  rcases he with he | he
  · obtain ⟨bs, r2⟩ := Dp.reads I (.list ds) y u he ry
    exact SeqAt.in_list_reads r2 r1 ls ld hr ⟨.bl _, H, I, rfl, q⟩
  · obtain ⟨bs, r2⟩ := Dp.reads I (.tuple ds) y u he ry
    exact SeqAt.in_tuple_reads r2 r1 ls ld hr ⟨.bl _, H, I, rfl, q⟩
theorem op_notInA (hu : X.A.units + 66 < cLine) : OpR X (compareOp .NotIn) (rInA X.K true) := by
  intro pins s σ H x y v u Q I rx ry h
  obtain ⟨d, ds, hd, he, ld, dd, ls, q⟩ := h
  obtain ⟨as, r1⟩ := Dp.reads I d x v hd rx
  have hr : X.A.units + 1 + min (PyData.depthAll ds) d.depth < cLine := by
    have := Nat.min_le_right (PyData.depthAll ds) d.depth
    omega
  rcases he with he | he
  · obtain ⟨bs, r2⟩ := Dp.reads I (.list ds) y u he ry
    exact SeqAt.notIn_list_reads r2 r1 ls ld hr ⟨.bl _, H, I, rfl, q⟩
  · obtain ⟨bs, r2⟩ := Dp.reads I (.tuple ds) y u he ry
    exact SeqAt.notIn_tuple_reads r2 r1 ls ld hr ⟨.bl _, H, I, rfl, q⟩
def rIn3 (K : Frg) : R2 := fun x y H Q => (∃ (c : Nat) (z : Str), x = .str ⟨#[c]⟩ ∧ y = .str z ∧ Q (.bl (decide (c ∈ z.cps.toList))) H) ∨ rInA K false x y H Q
def rNotIn3 (K : Frg) : R2 := fun x y H Q => (∃ (c : Nat) (z : Str), x = .str ⟨#[c]⟩ ∧ y = .str z ∧ Q (.bl (!decide (c ∈ z.cps.toList))) H) ∨ rInA K true x y H Q
theorem op_in3 (hu : X.A.units + 66 < cLine) : OpR X (compareOp .In) (rIn3 X.K) := op_in_sign.or (op_inA hu)
theorem op_notIn3 (hu : X.A.units + 66 < cLine) : OpR X (compareOp .NotIn) (rNotIn3 X.K) := op_notIn_sign.or (op_notInA hu)
theorem any_py (x : D) : ∀ ds : List D, (pyAll ds).any (fun z => PyData.eqv z x.py) = ds.any fun z => deq z x
  | [] => rfl
  | d :: ds => by rw [pyAll, List.any_cons, List.any_cons, any_py x ds]; rfl
theorem o2_in {K : Frg} : O2Ok K (rIn3 K) oIn := by
  intro x y H dx dy Qd Q px py q k
  cases dy <;> first | (cases dx <;> exact q.elim) | skip
  · rename_i z
    cases dx <;> first | exact q.elim | skip
    cases px
    cases py
    obtain ⟨c, rfl, q⟩ := q
    exact .inl ⟨c, _, rfl, rfl, k _ _ _ q (Same.refl H) (.bl _)⟩
  · rename_i ds
    obtain ⟨g1, g2, q⟩ := (show dx.good 7 = true ∧ goodAll 7 ds = true ∧ Qd (.bl (ds.any fun z => deq z dx)) from by cases dx <;> exact q)
    refine .inr ⟨dx.py, pyAll ds, px.dp 7 g1, .inr (py.dp 8 (show (D.tup ds).good 8 = true from g2)), good_lay 7 _ g1, Nat.le_trans (good_depth 7 _ g1) (by decide), goodAll_lay 7 _ g2, ?_⟩
    rw [any_py]
    exact k _ _ _ q (Same.refl H) (.bl _)
  · rename_i ds
    obtain ⟨g1, g2, q⟩ := (show dx.good 7 = true ∧ goodAll 7 ds = true ∧ Qd (.bl (ds.any fun z => deq z dx)) from by cases dx <;> exact q)
    refine .inr ⟨dx.py, pyAll ds, px.dp 7 g1, .inl (py.dp 8 (show (D.lst ds).good 8 = true from g2)), good_lay 7 _ g1, Nat.le_trans (good_depth 7 _ g1) (by decide), goodAll_lay 7 _ g2, ?_⟩
    rw [any_py]
    exact k _ _ _ q (Same.refl H) (.bl _)
theorem o2_notIn {K : Frg} : O2Ok K (rNotIn3 K) oNotIn := by
  intro x y H dx dy Qd Q px py q k
  unfold oNotIn at q
  cases dy <;> first | (cases dx <;> exact q.elim) | skip
  · rename_i z
    cases dx <;> first | exact q.elim | skip
    cases px
    cases py
    obtain ⟨c, rfl, b, e, q⟩ := q
    cases e
    exact .inl ⟨c, _, rfl, rfl, k _ _ _ q (Same.refl H) (.bl _)⟩
  · rename_i ds
    obtain ⟨g1, g2, b, e, q⟩ := (show dx.good 7 = true ∧ goodAll 7 ds = true ∧ (∃ b, D.bl (ds.any fun z => deq z dx) = .bl b ∧ Qd (.bl (!b))) from by cases dx <;> exact q)
    cases e
    refine .inr ⟨dx.py, pyAll ds, px.dp 7 g1, .inr (py.dp 8 (show (D.tup ds).good 8 = true from g2)), good_lay 7 _ g1, Nat.le_trans (good_depth 7 _ g1) (by decide), goodAll_lay 7 _ g2, ?_⟩
    rw [any_py]
    exact k _ _ _ q (Same.refl H) (.bl _)
  · rename_i ds
    obtain ⟨g1, g2, b, e, q⟩ := (show dx.good 7 = true ∧ goodAll 7 ds = true ∧ (∃ b, D.bl (ds.any fun z => deq z dx) = .bl b ∧ Qd (.bl (!b))) from by cases dx <;> exact q)
    cases e
    refine .inr ⟨dx.py, pyAll ds, px.dp 7 g1, .inl (py.dp 8 (show (D.lst ds).good 8 = true from g2)), good_lay 7 _ g1, Nat.le_trans (good_depth 7 _ g1) (by decide), goodAll_lay 7 _ g2, ?_⟩
    rw [any_py]
    exact k _ _ _ q (Same.refl H) (.bl _)

def oIx : O2
  | .lst ds, .int i, Q => ∃ d, atI ds i = some d ∧ Q d
  | .tup ds, .int i, Q => ∃ d, atI ds i = some d ∧ Q d
  | .str x, .int i, Q => x.length ≤ sizeLine ∧ ∃ c, atI x.cps.toList i = some c ∧ Q (.str ⟨#[c]⟩)
  | _, _, _ => False
theorem Reps.atI {K : Frg} {H : Hp} {vs : List V} {ds : List D} {i : Int} {d : D} (r : Reps K H vs ds) (h : L2.atI ds i = some d) : ∃ v, L2.atI vs i = some v ∧ Rep K H v d := by
  unfold L2.atI at h ⊢
  rw [r.length]
  cases e : ixN ds.length i with
  | none => rw [e] at h; cases h
  | some j =>
    rw [e] at h
    exact r.get (i := j) h
theorem o2_ix {K : Frg} : O2Ok K (rIx K) oIx := by
  intro x y H dx dy Qd Q px py q k
  cases px <;> cases py <;> first | exact q.elim | skip
  · obtain ⟨l, c, e, q⟩ := q
    exact .inr (.inr ⟨_, _, c, rfl, rfl, l, e, k _ _ _ q (Same.refl H) (.str _)⟩)
  · rename_i h r _
    obtain ⟨d, e, q⟩ := q
    obtain ⟨v, e', p⟩ := r.atI e
    exact .inr (.inl ⟨_, _, _, v, rfl, rfl, h, e', k _ _ _ q (Same.refl H) p⟩)
  · rename_i h r _
    obtain ⟨d, e, q⟩ := q
    obtain ⟨v, e', p⟩ := r.atI e
    exact .inl ⟨_, _, _, v, rfl, rfl, h.seq, e', k _ _ _ q (Same.refl H) p⟩
theorem de_ix {a b : Expr} {wa wb : WE} {pos : Pos} (ha : DE X a wa) (hb : DE X b wb) (hs : PlainIx b) : DE X (.Subscript a b pos) (w2 oIx wa wb) := pe_imp (pe_ix ix_seq ha hb hs) (t2_of o2_ix)

abbrev WO := DEnv → (Option Int → DEnv → Prop) → Prop
def wNoPart : WO := fun ρ Q => Q none ρ
def wPart (a : WE) : WO := fun ρ Q => a ρ fun d ρ1 => ∃ i, d = .int i ∧ Q (some i) ρ1
def tDO (K : Frg) (w : WO) : TO := fun σ H Q => ∃ H0 ρ Qd, R K H0 ρ σ H ∧ w ρ Qd ∧ ∀ o H' ρ', Qd o ρ' → R K H0 ρ' σ H' → Ev ρ σ H ρ' σ H' → Q o H'
theorem po_imp {e : Option Expr} {t t' : TO} (h : PO X e t) (k : ∀ σ H Q, t' σ H Q → t σ H Q) : PO X e t' := ⟨fun pins s σ H Q I hw => h.run pins s σ H Q I (k _ _ _ hw)⟩
theorem do_none : PO X none (tDO X.K wNoPart) := po_imp po_none fun σ H Q ⟨H0, ρ, Qd, r, q, k⟩ => k _ H ρ q r (.refl H)
theorem do_some {e : Expr} {a : WE} (h : DE X e a) : PO X (some e) (tDO X.K (wPart a)) := po_imp (po_some h) fun σ H Q ⟨H0, ρ, Qd, r, q, k⟩ => ⟨H0, ρ, _, r, q, fun v d H1 ρ1 ⟨i, e, q1⟩ r1 p1 i1 => by
  subst e
  cases p1
  exact ⟨i, rfl, k _ _ _ q1 r1 i1⟩⟩
def cutD {α : Type} (xs : List α) (lo hi : Option Int) : List α := (xs.drop (HT.sIx xs.length 0 lo)).take (HT.sIx xs.length xs.length hi - HT.sIx xs.length 0 lo)
theorem Reps.cut {K : Frg} {H : Hp} {vs : List V} {ds : List D} (r : Reps K H vs ds) (lo hi : Option Int) : Reps K H (cutV vs lo hi) (cutD ds lo hi) := by
  unfold cutV cutD
  rw [r.length]
  exact (r.drop _).take _
def wSl (o : D → Option Int → Option Int → (D → Prop) → Prop) (a : WE) (l u : WO) : WE := fun ρ Q => a ρ fun x ρ1 => l ρ1 fun i ρ2 => u ρ2 fun j ρ3 => o x i j fun d => Q d ρ3
/-- a slice of a tuple or a text -/
def oSl : D → Option Int → Option Int → (D → Prop) → Prop
  | .tup ds, i, j, Q => Q (.tup (cutD ds i j))
  | .str x, i, j, Q => x.length ≤ sizeLine ∧ Q (.str (cutS x i j))
  | _, _, _, _ => False
theorem tSl_of {K : Frg} {r : V → Option Int → Option Int → Hp → VK → Prop} {o : D → Option Int → Option Int → (D → Prop) → Prop} {wa : WE} {wl wu : WO}
    (hk : ∀ (x : V) (i j : Option Int) (H : Hp) (dx : D) (Qd : D → Prop) (Q : VK), Rep K H x dx → o dx i j Qd → (∀ v d H', Qd d → Same H H' → Rep K H' v d → Q v H') → r x i j H Q) :
    ∀ σ H Q, tD K (wSl o wa wl wu) σ H Q → tSl r (tD K wa) (tDO K wl) (tDO K wu) σ H Q := fun σ H Q ⟨H0, ρ, Qd, r0, q, k⟩ =>
  ⟨H0, ρ, _, r0, q, fun v d H1 ρ1 q1 r1 p1 i1 => ⟨H0, ρ1, _, r1, q1, fun i H2 ρ2 q2 r2 i2 => ⟨H0, ρ2, _, r2, q2, fun j H3 ρ3 q3 r3 i3 =>
    hk _ _ _ _ _ _ _ (p1.keep ((i2.trans i3).imm r1)) q3 fun v4 d4 H4 q4 s4 p4 => k _ _ _ ρ3 q4 (r3.grow s4) p4 (((i1.trans i2).trans i3).trans (.of s4))⟩⟩⟩
theorem tSl_ofF {K : Frg} {r : V → Option Int → Option Int → Hp → VK → Prop} {o : D → Option Int → Option Int → (D → Prop) → Prop} {wa : WE} {wl wu : WO}
    (hk : ∀ (x : V) (i j : Option Int) (H : Hp) (dx : D) (Qd : D → Prop) (Q : VK), Rep K H x dx → o dx i j Qd → (∀ a d H', Qd d → Same H H' → H a = none → OwnAt K H' a d → Q (.ref a) H') → r x i j H Q) :
    ∀ σ H Q, tDF K (wSl o wa wl wu) σ H Q → tSl r (tD K wa) (tDO K wl) (tDO K wu) σ H Q := fun σ H Q ⟨H0, ρ, Qd, r0, q, k⟩ =>
  ⟨H0, ρ, _, r0, q, fun v d H1 ρ1 q1 r1 p1 i1 => ⟨H0, ρ1, _, r1, q1, fun i H2 ρ2 q2 r2 i2 => ⟨H0, ρ2, _, r2, q2, fun j H3 ρ3 q3 r3 i3 =>
    hk _ _ _ _ _ _ _ (p1.keep ((i2.trans i3).imm r1)) q3 fun a d4 H4 q4 s4 n4 p4 => k _ _ _ ρ3 q4 (r3.grow s4) p4 (alone_new r3 ((i1.trans i2).trans i3) n4) (((i1.trans i2).trans i3).trans (.of s4))⟩⟩⟩
def rSl2 (K : Frg) : V → Option Int → Option Int → Hp → VK → Prop := fun x i j H Q => rSlS x i j H Q ∨ rSlA K x i j H Q
theorem de_sl {e : Expr} {lo hi : Option Expr} {wa : WE} {wl wu : WO} {pos p2 : Pos} (he : DE X e wa) (hl : PO X lo (tDO X.K wl)) (hu : PO X hi (tDO X.K wu)) : DE X (.Subscript e (.Slice lo hi none p2) pos) (wSl oSl wa wl wu) :=
  pe_imp (pe_slice (r := rSl2 X.K) (sl_str.or sl_tupA) he hl hu) (tSl_of fun x i j H dx Qd Q px q k => by
    cases px <;> first | exact q.elim | skip
    · exact .inl ⟨_, rfl, q.1, k _ _ _ q.2 (Same.refl H) (.str _)⟩
    · rename_i a vs ds h r
      have hl := r.length
      refine .inr ⟨a, vs, rfl, h, fun e => ?_, fun _ p hp => ?_⟩
      · have ec : cutD ds i j = ds := by
          rw [hl] at e
          unfold cutD
          rw [e.1, e.2]
          simp
        have q' : Qd (.tup (cutD ds i j)) := q
        rw [ec] at q'
        exact k _ _ _ q' (Same.refl H) (.tup h r)
      · exact k _ _ _ q (same_upd hp) (.tup (.of upd_same) ((r.cut i j).keep (.of (same_upd hp)))))
def oSlL : D → Option Int → Option Int → (D → Prop) → Prop
  | .lst ds, i, j, Q => Q (.lst (cutD ds i j))
  | _, _, _, _ => False
theorem df_sl {e : Expr} {lo hi : Option Expr} {wa : WE} {wl wu : WO} {pos p2 : Pos} (he : DE X e wa) (hl : PO X lo (tDO X.K wl)) (hu : PO X hi (tDO X.K wu)) : DF X (.Subscript e (.Slice lo hi none p2) pos) (wSl oSlL wa wl wu) :=
  pe_imp (pe_slice (sl_list (X := X)) he hl hu) (tSl_ofF fun x i j H dx Qd Q px q k => by
    cases px <;> first | exact q.elim | skip
    rename_i a vs ds h r
    exact ⟨a, vs, rfl, h.seq, fun p hp => k p _ _ q (same_upd hp) hp ⟨_, upd_same, (r.cut i j).keep (.of (same_upd hp))⟩⟩)

def tru : D → (Bool → Prop) → Prop
  | .non, Q => Q false
  | .bl b, Q => Q b
  | .int i, Q => Q (i != 0)
  | .str x, Q => x.length ≤ sizeLine ∧ Q (decide (x.length ≠ 0))
  | .tup ds, Q => Q (!ds.isEmpty)
  | .lst ds, Q => Q (!ds.isEmpty)
  | _, _ => False
theorem empties {K : Frg} {H : Hp} {vs : List V} {ds : List D} (r : Reps K H vs ds) : vs.isEmpty = ds.isEmpty := by cases r <;> rfl
theorem tru_of {K : Frg} {H : Hp} {v : V} {d : D} {Q : Bool → Prop} (p : Rep K H v d) (h : tru d Q) : ∃ k, TruV K v H k ∧ Q k := by
  cases p <;> first | exact h.elim | skip
  · exact ⟨_, rfl, h⟩
  · exact ⟨_, rfl, h⟩
  · exact ⟨_, rfl, h⟩
  · rename_i x
    refine ⟨_, ⟨h.1, rfl⟩, ?_⟩
    have e : (((x.length : Nat) : Int) != 0) = decide (x.length ≠ 0) := by
      rw [bne, Bool.beq_eq_decide_eq]
      by_cases z : x.length = 0
      · simp [z]
      · have : ¬ ((x.length : Nat) : Int) = 0 := by omega
        simp [z, this]
    rw [e]
    exact h.2
  · rename_i h' r
    exact ⟨_, .inr (.inl ⟨_, h', rfl⟩), by rw [empties r]; exact h⟩
  · rename_i h' r
    exact ⟨_, .inl ⟨_, h'.seq, rfl⟩, by rw [empties r]; exact h⟩
def wTru (a : WE) : WT := fun ρ Q => a ρ fun d ρ1 => tru d fun k => Q k ρ1
def PlainT (X : Cx) (a : Expr) : Prop := ∀ whole, isTrue a X.env whole = (do let v ← whole; standAt a.pos; holding [v] (truthy v))
theorem dt_tru {e : Expr} {a : WE} (h : DE X e a) (he : PlainT X e) : DT X e (wTru a) :=
  pt_imp (pt_truth h he) fun σ H Q ⟨H0, ρ, Qd, r, q, k⟩ => ⟨H0, ρ, _, r, q, fun v d H1 ρ1 q1 r1 p1 i1 =>
    let ⟨c, h1, h2⟩ := tru_of p1 q1
    ⟨c, h1, k _ _ _ h2 r1 i1⟩⟩
def wNot (t : WT) : WT := fun ρ Q => t ρ fun b ρ1 => Q (!b) ρ1
def wAnd (t u : WT) : WT := fun ρ Q => t ρ fun b ρ1 => if b = true then u ρ1 Q else Q false ρ1
def wOr (t u : WT) : WT := fun ρ Q => t ρ fun b ρ1 => if b = true then Q true ρ1 else u ρ1 Q
section
variable {a b c : Expr} {rest : List Expr} {t u : WT} {wa wb : WE} {pos : Pos}
theorem dt_not (h : DT X a t) : DT X (.UnaryOp .Not a pos) (wNot t) := pt_imp (pt_not h) fun σ H Q ⟨H0, ρ, Qd, r, q, k⟩ => ⟨H0, ρ, _, r, q, fun b H1 ρ1 q1 r1 i1 => k _ _ _ q1 r1 i1⟩
theorem dw_and1 (h : DT X a t) : DW X (.BoolOp .And [a] pos) t := pw_and1 h
theorem dw_or1 (h : DT X a t) : DW X (.BoolOp .Or [a] pos) t := pw_or1 h
theorem dw_and (h : DT X a t) (h2 : DW X (.BoolOp .And (b :: rest) pos) u) : DW X (.BoolOp .And (a :: b :: rest) pos) (wAnd t u) :=
  pw_imp (pw_and h h2) fun σ H Q ⟨H0, ρ, Qd, r, q, k⟩ => ⟨H0, ρ, _, r, q, fun b H1 ρ1 q1 r1 i1 => by
    cases b with
    | true =>
      rw [if_pos rfl] at q1 ⊢
      exact ⟨H0, ρ1, _, r1, q1, fun b' H2 ρ2 q2 r2 i2 => k _ _ _ q2 r2 (i1.trans i2)⟩
    | false =>
      rw [if_neg (by decide)] at q1 ⊢
      exact k _ _ _ q1 r1 i1⟩
theorem dw_or (h : DT X a t) (h2 : DW X (.BoolOp .Or (b :: rest) pos) u) : DW X (.BoolOp .Or (a :: b :: rest) pos) (wOr t u) :=
  pw_imp (pw_or h h2) fun σ H Q ⟨H0, ρ, Qd, r, q, k⟩ => ⟨H0, ρ, _, r, q, fun b H1 ρ1 q1 r1 i1 => by
    cases b with
    | true =>
      rw [if_pos rfl] at q1 ⊢
      exact k _ _ _ q1 r1 i1
    | false =>
      rw [if_neg (by decide)] at q1 ⊢
      exact ⟨H0, ρ1, _, r1, q1, fun b' H2 ρ2 q2 r2 i2 => k _ _ _ q2 r2 (i1.trans i2)⟩⟩
/-- and, or as values, by truth -/
def wAndV (a b : WE) : WE := fun ρ Q => a ρ fun d ρ1 => tru d fun k => if k = true then b ρ1 Q else Q d ρ1
def wOrV (a b : WE) : WE := fun ρ Q => a ρ fun d ρ1 => tru d fun k => if k = true then Q d ρ1 else b ρ1 Q
theorem de_one {op : BoolOp} (h : DE X a wa) : DE X (.BoolOp op [a] pos) wa := pe_one h
theorem de_and (h : DE X a wa) (h2 : DE X (.BoolOp .And (b :: rest) pos) wb) : DE X (.BoolOp .And (a :: b :: rest) pos) (wAndV wa wb) :=
  pe_imp (pe_andT h h2) fun σ H Q ⟨H0, ρ, Qd, r, q, k⟩ => ⟨H0, ρ, _, r, q, fun v d H1 ρ1 q1 r1 p1 i1 => by
    obtain ⟨c, h1, h2⟩ := tru_of p1 q1
    refine ⟨c, h1, ?_⟩
    cases c with
    | true =>
      rw [if_pos rfl] at h2 ⊢
      exact ⟨H0, ρ1, _, r1, h2, fun v' d' H2 ρ2 q2 r2 p2 i2 => k _ _ _ _ q2 r2 p2 (i1.trans i2)⟩
    | false =>
      rw [if_neg (by decide)] at h2 ⊢
      exact k _ _ _ _ h2 r1 p1 i1⟩
theorem de_or (h : DE X a wa) (h2 : DE X (.BoolOp .Or (b :: rest) pos) wb) : DE X (.BoolOp .Or (a :: b :: rest) pos) (wOrV wa wb) :=
  pe_imp (pe_orT h h2) fun σ H Q ⟨H0, ρ, Qd, r, q, k⟩ => ⟨H0, ρ, _, r, q, fun v d H1 ρ1 q1 r1 p1 i1 => by
    obtain ⟨c, h1, h2⟩ := tru_of p1 q1
    refine ⟨c, h1, ?_⟩
    cases c with
    | true =>
      rw [if_pos rfl] at h2 ⊢
      exact k _ _ _ _ h2 r1 p1 i1
    | false =>
      rw [if_neg (by decide)] at h2 ⊢
      exact ⟨H0, ρ1, _, r1, h2, fun v' d' H2 ρ2 q2 r2 p2 i2 => k _ _ _ _ q2 r2 p2 (i1.trans i2)⟩⟩
def wNotV (a : WE) : WE := fun ρ Q => a ρ fun d ρ1 => tru d fun k => Q (.bl (!k)) ρ1
theorem de_not (h : DE X a wa) : DE X (.UnaryOp .Not a pos) (wNotV wa) :=
  pe_imp (pe_notT h) fun σ H Q ⟨H0, ρ, Qd, r, q, k⟩ => ⟨H0, ρ, _, r, q, fun v d H1 ρ1 q1 r1 p1 i1 =>
    let ⟨c, h1, h2⟩ := tru_of p1 q1
    ⟨c, h1, k _ _ _ _ h2 r1 (.bl _) i1⟩⟩
def wNeg (a : WE) : WE := fun ρ Q => a ρ fun d ρ1 => ∃ i, d = .int i ∧ Q (.int (-i)) ρ1
theorem de_neg (h : DE X a wa) : DE X (.UnaryOp .USub a pos) (wNeg wa) :=
  pe_imp (pe_un un_neg h) fun σ H Q ⟨H0, ρ, Qd, r, q, k⟩ => ⟨H0, ρ, _, r, q, fun v d H1 ρ1 ⟨i, e, q1⟩ r1 p1 i1 => by
    subst e
    cases p1
    exact ⟨i, rfl, k _ _ _ _ q1 r1 (.int _) i1⟩⟩
def wIf (t : WT) (a b : WE) : WE := fun ρ Q => t ρ fun c ρ1 => if c = true then a ρ1 Q else b ρ1 Q
theorem de_if (h : DT X c t) (ha : DE X a wa) (hb : DE X b wb) : DE X (.IfExp c a b pos) (wIf t wa wb) :=
  pe_imp (pe_ifExp h ha hb) fun σ H Q ⟨H0, ρ, Qd, r, q, k⟩ => ⟨H0, ρ, _, r, q, fun c H1 ρ1 q1 r1 i1 => by
    cases c with
    | true =>
      rw [if_pos rfl] at q1 ⊢
      exact ⟨H0, ρ1, _, r1, q1, fun v' d' H2 ρ2 q2 r2 p2 i2 => k _ _ _ _ q2 r2 p2 (i1.trans i2)⟩
    | false =>
      rw [if_neg (by decide)] at q1 ⊢
      exact ⟨H0, ρ1, _, r1, q1, fun v' d' H2 ρ2 q2 r2 p2 i2 => k _ _ _ _ q2 r2 p2 (i1.trans i2)⟩⟩
/-- a < b < c -/
def wChain (o o' : O2) (a b c : WE) : WE := fun ρ Q => a ρ fun x ρ1 => b ρ1 fun y ρ2 => o x y fun z => ∃ k, z = .bl k ∧ if k = true then c ρ2 fun w ρ3 => o' y w fun d => Q d ρ3 else Q (.bl false) ρ2
end
end
end DL
namespace DL
open PySem PySem.Spec L2

abbrev B1 := List D → (D → Prop) → Prop
def B1Ok (K : Frg) (r : List V → Hp → VK → Prop) (b : B1) : Prop := ∀ (vs : List V) (H : Hp) (ds : List D) (Qd : D → Prop) (Q : VK), Reps K H vs ds → b ds Qd → (∀ v d H', Qd d → Same H H' → Rep K H' v d → Q v H') → r vs H Q
def B1F (K : Frg) (r : List V → Hp → VK → Prop) (b : B1) : Prop := ∀ (vs : List V) (H : Hp) (ds : List D) (Qd : D → Prop) (Q : VK), Reps K H vs ds → b ds Qd → (∀ a d H', Qd d → Same H H' → H a = none → OwnAt K H' a d → Q (.ref a) H') → r vs H Q
def wB (b : B1) (as : WA) : WE := fun ρ Q => as ρ fun ds ρ1 => b ds fun d => Q d ρ1
section
variable {X : Cx} {r : List V → Hp → VK → Prop} {b : B1} {as : WA}
theorem tB_of (hk : B1Ok X.K r b) : ∀ σ H Q, tD X.K (wB b as) σ H Q → tCB r (tDA X.K as) σ H Q := fun σ H Q ⟨H0, ρ, Qd, r0, q, k⟩ =>
  ⟨H0, ρ, _, r0, q, fun vs ds H1 ρ1 q1 r1 p1 i1 => hk _ _ _ _ _ p1 q1 fun v d H2 q2 s2 p2 => k _ _ _ ρ1 q2 (r1.grow s2) p2 (i1.trans (.of s2))⟩
theorem tB_ofF (hk : B1F X.K r b) : ∀ σ H Q, tDF X.K (wB b as) σ H Q → tCB r (tDA X.K as) σ H Q := fun σ H Q ⟨H0, ρ, Qd, r0, q, k⟩ =>
  ⟨H0, ρ, _, r0, q, fun vs ds H1 ρ1 q1 r1 p1 i1 => hk _ _ _ _ _ p1 q1 fun a d H2 q2 s2 n2 p2 => k _ _ _ ρ1 q2 (r1.grow s2) p2 (alone_new r1 i1 n2) (i1.trans (.of s2))⟩
end

/-- the signs of a text -/
def signs (x : Str) : List D := x.cps.toList.map fun c => .str ⟨#[c]⟩
def bLen : B1
  | [.lst ds], Q => Q (.int ds.length)
  | [.tup ds], Q => Q (.int ds.length)
  | [.str x], Q => x.length ≤ sizeLine ∧ Q (.int x.length)
  | _, _ => False
def bAbs : B1
  | [.int i], Q => Q (.int (if i < 0 then -i else i))
  | _, _ => False
def bInt : B1
  | [.int i], Q => Q (.int i)
  | [.bl b], Q => Q (.int (if b then 1 else 0))
  | _, _ => False
def bMax2 : B1
  | [.int i, .int j], Q => Q (.int (if j > i then j else i))
  | _, _ => False
def bMin2 : B1
  | [.int i, .int j], Q => Q (.int (if j < i then j else i))
  | _, _ => False
def bSum : B1
  | [.lst ds], Q => ∃ ns : List Int, ds = ns.map D.int ∧ Q (.int ns.sum)
  | _, _ => False
def bMax1 : B1
  | [.lst ds], Q => ∃ ns : List Int, ds = ns.map D.int ∧ 0 < ns.length ∧ ∀ m, m ∈ ns → (∀ y, y ∈ ns → y ≤ m) → Q (.int m)
  | _, _ => False
def bMin1 : B1
  | [.lst ds], Q => ∃ ns : List Int, ds = ns.map D.int ∧ 0 < ns.length ∧ ∀ m, m ∈ ns → (∀ y, y ∈ ns → m ≤ y) → Q (.int m)
  | _, _ => False
def bAll : B1
  | [.lst ds], Q => ∃ bs : List Bool, ds = bs.map D.bl ∧ Q (.bl (bs.all id))
  | _, _ => False
def bAny : B1
  | [.lst ds], Q => ∃ bs : List Bool, ds = bs.map D.bl ∧ Q (.bl (bs.any id))
  | _, _ => False
/-- list(x): a new list -/
def bList : B1
  | [.lst ds], Q => Q (.lst ds)
  | [.tup ds], Q => Q (.lst ds)
  | [.str x], Q => x.length ≤ sizeLine ∧ Q (.lst (signs x))
  | _, _ => False
def bTuple : B1
  | [.lst ds], Q => Q (.tup ds)
  | [.tup ds], Q => Q (.tup ds)
  | _, _ => False
def bStr : B1
  | [.int i], Q => i.natAbs.log2 < 1920 ∧ Q (.str (toString i))
  | _, _ => False
section
variable {X : Cx}
theorem b_len : B1Ok X.K (fun xs H Q => ∃ x n, xs = [x] ∧ LenV X.K x H n ∧ Q (.int n) H) bLen := by
  intro vs H ds Qd Q p q k
  cases p with
  | nil => exact q.elim
  | cons h t =>
    cases t with
    | cons _ _ => cases h <;> exact q.elim
    | nil =>
      cases h <;> first | exact q.elim | skip
      · exact ⟨_, _, rfl, ⟨q.1, rfl⟩, k _ _ _ q.2 (Same.refl H) (.int _)⟩
      · rename_i h r
        exact ⟨_, _, rfl, .inr ⟨_, h, rfl⟩, by rw [r.length]; exact k _ _ _ q (Same.refl H) (.int _)⟩
      · rename_i h r
        exact ⟨_, _, rfl, .inl ⟨_, h.seq, rfl⟩, by rw [r.length]; exact k _ _ _ q (Same.refl H) (.int _)⟩
theorem b_abs : B1Ok X.K (fun xs H Q => ∃ i, xs = [.int i] ∧ Q (.int (if i < 0 then -i else i)) H) bAbs := by
  intro vs H ds Qd Q p q k
  cases p with
  | nil => exact q.elim
  | cons h t =>
    cases t with
    | cons _ _ => cases h <;> exact q.elim
    | nil =>
      cases h <;> first | exact q.elim | skip
      exact ⟨_, rfl, k _ _ _ q (Same.refl H) (.int _)⟩
theorem b_int : B1Ok X.K (fun xs H Q => (∃ i, xs = [.int i] ∧ Q (.int i) H) ∨ ∃ k, xs = [.bl k] ∧ Q (.int (if k then 1 else 0)) H) bInt := by
  intro vs H ds Qd Q p q k
  cases p with
  | nil => exact q.elim
  | cons h t =>
    cases t with
    | cons _ _ => cases h <;> exact q.elim
    | nil =>
      cases h <;> first | exact q.elim | skip
      · exact .inr ⟨_, rfl, k _ _ _ q (Same.refl H) (.int _)⟩
      · exact .inl ⟨_, rfl, k _ _ _ q (Same.refl H) (.int _)⟩
theorem b_max2 : B1Ok X.K (fun xs H Q => ∃ i j, xs = [.int i, .int j] ∧ Q (.int (if j > i then j else i)) H) bMax2 := by
  intro vs H ds Qd Q p q k
  cases p with
  | nil => exact q.elim
  | cons h t =>
    cases t with
    | nil => cases h <;> exact q.elim
    | cons h2 t =>
      cases t with
      | cons _ _ => cases h <;> cases h2 <;> exact q.elim
      | nil =>
        cases h <;> cases h2 <;> first | exact q.elim | skip
        exact ⟨_, _, rfl, k _ _ _ q (Same.refl H) (.int _)⟩
theorem b_min2 : B1Ok X.K (fun xs H Q => ∃ i j, xs = [.int i, .int j] ∧ Q (.int (if j < i then j else i)) H) bMin2 := by
  intro vs H ds Qd Q p q k
  cases p with
  | nil => exact q.elim
  | cons h t =>
    cases t with
    | nil => cases h <;> exact q.elim
    | cons h2 t =>
      cases t with
      | cons _ _ => cases h <;> cases h2 <;> exact q.elim
      | nil =>
        cases h <;> cases h2 <;> first | exact q.elim | skip
        exact ⟨_, _, rfl, k _ _ _ q (Same.refl H) (.int _)⟩
/-- one list -/
theorem b_one {r : List V → Hp → VK → Prop} {b : B1} (h : ∀ (a : Addr) (vs : List V) (H : Hp) (ds : List D) (Qd : D → Prop) (Q : VK), SqL X.K H a vs → Reps X.K H vs ds → b [.lst ds] Qd → (∀ v d H', Qd d → Same H H' → Rep X.K H' v d → Q v H') → r [.ref a] H Q)
    (hn : ∀ ds Q, b ds Q → ∃ es, ds = [.lst es]) : B1Ok X.K r b := by
  intro vs H ds Qd Q p q k
  obtain ⟨es, rfl⟩ := hn _ _ q
  cases p with
  | cons p t =>
    cases t
    cases p with
    | lst h' r' => exact h _ _ _ _ _ _ h'.seq r' q k
theorem b_sum : B1Ok X.K (rSum X.K) bSum := b_one (fun a vs H ds Qd Q h r ⟨ns, e, q⟩ k => by
  subst e
  rw [r.ints] at h
  exact ⟨a, ns, rfl, h, k _ _ _ q (Same.refl H) (.int _)⟩) fun ds Q h => by
    unfold bSum at h
    split at h
    · exact ⟨_, rfl⟩
    · exact h.elim
theorem b_max1 : B1Ok X.K (rMax X.K) bMax1 := b_one (fun a vs H ds Qd Q h r ⟨ns, e, l, q⟩ k => by
  subst e
  rw [r.ints] at h
  exact ⟨a, ns, rfl, h, l, fun m h1 h2 => k _ _ _ (q m h1 h2) (Same.refl H) (.int _)⟩) fun ds Q h => by
    unfold bMax1 at h
    split at h
    · exact ⟨_, rfl⟩
    · exact h.elim
theorem b_min1 : B1Ok X.K (rMin X.K) bMin1 := b_one (fun a vs H ds Qd Q h r ⟨ns, e, l, q⟩ k => by
  subst e
  rw [r.ints] at h
  exact ⟨a, ns, rfl, h, l, fun m h1 h2 => k _ _ _ (q m h1 h2) (Same.refl H) (.int _)⟩) fun ds Q h => by
    unfold bMin1 at h
    split at h
    · exact ⟨_, rfl⟩
    · exact h.elim
theorem b_all : B1Ok X.K (rAll X.K) bAll := b_one (fun a vs H ds Qd Q h r ⟨ns, e, q⟩ k => by
  subst e
  rw [r.bls] at h
  exact ⟨a, ns, rfl, h, k _ _ _ q (Same.refl H) (.bl _)⟩) fun ds Q h => by
    unfold bAll at h
    split at h
    · exact ⟨_, rfl⟩
    · exact h.elim
theorem b_any : B1Ok X.K (rAny X.K) bAny := b_one (fun a vs H ds Qd Q h r ⟨ns, e, q⟩ k => by
  subst e
  rw [r.bls] at h
  exact ⟨a, ns, rfl, h, k _ _ _ q (Same.refl H) (.bl _)⟩) fun ds Q h => by
    unfold bAny at h
    split at h
    · exact ⟨_, rfl⟩
    · exact h.elim
theorem b_tuple : B1Ok X.K (fun xs H Q => ∃ p ys, xs = [.ref p] ∧ ((SqL X.K H p ys ∧ ∀ l, H l = none → Q (.ref l) (upd H l (.tup ys))) ∨ (SqT X.K H p ys ∧ Q (.ref p) H))) bTuple := by
  intro vs H ds Qd Q p q k
  cases p with
  | nil => exact q.elim
  | cons h t =>
    cases t with
    | cons _ _ => cases h <;> exact q.elim
    | nil =>
      cases h <;> first | exact q.elim | skip
      · rename_i h r
        exact ⟨_, _, rfl, .inr ⟨h, k _ _ _ q (Same.refl H) (.tup h r)⟩⟩
      · rename_i h r
        exact ⟨_, _, rfl, .inl ⟨h.seq, fun l hl => k _ _ _ q (same_upd hl) (.tup (.of upd_same) (r.keep (.of (same_upd hl))))⟩⟩
theorem b_str : B1Ok X.K (fun xs H Q => ∃ i, xs = [.int i] ∧ i.natAbs.log2 < 1920 ∧ Q (.str (toString i)) H) bStr := by
  intro vs H ds Qd Q p q k
  cases p with
  | nil => exact q.elim
  | cons h t =>
    cases t with
    | cons _ _ => cases h <;> exact q.elim
    | nil =>
      cases h <;> first | exact q.elim | skip
      exact ⟨_, rfl, q.1, k _ _ _ q.2 (Same.refl H) (.str _)⟩
/-- list(text) -/
def rListS : List V → Hp → VK → Prop := fun xs H Q => ∃ x : Str, xs = [.str x] ∧ x.length ≤ sizeLine ∧ ∀ l, H l = none → Q (.ref l) (upd H l (.lst (x.cps.toList.map fun c => V.str ⟨#[c]⟩)))
theorem vals_signs {x : Str} {acc : Array Value} (h : ItemsOf (SignAt x) acc x.cps.size) : Vals (x.cps.toList.map fun c => V.str ⟨#[c]⟩) acc.toList := by
  refine vals_of_at (by rw [List.length_map, Array.length_toList, Array.length_toList, h.1]) fun j y u e1 e2 => ?_
  rw [List.getElem?_map] at e1
  obtain ⟨c, t, e3, e4⟩ := h.2 j u (by rw [← Array.getElem?_toList]; exact e2)
  rw [Array.getElem?_toList, e3] at e1
  cases e1
  exact ⟨t, e4⟩
theorem call_list_text (hc : X.calm = true) : CallR X (.type "list") rListS := by
  intro pins s σ H xs us Q I r h
  obtain ⟨x, rfl, hx, q⟩ := h
  obtain ⟨u, rfl, rx⟩ := vals1 r
  obtain ⟨t, rfl⟩ := rx
  refine call_list_str (I.ok.hd hc) x t (fun h' tk acc c kp e it => ?_) (hn := hx)
  refine ⟨.ref s.heap.objs.size, _, I.laid (t' := tk) kp (Nat.le_refl _) (show ObjOk X.prog X.w _ h' _ (.lst (x.cps.toList.map fun c => V.str ⟨#[c]⟩)) from ⟨by rw [List.length_map, Array.length_toList]; exact hx, acc.toList, c, vals_signs it, by simpa using e⟩), rfl, q _ (I.hok.fresh (Nat.le_refl _))⟩
def rList3 (K : Frg) : List V → Hp → VK → Prop := fun xs H Q => rListS xs H Q ∨ ∃ p ys, xs = [.ref p] ∧ (SqL K H p ys ∨ SqT K H p ys) ∧ ∀ l, H l = none → Q (.ref l) (upd H l (.lst ys))
theorem call_list3 (hc : X.calm = true) : CallR X (.type "list") (rList3 X.K) := (call_list_text hc).or call_list_of
theorem Reps.signs {K : Frg} {H : Hp} : ∀ cs : List Nat, Reps K H (cs.map fun c => V.str ⟨#[c]⟩) (cs.map fun c => D.str ⟨#[c]⟩)
  | [] => .nil
  | _ :: cs => .cons (.str _) (Reps.signs cs)
theorem b_list : B1F X.K (rList3 X.K) bList := by
  intro vs H ds Qd Q p q k
  cases p with
  | nil => exact q.elim
  | cons h t =>
    cases t with
    | cons _ _ => cases h <;> exact q.elim
    | nil =>
      cases h <;> first | exact q.elim | skip
      · exact .inl ⟨_, rfl, q.1, fun l hl => k _ _ _ q.2 (same_upd hl) hl ⟨_, upd_same, Reps.signs _⟩⟩
      · rename_i h r
        exact .inr ⟨_, _, rfl, .inr h, fun l hl => k _ _ _ q (same_upd hl) hl ⟨_, upd_same, r.keep (.of (same_upd hl))⟩⟩
      · rename_i h r
        exact .inr ⟨_, _, rfl, .inl h.seq, fun l hl => k _ _ _ q (same_upd hl) hl ⟨_, upd_same, r.keep (.of (same_upd hl))⟩⟩
end
end DL
namespace DL
open PySem PySem.Spec L2
section
variable {X : Cx}
open PySem.W (EachIs dataLe AllAlike Sortable)
/-- the items of a list that is to be sorted: values beside their data -/
abbrev VP := V × PyData
def zle : VP → VP → Bool := dataLe false fun z : VP => z.2
theorem each_vals : ∀ {zs : List VP} {us : List Value}, Vals (zs.map (·.1)) us → EachIs (fun (u : Value) (z : VP) => RelV z.1 u) us zs
  | [], _, .nil => .nil
  | _ :: _, _, .cons r t => .cons r (each_vals t)
theorem vals_each : ∀ {zs : List VP} {us : List Value}, EachIs (fun (u : Value) (z : VP) => RelV z.1 u) us zs → Vals (zs.map (·.1)) us
  | _, _, .nil => .nil
  | _, _, .cons r t => .cons r (vals_each t)
theorem each_reads {pins : List (Addr × Obj)} {σ : L2.St} {H : Hp} {s : Shared} (I : Inv X pins σ H s) {h' : Heap} (hk : ∀ b o, s.heap.get? b = some o → h'.get? b = some o) {a : Addr} (ha : s.heap.objs.size ≤ a) :
    ∀ {zs : List VP} {us : List Value}, (∀ z ∈ zs, Dp X.K H z.1 z.2) → EachIs (fun (u : Value) (z : VP) => RelV z.1 u) us zs → EachIs (fun (u : Value) (z : VP) => ∃ as, Reads h' u z.2 as ∧ a ∉ as) us zs
  | _, _, _, .nil => .nil
  | _, _, hd, .cons r t => .cons (by
      obtain ⟨as, q⟩ := Dp.reads I _ _ _ (hd _ List.mem_cons_self) r
      refine ⟨as, PyProof.Rows.Reads.keeps hk q, fun hm => ?_⟩
      obtain ⟨o, e⟩ := PyProof.On.reads_mem_get q a hm
      exact absurd (Nat.lt_of_lt_of_le (Heap.lt_size e) ha) (Nat.lt_irrefl _)) (each_reads I hk ha (fun z hz => hd z (List.mem_cons_of_mem _ hz)) t)
def rSort3 (K : Frg) : List V → Hp → VK → Prop := fun vs H Q => ∃ (a : Addr) (zs : List VP), vs = [.ref a] ∧ (SqL K H a (zs.map (·.1)) ∨ SqT K H a (zs.map (·.1))) ∧ (∀ z ∈ zs, Dp K H z.1 z.2) ∧ AllAlike (zs.map (·.2)) ∧ Sortable (zs.map (·.2)) ∧
  (∀ z ∈ zs, z.2.depth ≤ 8) ∧ ∀ p, H p = none → Q (.ref p) (upd H p (.lst ((zs.mergeSort zle).map (·.1))))
theorem each_imp {α β : Type} {R R' : α → β → Prop} (h : ∀ a b, R a b → R' a b) : ∀ {as : List α} {bs : List β}, EachIs R as bs → EachIs R' as bs
  | _, _, .nil => .nil
  | _, _, .cons r t => .cons (h _ _ r) (each_imp h t)
/-- the list that collects a tuple's items -/
abbrev gath (h : Heap) (items : Array Value) : Heap :=
  (h.push { cls := .type "list", data := .seq (#[] : Array Value) }).update h.objs.size (Obj.mapSeq (· ++ items))
theorem gath_keep {h : Heap} {items : Array Value} {b : Addr} {o : Obj} (q : h.get? b = some o) : (gath h items).get? b = some o :=
  (Heap.get?_update_other _ _ (Nat.ne_of_gt (Heap.lt_size q))).trans
    (Heap.get?_push_of_some _ q)
theorem collect_tup {prog : Program} {w : World} {A : Around} {E : Value → Shared → Prop} {s : Shared} {a : Addr} {o : Obj} {items : Array Value} {n : Nat} {Q : List Value → Shared → Prop}
    (ho : s.heap.get? a = some o) (hc : o.cls = .type "tuple") (hd : o.data = .seq items n) (hz : items.size ≤ sizeLine) (hQ : Q items.toList { s with heap := gath s.heap items }) : wpAny (model prog w) A (collect (.ref a)) Q E s := by
  have g0 : (s.heap.push { cls := .type "list", data := .seq (#[] : Array Value) }).get? s.heap.objs.size = some { cls := .type "list", data := .seq #[] 0 } := Heap.get?_push_size _ rfl
  have g1 := Heap.get?_update_self (Obj.mapSeq (· ++ items)) g0 rfl
  unfold collect
  refine wpAny_bind
    (wpAny_runValue (codeAny_builtin F.entry_proto_collect ?_))
  rw [Around.under_plainId
    F.plain_proto_collect _]
  refine wpAny_bind (m := newList [])
    (wpAny_newObj_type ?_)
  refine wpAny_pure ⟨plainId_quiet F.plain_list_iadd _,
    codeAny_builtin F.entry_list_iadd ?_⟩
  rw [Around.under_plainId
    F.plain_list_iadd _]
  have last : wpAny (model prog w) A (do match (← load s.heap.objs.size).data with | .seq xs _ => pure xs.toList | _ => unsupported "internal:collect") Q E { s with heap := gath s.heap items } :=
    wpAny_bind (wpAny_load g1 (wpAny_pure (by
      show Q ((#[] : Array Value) ++ items).toList _
      rw [Array.empty_append]
      exact hQ)))
  refine wpAny_mono (wpAny_extend_seq (hsz := hz) (A := A) (s := { s with heap := s.heap.push { cls := .type "list", data := .seq (#[] : Array Value) } }) (R := fun r z => r = .ok (.ret (.ref s.heap.objs.size)) ∧ z = { s with heap := gath s.heap items })
    _ a _ 0 (.inr rfl) g0 (Heap.get?_push_of_some _ ho) hc hd ⟨rfl, rfl⟩) (fun fin z hf => ?_) fun e z he => absurd he.1 (by simp)
  cases fin with
  | done f =>
    obtain ⟨e1, e2⟩ := hf
    subst e2
    cases e1
    exact last
  | again c => exact ⟨hf.1, codeAny_mono hf.2 fun r z ⟨e1, e2⟩ => by
      subst e1
      subst e2
      exact last⟩
open PyProof.Rows in
theorem sorted_tuple {prog : Program} {w : World} {A : Around} {E : Value → Shared → Prop} {s : Shared} {a : Addr} {o : Obj} {its : List Value} {n : Nat} {zs : List VP} {R : Value → VP → Prop} {Q : Value → Shared → Prop}
    (ho : s.heap.get? a = some o) (hc : o.cls = .type "tuple") (hd : o.data = .seq its.toArray n) (hl : its.length ≤ sizeLine) (e : EachIs R its zs)
    (er : ∀ (h' : Heap) (l : Addr), (∀ b o, s.heap.get? b = some o → h'.get? b = some o) → s.heap.objs.size ≤ l → EachIs (fun (u : Value) (z : VP) => ∃ as, Reads h' u z.2 as ∧ l ∉ as) its zs)
    (hal : AllAlike (zs.map (·.2))) (hk : Sortable (zs.map (·.2))) (hu : ∀ z ∈ zs, A.units + 2 + z.2.depth < cLine)
    (h : ∀ (h' : Heap) (l : Addr) (out : List Value) (c : Nat), (∀ b o, s.heap.get? b = some o → h'.get? b = some o) → s.heap.objs.size ≤ l → h'.get? l = some (seqObj "list" out.toArray c) → out.length = zs.length → EachIs R out (zs.mergeSort zle) → Q (.ref l) { s with heap := h' }) :
    wpAny (model prog w) A (call (.builtin "sorted") [.ref a]) Q E s := by
  refine call_function_entry_kw (kw := []) kind_sorted plain_sorted entry_sorted (args_sorted1 _) ?_
  unfold Builtin.«sorted»
  refine wpAny_bind (m := checkCount "sorted" 1 1 _) (wpAny_pure ?_)
  refine wpAny_bind (collect_tup ho hc hd (by rw [List.size_toArray]; exact hl) ?_)
  refine wpAny_bind (wpAny_newList (items := its) ?_ hl)
  have hel := e.length
  generalize eh : gath s.heap its.toArray = h1
  have k1 : ∀ b o, s.heap.get? b = some o → h1.get? b = some o := fun b o q => by
    rw [← eh]
    exact gath_keep q
  have k2 : ∀ b o, s.heap.get? b = some o → (h1.push { cls := .type "list", data := .seq its.toArray }).get? b = some o := fun b o q => Heap.get?_push_of_some _ (k1 b o q)
  have hsz : s.heap.objs.size ≤ h1.objs.size := by
    rw [← eh, Heap.size_update, Heap.size_push]
    exact Nat.le_succ _
  have at1 : (h1.push { cls := .type "list", data := .seq its.toArray }).get? h1.objs.size = some (seqObj "list" its.toArray 0) := Heap.get?_push_size _ rfl
  refine wpAny_bind (wpAny_holding (PySem.W.list_sort_data (bs := zs) (enc := fun z : VP => z.2) (s := { s with heap := h1.push { cls := .type "list", data := .seq its.toArray } }) at1 e (er _ _ k2 hsz) hal hk (by rw [← hel]; exact hl) (fun z hz => ?_) fun out ol oe => ?_))
  · have := hu z hz
    show A.units + 1 + 1 + z.2.depth < cLine
    omega
  · obtain ⟨c, at2⟩ := sortedHeap_at (out := out.toArray) at1
    refine wpAny_pure ⟨_, rfl, h _ h1.objs.size out c (fun b o q => ?_) hsz at2 ol oe⟩
    have hb : b ≠ h1.objs.size := Nat.ne_of_lt (Nat.lt_of_lt_of_le (Heap.lt_size q) hsz)
    rw [sortedHeap_old hb (Heap.lt_size (k2 b o q))]
    exact k2 b o q
open PyProof.Rows in
theorem call_sorted3 (hu : X.A.units + 64 < cLine) : CallR X (.builtin "sorted") (rSort3 X.K) := by
  intro pins s σ H xs us Q I r h
  obtain ⟨a, zs, rfl, hq, hd, hal, hk, hdp, q⟩ := h
  obtain ⟨u, rfl, rx⟩ := vals1 r
  cases rx
  have hdep : ∀ z ∈ zs, X.A.units + 2 + z.2.depth < cLine := fun z hz => by
    have := hdp z hz
    omega
  rcases hq with hq | hq
  · obtain ⟨its, rv, pl, hz⟩ := I.list hq
    have e := each_vals rv
    have el := e.length
    have hzl : zs.length ≤ sizeLine := by rw [List.length_map] at hz; exact hz
    refine PySem.W.sorted_data (bs := zs) (enc := fun z : VP => z.2) pl.isList e (each_imp (fun _ _ ⟨as, q, _⟩ => ⟨as, q⟩) (each_reads I (fun _ _ q => q) (Nat.le_refl _) hd e)) hal hk hzl hdep fun out ol oe => ?_
    obtain ⟨c, at2⟩ := sortedAll_at s.heap its out.toArray
    exact ⟨.ref (s.heap.objs.size + 1), _, I.laid (t' := s.toks) (fun b o q => sortedAll_old q) (Nat.le_succ _) (show ObjOk X.prog X.w _ _ _ (.lst ((zs.mergeSort zle).map (·.1))) from ⟨by rw [List.length_map, List.length_mergeSort]; exact hzl, out, c, vals_each oe, at2⟩), rfl, q _ (I.hok.fresh (Nat.le_succ _))⟩
  · obtain ⟨its, rv, pl, hz⟩ := I.tuple hq
    have e := each_vals rv
    have el := e.length
    have hzl : zs.length ≤ sizeLine := by rw [List.length_map] at hz; exact hz
    obtain ⟨o, ho, hc, n, hdt⟩ := pl
    refine sorted_tuple (R := fun (u : Value) (z : VP) => RelV z.1 u) ho hc hdt (by rw [el]; exact hzl) e (fun h' l k hl => each_reads I k hl hd e) hal hk hdep fun h' l out c k hl at2 ol oe => ?_
    exact ⟨.ref l, _, I.laid (t' := s.toks) k hl (show ObjOk X.prog X.w _ _ _ (.lst ((zs.mergeSort zle).map (·.1))) from ⟨by rw [List.length_map, List.length_mergeSort]; exact hzl, out, c, vals_each oe, at2⟩), rfl, q _ (I.hok.fresh hl)⟩
/-- the order of data of one make -/
def dle (a b : D) : Bool := dataLe false D.py a b
def sortD (ds : List D) : List D := ds.mergeSort dle
/-- sorted(x): data of one make, tuples that are not empty, or no tuples at all -/
def canSort (ds : List D) : Prop := goodAll 7 ds = true ∧ AllAlike (pyAll ds) ∧ Sortable (pyAll ds)
def bSorted : B1
  | [.lst ds], Q => canSort ds ∧ Q (.lst (sortD ds))
  | [.tup ds], Q => canSort ds ∧ Q (.lst (sortD ds))
  | _, _ => False
theorem sort_fst {K : Frg} {H : Hp} {vs : List V} {ds : List D} (r : Reps K H vs ds) : Reps K H (((vs.zip (ds.map D.py)).mergeSort zle).map (·.1)) (sortD ds) := by
  have e1 : ((vs.zip ds).map fun p : V × D => (p.1, p.2.py)) = vs.zip (ds.map D.py) := by
    rw [List.zip_map_right]
    rfl
  have e2 : ((vs.zip (ds.map D.py)).mergeSort zle) = ((vs.zip ds).mergeSort fun a b => dle a.2 b.2).map fun p : V × D => (p.1, p.2.py) := by
    rw [← e1]
    exact (PySem.W.sort_maps (fun p : V × D => (p.1, p.2.py)) fun a _ b _ => rfl).symm
  have e3 : sortD ds = ((vs.zip ds).mergeSort fun a b => dle a.2 b.2).map (·.2) := by
    have e4 : (vs.zip ds).map (·.2) = ds := List.map_snd_zip (by rw [r.length]; exact Nat.le_refl _)
    unfold sortD
    rw [PySem.W.sort_maps (s := dle) (fun p : V × D => p.2) fun a _ b _ => rfl, e4]
  rw [e2, e3, List.map_map]
  have all : ∀ p ∈ (vs.zip ds).mergeSort fun a b => dle a.2 b.2, Rep K H p.1 p.2 := fun p hp => by
    have hp' : p ∈ vs.zip ds := (List.mergeSort_perm _ _).mem_iff.mp hp
    have go : ∀ {vs : List V} {ds : List D}, Reps K H vs ds → ∀ p ∈ vs.zip ds, Rep K H p.1 p.2 := fun {vs ds} r => by
      intro p hp
      obtain ⟨i, hi, e⟩ := List.getElem_of_mem hp
      have e' : (vs.zip ds)[i]? = some p := by rw [List.getElem?_eq_getElem hi, e]
      rw [List.getElem?_zip_eq_some] at e'
      obtain ⟨d, q1, q2⟩ := r.getV e'.1
      rw [e'.2] at q1
      cases q1
      exact q2
    exact go r p hp'
  have gen : ∀ l : List (V × D), (∀ p ∈ l, Rep K H p.1 p.2) → Reps K H (l.map ((fun z : VP => z.1) ∘ fun p : V × D => (p.1, p.2.py))) (l.map (·.2)) := by
    intro l
    induction l with
    | nil => intro _; exact .nil
    | cons p l ih => intro h; exact .cons (h p List.mem_cons_self) (ih fun q hq => h q (List.mem_cons_of_mem _ hq))
  exact gen _ all
theorem b_sorted : B1F X.K (rSort3 X.K) bSorted := by
  intro vs H ds Qd Q p q k
  have gen : ∀ (a : Addr) (vs : List V) (ds : List D), (SqL X.K H a vs ∨ SqT X.K H a vs) → Reps X.K H vs ds → canSort ds → Qd (.lst (sortD ds)) → rSort3 X.K [.ref a] H Q := fun a vs ds hs r ⟨g, al, so⟩ q => by
    have hl : (vs.zip (ds.map D.py)).map (·.1) = vs := List.map_fst_zip (by rw [List.length_map, r.length]; exact Nat.le_refl _)
    have hl2 : (vs.zip (ds.map D.py)).map (·.2) = pyAll ds := by rw [pyAll_map]; exact List.map_snd_zip (by rw [List.length_map, r.length]; exact Nat.le_refl _)
    have each : ∀ z ∈ vs.zip (ds.map D.py), Dp X.K H z.1 z.2 ∧ z.2.depth ≤ 8 := fun z hz => by
      obtain ⟨i, hi, e⟩ := List.getElem_of_mem hz
      have e' : (vs.zip (ds.map D.py))[i]? = some z := by rw [List.getElem?_eq_getElem hi, e]
      rw [List.getElem?_zip_eq_some] at e'
      obtain ⟨d, q1, q2⟩ := r.getV e'.1
      have e2 := e'.2
      rw [List.getElem?_map, q1] at e2
      have gd := goodAll_iff.mp g d (List.mem_of_getElem? q1)
      have e3 : z.2 = d.py := (Option.some.inj e2).symm
      rw [e3]
      exact ⟨q2.dp 7 gd, Nat.le_trans (good_depth 7 d gd) (by decide)⟩
    refine ⟨a, vs.zip (ds.map D.py), rfl, by rw [hl]; exact hs, fun z hz => (each z hz).1, by rw [hl2]; exact al, by rw [hl2]; exact so, fun z hz => (each z hz).2, fun p hp => ?_⟩
    exact k _ _ _ q (same_upd hp) hp ⟨_, upd_same, (sort_fst r).keep (.of (same_upd hp))⟩
  cases p with
  | nil => exact q.elim
  | cons h t =>
    cases t with
    | cons _ _ => cases h <;> exact q.elim
    | nil =>
      cases h <;> first | exact q.elim | skip
      · rename_i h r
        exact gen _ _ _ (.inr h) r q.1 q.2
      · rename_i h r
        exact gen _ _ _ (.inl h.seq) r q.1 q.2
end
end DL
namespace DL
open PySem PySem.Spec L2

/-- an iterator feeds these data, whatever grows meanwhile -/
def Feeds (K : Frg) (H : Hp) (J : It) (ds : List D) : Prop := ∀ H2, Imm H H2 →
  (∀ i, i < ds.length → J.go i H2 ∧ ∀ x H3, J.yld i H2 x H3 → Same H2 H3 ∧ ∃ d, ds[i]? = some d ∧ Rep K H3 x d) ∧ J.stop ds.length H2
theorem Feeds.keep {K : Frg} {H H' : Hp} {J : It} {ds : List D} (f : Feeds K H J ds) (i : Imm H H') : Feeds K H' J ds := fun H2 i2 => f H2 (i.trans i2)
abbrev WI := DEnv → (List D → DEnv → Prop) → Prop
def tDI (K : Frg) (w : WI) : TI := fun σ H Q => ∃ H0 ρ Qd, R K H0 ρ σ H ∧ w ρ Qd ∧ ∀ J ds H' ρ', Qd ds ρ' → R K H0 ρ' σ H' → Ev ρ σ H ρ' σ H' → Feeds K H' J ds → Q J H'
abbrev DI (X : Cx) (tg e : Expr) (w : WI) : Prop := PI X tg e (tDI X.K w)

/-- the items of a list, a tuple, a text -/
def itemsD : D → Option (List D)
  | .lst ds => some ds
  | .tup ds => some ds
  | .str x => some (signs x)
  | _ => none
def wSeq (a : WE) : WI := fun ρ Q => a ρ fun d ρ1 => ∃ ds, itemsD d = some ds ∧ Q ds ρ1
section
variable {X : Cx} {tg e e2 : Expr} {wa : WE} {as : WA} {p pos : Pos}
theorem feeds_list {K : Frg} {H : Hp} {a : Addr} {vs : List V} {ds : List D} (h : FzL K H a vs) (r : Reps K H vs ds) : Feeds K H (Itl K a) ds := fun H2 im => by
  have h2 := (h.keep im).seq
  have r2 := r.keep im
  refine ⟨fun i hi => ?_, ⟨vs, h2, by rw [r2.length]; exact Nat.le_refl _⟩⟩
  obtain ⟨v, hv, rv⟩ := r2.get (i := i) (d := ds[i]) (by simp [hi])
  refine ⟨⟨vs, v, h2, hv⟩, fun x H3 y => ?_⟩
  obtain ⟨e, y⟩ := y
  subst e
  have e' := y vs h2
  rw [hv] at e'
  cases e'
  exact ⟨.refl _, _, by simp [hi], rv⟩
theorem feeds_tup {K : Frg} {H : Hp} {a : Addr} {vs : List V} {ds : List D} (h : SqT K H a vs) (r : Reps K H vs ds) : Feeds K H (Itt K a) ds := fun H2 im => by
  have h2 := sqT_keep h im
  have r2 := r.keep im
  refine ⟨fun i hi => ?_, ⟨vs, h2, by rw [r2.length]; exact Nat.le_refl _⟩⟩
  obtain ⟨v, hv, rv⟩ := r2.get (i := i) (d := ds[i]) (by simp [hi])
  refine ⟨⟨vs, v, h2, hv⟩, fun x H3 y => ?_⟩
  obtain ⟨e, y⟩ := y
  subst e
  have e' := y vs h2
  rw [hv] at e'
  cases e'
  exact ⟨.refl _, _, by simp [hi], rv⟩
theorem feeds_str {K : Frg} {H : Hp} {x : Str} : Feeds K H (Its x) (signs x) := fun H2 im => by
  have hl : (signs x).length = x.cps.size := by unfold signs; rw [List.length_map, Array.length_toList]
  refine ⟨fun i hi => ⟨by rw [hl] at hi; exact hi, fun v H3 y => ?_⟩, by rw [hl]; exact Nat.le_refl _⟩
  obtain ⟨e, c, h1, h2⟩ := y
  subst e
  subst h2
  refine ⟨.refl _, .str ⟨#[c]⟩, ?_, .str _⟩
  unfold signs
  rw [List.getElem?_map, Array.getElem?_toList, h1]
  rfl
/-- a list, a tuple, a text begins to be walked -/
theorem iter_data {pins : List (Addr × Obj)} {σ : L2.St} {H : Hp} {s : Shared} {v : V} {u : Value} {d : D} {ds : List D} {Rq : It → Hp → Prop} {E : Value → Shared → Prop} (I : Inv X pins σ H s) (ru : RelV v u) (p : Rep X.K H v d) (e : itemsD d = some ds)
    (q : ∀ J, Feeds X.K H J ds → Rq J H) : wpAny (model X.prog X.w) X.A (pyIter u) (PIE X pins σ tg Rq) E s := by
  cases p <;> first | (cases e; done) | skip
  · cases e
    obtain ⟨t, rfl⟩ := ru
    rename_i x
    cases ha : x.cps.all (· < 128)
    · exact wpAny_pyIter_wide ha (pi_one (tk := s.toks) I _
        (turn_str _ x t "str_iterator" (.inr rfl)) ⟨_, Heap.get?_push_size _ rfl, rfl, rfl⟩ (q _ feeds_str))
    · exact wpAny_pyIter_ascii ha (pi_one (tk := s.toks) I _
        (turn_str _ x t "str_ascii_iterator" (.inl rfl)) ⟨_, Heap.get?_push_size _ rfl, rfl, rfl⟩ (q _ feeds_str))
  · rename_i h r
    cases e
    cases ru
    obtain ⟨its, rv, pl, _⟩ := I.tuple h
    exact wpAny_pyIter_tuple (show s.heap.IsTuple _ its.toArray from pl) (pi_one (tk := s.toks) I _ (turn_tuple _ _) ⟨_, Heap.get?_push_size _ rfl, rfl, rfl⟩ (q _ (feeds_tup h r)))
  · rename_i h r
    cases e
    cases ru
    obtain ⟨its, rv, pl, _⟩ := I.list h.seq
    exact wpAny_pyIter_list pl.isList (pi_one (tk := s.toks) I _ (turn_list _ _) ⟨_, Heap.get?_push_size _ rfl, rfl, rfl⟩ (q _ (feeds_list h r)))
theorem di_seq (h : DE X e wa) : DI X tg e (wSeq wa) := by
  refine ⟨fun pins s σ H Q I hw => ?_⟩
  obtain ⟨H0, ρ, Qd, r, q, k⟩ := hw
  refine thn (h.run pins s σ H (fun v H' => ∃ d ds ρ', itemsD d = some ds ∧ Qd ds ρ' ∧ R X.K H0 ρ' σ H' ∧ Rep X.K H' v d ∧ Ev ρ σ H ρ' σ H') I ⟨H0, ρ, _, r, q, fun v d H1 ρ1 ⟨ds, e, q1⟩ r1 p1 i1 => ⟨d, ds, ρ1, e, q1, r1, p1, i1⟩⟩) fun u s1 ⟨v, H1, I1, ru, d, ds, ρ1, e, q1, r1, p1, i1⟩ => ?_
  exact iter_data I1 ru p1 e fun J f => k J ds H1 ρ1 q1 r1 i1 f
/-- range(n), range(a, b) -/
def rngD (lo : Int) (n : Nat) : List D := (List.range n).map fun i : Nat => D.int (lo + (i : Int))
theorem rngD_length (lo : Int) (n : Nat) : (rngD lo n).length = n := by unfold rngD; rw [List.length_map, List.length_range]
theorem rngD_get {lo : Int} {n i : Nat} (h : i < n) : (rngD lo n)[i]? = some (.int (lo + (i : Int))) := by
  unfold rngD
  rw [List.getElem?_map, List.getElem?_range h]
  rfl
theorem feeds_rng {K : Frg} {H : Hp} {lo : Int} {n : Nat} : Feeds K H (Itr lo n) (rngD lo n) := fun H2 im => by
  have hl := rngD_length lo n
  refine ⟨fun i hi => ⟨by rw [hl] at hi; exact hi, fun v H3 y => ?_⟩, by rw [hl]; exact Nat.le_refl _⟩
  obtain ⟨e, e2⟩ := y
  subst e
  subst e2
  rw [hl] at hi
  exact ⟨.refl _, _, rngD_get hi, .int _⟩
def wRng1 (a : WE) : WI := fun ρ Q => a ρ fun d ρ1 => ∃ n, d = .int n ∧ -(2 ^ 62) ≤ n ∧ n < 2 ^ 62 ∧ Q (rngD 0 n.toNat) ρ1
def wRng2 (a b : WE) : WI := fun ρ Q => a ρ fun d ρ1 => b ρ1 fun e ρ2 => ∃ m n, d = .int m ∧ e = .int n ∧ (-(2 ^ 62) ≤ m ∧ m < 2 ^ 62 ∧ -(2 ^ 62) ≤ n ∧ n < 2 ^ 62) ∧ Q (rngD m (n - m).toNat) ρ2
theorem di_rng1 {a : Expr} {wa : WE} {p pos : Pos} (hg : Gl X "range") (hm : X.mg "range" = none) (ha : DE X a wa) (hs : starEach [a] X.env = (false, eval a X.env) :: starEach [] X.env) : DI X tg (.Call (.Name "range" p) [a] [] pos) (wRng1 wa) :=
  pi_imp (pi_range1 hg hm (da_cons ha da_nil hs) hs) fun σ H Q ⟨H0, ρ, Qd, r, q, k⟩ => ⟨H0, ρ, fun ds ρ1 => ∃ n, ds = [.int n] ∧ -(2 ^ 62) ≤ n ∧ n < 2 ^ 62 ∧ Qd (rngD 0 n.toNat) ρ1, r, (show wa ρ _ from by
      have q' : wa ρ fun d ρ1 => ∃ n, d = .int n ∧ -(2 ^ 62) ≤ n ∧ n < 2 ^ 62 ∧ Qd (rngD 0 n.toNat) ρ1 := q
      have e : (fun (d : D) (ρ1 : DEnv) => ∃ n, d = .int n ∧ -(2 ^ 62) ≤ n ∧ n < 2 ^ 62 ∧ Qd (rngD 0 n.toNat) ρ1) = fun d ρ1 => wNil ρ1 fun ds ρ2 => ∃ n, d :: ds = [.int n] ∧ -(2 ^ 62) ≤ n ∧ n < 2 ^ 62 ∧ Qd (rngD 0 n.toNat) ρ2 := by
        funext d ρ1
        show _ = ∃ n, [d] = [.int n] ∧ _
        simp only [List.cons.injEq, and_true]
      rw [e] at q'
      exact q'), fun vs ds H1 ρ1 ⟨n, e, h1, h2, q1⟩ r1 p1 i1 => by
    subst e
    cases p1 with
    | cons h t =>
      cases t
      cases h
      exact ⟨n, rfl, h1, h2, k _ _ _ _ q1 r1 i1 feeds_rng⟩⟩
theorem di_rng2 {a b : Expr} {wa wb : WE} {p pos : Pos} (hg : Gl X "range") (hm : X.mg "range" = none) (ha : DE X a wa) (hb : DE X b wb) (hs : starEach [a, b] X.env = (false, eval a X.env) :: starEach [b] X.env) (hs2 : starEach [b] X.env = (false, eval b X.env) :: starEach [] X.env) :
    DI X tg (.Call (.Name "range" p) [a, b] [] pos) (wRng2 wa wb) :=
  pi_imp (pi_range2 hg hm (da_cons ha (da_cons hb da_nil hs2) hs) (by rw [hs, hs2]; rfl) hs2) fun σ H Q ⟨H0, ρ, Qd, r, q, k⟩ => ⟨H0, ρ, fun ds ρ1 => ∃ m n, ds = [.int m, .int n] ∧ (-(2 ^ 62) ≤ m ∧ m < 2 ^ 62 ∧ -(2 ^ 62) ≤ n ∧ n < 2 ^ 62) ∧ Qd (rngD m (n - m).toNat) ρ1, r, (show wa ρ _ from by
      have q' : wa ρ fun d ρ1 => wb ρ1 fun e ρ2 => ∃ m n, d = .int m ∧ e = .int n ∧ (-(2 ^ 62) ≤ m ∧ m < 2 ^ 62 ∧ -(2 ^ 62) ≤ n ∧ n < 2 ^ 62) ∧ Qd (rngD m (n - m).toNat) ρ2 := q
      have e : (fun (d : D) (ρ1 : DEnv) => wb ρ1 fun e ρ2 => ∃ m n, d = .int m ∧ e = .int n ∧ (-(2 ^ 62) ≤ m ∧ m < 2 ^ 62 ∧ -(2 ^ 62) ≤ n ∧ n < 2 ^ 62) ∧ Qd (rngD m (n - m).toNat) ρ2) =
          fun d ρ1 => wb ρ1 fun e ρ2 => wNil ρ2 fun ds ρ3 => ∃ m n, d :: e :: ds = [.int m, .int n] ∧ (-(2 ^ 62) ≤ m ∧ m < 2 ^ 62 ∧ -(2 ^ 62) ≤ n ∧ n < 2 ^ 62) ∧ Qd (rngD m (n - m).toNat) ρ3 := by
        funext d ρ1
        congr 1
        funext e ρ2
        show _ = ∃ m n, [d, e] = [.int m, .int n] ∧ _
        simp only [List.cons.injEq, and_true, and_assoc]
      rw [e] at q'
      exact q'), fun vs ds H1 ρ1 ⟨m, n, e, h, q1⟩ r1 p1 i1 => by
    subst e
    cases p1 with
    | cons h1 t =>
      cases t with
      | cons h2 t =>
        cases t
        cases h1
        cases h2
        exact ⟨m, n, rfl, h, k _ _ _ _ q1 r1 i1 feeds_rng⟩⟩

abbrev WG := D → DEnv → (DEnv → Prop) → Prop
/-- the slots at js alone are stored -/
def tDG (K : Frg) (js : List Nat) (w : WG) : TG := fun v σ H Q => ∃ H0 ρ d Qd, R K H0 ρ σ H ∧ Rep K H v d ∧ w d ρ Qd ∧ ∀ σ' ρ', Qd ρ' → R K H0 ρ' σ' H → σ'.length = σ.length → (∀ i, i ∉ js → σ'[i]? = σ[i]? ∧ ρ'[i]? = ρ[i]?) → (∀ b, Own ρ' σ' b → Own ρ σ b) → Q σ' H
abbrev WGs := List D → DEnv → (DEnv → Prop) → Prop
def tDGs (K : Frg) (js : List Nat) (w : WGs) : TGs := fun vs σ H Q => ∃ H0 ρ ds Qd, R K H0 ρ σ H ∧ Reps K H vs ds ∧ w ds ρ Qd ∧ ∀ σ' ρ', Qd ρ' → R K H0 ρ' σ' H → σ'.length = σ.length → (∀ i, i ∉ js → σ'[i]? = σ[i]? ∧ ρ'[i]? = ρ[i]?) → (∀ b, Own ρ' σ' b → Own ρ σ b) → Q σ' H
theorem pg_imp {t t' : TG} (h : PG X tg t) (k : ∀ v σ H Q, t' v σ H Q → t v σ H Q) : PG X tg t' := ⟨fun pins s σ H v u Q I r hw => h.run pins s σ H v u Q I r (k _ _ _ _ hw)⟩
theorem pgs_imp {tgs : List Expr} {t t' : TGs} (h : PGs X tgs t) (k : ∀ v σ H Q, t' v σ H Q → t v σ H Q) : PGs X tgs t' := ⟨fun pins s σ H v u Q I r hw => h.run pins s σ H v u Q I r (k _ _ _ _ hw)⟩
abbrev DG (X : Cx) (tg : Expr) (js : List Nat) (w : WG) : Prop := PG X tg (tDG X.K js w)
abbrev DGs (X : Cx) (tgs : List Expr) (js : List Nat) (w : WGs) : Prop := PGs X tgs (tDGs X.K js w)
def gNm (i : Nat) : WG := fun d ρ Q => Q (ρ.set i (some (.sh d)))
theorem dg_name {i : Nat} {tg : Expr} (h : PG X tg (gName i)) : DG X tg [i] (gNm i) := pg_imp h fun v σ H Q ⟨H0, ρ, d, Qd, r, p, q, k⟩ => k _ _ q (r.set p) (List.length_set ..) (fun j hj => by
  have ne : i ≠ j := by
    rintro rfl
    exact hj (List.mem_singleton.mpr rfl)
  exact ⟨List.getElem?_set_ne ne, List.getElem?_set_ne ne⟩) fun b ⟨j, f, h1, h2⟩ => by
    by_cases hj : i = j
    · subst hj
      have hi := (List.getElem?_eq_some_iff.mp h1).1
      rw [List.length_set] at hi
      rw [List.getElem?_set_self hi] at h1
      cases h1
    · rw [List.getElem?_set_ne hj] at h1 h2
      exact ⟨j, f, h1, h2⟩
def gNl : WGs := fun ds ρ Q => ds = [] ∧ Q ρ
def gCn (a : WG) (as : WGs) : WGs := fun ds ρ Q => ∃ d r, ds = d :: r ∧ a d ρ fun ρ1 => as r ρ1 Q
theorem dgs_nil : DGs X [] [] gNl := pgs_imp pgs_nil fun vs σ H Q ⟨H0, ρ, ds, Qd, r, p, ⟨e, q⟩, k⟩ => by
  subst e
  cases p
  exact ⟨rfl, k _ _ q r rfl (fun _ _ => ⟨rfl, rfl⟩) fun _ h => h⟩
theorem dgs_cons {t : Expr} {ts : List Expr} {js ks : List Nat} {a : WG} {as : WGs} (h1 : DG X t js a) (h2 : DGs X ts ks as) (hs : (assignEach (t :: ts) X.env).map (·.2) = assign t X.env :: (assignEach ts X.env).map (·.2)) : DGs X (t :: ts) (js ++ ks) (gCn a as) :=
  pgs_imp (pgs_cons h1 h2 hs) fun vs σ H Q ⟨H0, ρ, ds, Qd, r, p, ⟨d, rs, e, q⟩, k⟩ => by
    subst e
    cases p with
    | cons p ps =>
      exact ⟨_, _, rfl, H0, ρ, d, _, r, p, q, fun σ1 ρ1 q1 r1 l1 n1 o1 => ⟨H0, ρ1, rs, _, r1, ps, q1, fun σ2 ρ2 q2 r2 l2 n2 o2 => k _ _ q2 r2 (l2.trans l1) (fun i hi => by
        rw [List.mem_append, not_or] at hi
        exact ⟨(n2 i hi.2).1.trans (n1 i hi.1).1, (n2 i hi.2).2.trans (n1 i hi.1).2⟩) fun b h => o1 b (o2 b h)⟩⟩
def gTp (n : Nat) (as : WGs) : WG := fun d ρ Q => ∃ ds, d = .tup ds ∧ ds.length = n ∧ as ds ρ Q
theorem dg_tup {ts : List Expr} {k n : Nat} {js : List Nat} {as : WGs} {pos : Pos} (hc : X.calm = true) (h : DGs X ts js as) (hn : (assignEach ts X.env).length = n) (hst : (assignEach ts X.env).findIdx? (·.1) = none) : DG X (.Tuple ts k pos) js (gTp n as) :=
  pg_imp (pg_tup hc h hn hst) fun v σ H Q ⟨H0, ρ, d, Qd, r, p, ⟨ds, e, l, q⟩, k⟩ => by
    subst e
    cases p with
    | tup h' r' => exact ⟨_, _, rfl, h', by rw [r'.length]; exact l, H0, ρ, ds, Qd, r, r', q, k⟩

/-- the names of a comprehension's own forgotten -/
def wipeD (ρ : DEnv) : List Nat → DEnv
  | [] => ρ
  | v :: vs => (wipeD ρ vs).set v none
theorem wipeD_length (ρ : DEnv) : ∀ vs, (wipeD ρ vs).length = ρ.length
  | [] => rfl
  | v :: vs => by
    unfold wipeD
    rw [List.length_set, wipeD_length ρ vs]
theorem wipeD_some {ρ : DEnv} {i : Nat} {s : Slot} : ∀ {vs : List Nat}, (wipeD ρ vs)[i]? = some (some s) → ρ[i]? = some (some s) ∧ i ∉ vs
  | [], h => ⟨h, by simp⟩
  | v :: vs, h => by
    unfold wipeD at h
    by_cases hi : v = i
    · subst hi
      by_cases hv : v < (wipeD ρ vs).length
      · rw [List.getElem?_set_self hv] at h
        cases h
      · rw [List.getElem?_eq_none (by simpa using hv)] at h
        cases h
    · rw [List.getElem?_set_ne hi] at h
      obtain ⟨h1, h2⟩ := wipeD_some h
      exact ⟨h1, by rw [List.mem_cons, not_or]; exact ⟨fun e => hi e.symm, h2⟩⟩
theorem wipeD_out {ρ : DEnv} {i : Nat} : ∀ {vs : List Nat}, i ∉ vs → (wipeD ρ vs)[i]? = ρ[i]?
  | [], _ => rfl
  | v :: vs, h => by
    rw [List.mem_cons, not_or] at h
    unfold wipeD
    rw [List.getElem?_set_ne (fun e => h.1 e.symm), wipeD_out h.2]
theorem wipe_get_out {σ : L2.St} {i : Nat} : ∀ {vs : List Nat}, i ∉ vs → (wipe σ vs)[i]? = σ[i]?
  | [], _ => rfl
  | v :: vs, h => by
    rw [List.mem_cons, not_or] at h
    unfold wipe
    rw [List.getElem?_set_ne (fun e => h.1 e.symm), wipe_get_out h.2]
theorem wipe_get_in {σ : L2.St} {i : Nat} : ∀ {vs : List Nat}, i ∈ vs → (wipe σ vs)[i]? = (σ[i]?).map fun _ => none
  | v :: vs, h => by
    unfold wipe
    by_cases hv : v = i
    · subst hv
      by_cases hl : v < σ.length
      · rw [List.getElem?_set_self (by rw [wipe_length]; exact hl), List.getElem?_eq_getElem hl]
        rfl
      · rw [List.getElem?_eq_none (by rw [List.length_set, wipe_length]; omega), List.getElem?_eq_none (by omega)]
        rfl
    · rw [List.getElem?_set_ne hv]
      exact wipe_get_in ((List.mem_cons.mp h).resolve_left fun e => hv e.symm)
theorem wipe_same {σ σ' : L2.St} {vs js : List Nat} (hj : ∀ i ∈ js, i ∈ vs) (hl : σ'.length = σ.length) (h : ∀ i, i ∉ js → σ'[i]? = (wipe σ vs)[i]?) : wipe σ' vs = wipe σ vs := by
  refine List.ext_getElem? fun i => ?_
  by_cases hi : i ∈ vs
  · rw [wipe_get_in hi, wipe_get_in hi]
    by_cases hb : i < σ.length
    · rw [List.getElem?_eq_getElem hb, List.getElem?_eq_getElem (by rw [hl]; exact hb)]
      rfl
    · rw [List.getElem?_eq_none (by omega), List.getElem?_eq_none (by omega)]
  · rw [wipe_get_out hi, h i fun z => hi (hj i z)]
theorem R.wiped {K : Frg} {H0 H : Hp} {ρ : DEnv} {σ : L2.St} (r : R K H0 ρ σ H) (vs : List Nat) : R K H0 (wipeD ρ vs) (wipe σ vs) H :=
  r.sub (by rw [wipeD_length, wipe_length]; exact r.len) fun i s e => by
    obtain ⟨h1, h2⟩ := wipeD_some e
    exact ⟨h1, wipe_get_out h2⟩
/-- no own list among them -/
def noOw (ρ : DEnv) (vs : List Nat) : Prop := ∀ i ∈ vs, ∀ d, ρ[i]? ≠ some (some (Slot.ow d))
/-- back in the def's frame -/
theorem R.home {K : Frg} {H0 H H' : Hp} {ρ ρ' : DEnv} {σ σ' : L2.St} {vs : List Nat} (r : R K H0 ρ σ H) (no : noOw ρ vs) (im : Imm H H') (r' : R K H0 ρ' σ' H') (h : ∀ i, i ∉ vs → σ'[i]? = σ[i]? ∧ ρ'[i]? = ρ[i]?) : R K H0 ρ σ H' where
  len := r.len
  sh := fun i d e => let ⟨v, h1, h2⟩ := r.sh i d e; ⟨v, h1, h2.keep im⟩
  ow := fun i d e => by
    have hi : i ∉ vs := fun z => no i z d e
    obtain ⟨a, h1, h2, h3⟩ := r'.ow i d ((h i hi).2.trans e)
    exact ⟨a, (h i hi).1.symm.trans h1, h2, h3⟩
  dis := r.dis
  same := r'.same
theorem own_wiped {ρ : DEnv} {σ : L2.St} {vs : List Nat} {b : Addr} (h : Own (wipeD ρ vs) (wipe σ vs) b) : Own ρ σ b := by
  obtain ⟨j, d, h1, h2⟩ := h
  obtain ⟨h3, h4⟩ := wipeD_some h1
  exact ⟨j, d, h3, (wipe_get_out h4).symm.trans h2⟩
/-- a step of a block is a step of the def's frame -/
theorem Ev.inner {ρ ρ' : DEnv} {σ σ' : L2.St} {H H' : Hp} (x : Ev ρ' σ' H ρ' σ' H') (h : ∀ b, Own ρ' σ' b → Own ρ σ b) : Ev ρ σ H ρ σ H' := ⟨fun _ z => .inl z, fun b o q n => x.stay b o q fun z => n (h b z), x.dom⟩
/-- the turns of a comprehension; acc: what has been made so far -/
def compL (ρ : DEnv) (g : WG) (t : WT) (e : WE) : List D → List D → (List D → Prop) → Prop
  | [], acc, Q => Q acc
  | d :: ds, acc, Q => g d ρ fun ρ2 => t ρ2 fun b ρ3 => ρ3 = ρ2 ∧ if b = true then e ρ3 fun y ρ4 => ρ4 = ρ2 ∧ acc.length < sizeLine ∧ compL ρ g t e ds (acc ++ [y]) Q else compL ρ g t e ds acc Q
def wComp (wi : WI) (vs : List Nat) (g : WG) (t : WT) (e : WE) : WE := fun ρ Q => wi ρ fun ds ρ1 => noOw ρ1 vs ∧ compL (wipeD ρ1 vs) g t e ds [] fun acc => Q (.lst acc) ρ1
theorem tLc_of {K : Frg} {wi : WI} {g : WG} {t : WT} {e : WE} {vs js : List Nat} (hj : ∀ i ∈ js, i ∈ vs) : ∀ σ H Q, tDF K (wComp wi vs g t e) σ H Q → tLc (tDI K wi) (tDG K js g) (tDT K t) (tD K e) vs σ H Q := fun σ H Q ⟨H0, ρ, Qd, r, q, k⟩ =>
  ⟨H0, ρ, _, r, q, fun J ds H1 ρ1 ⟨no, q1⟩ r1 i1 f D hD => by
    have sD : Same H1 (upd H1 D (.lst [])) := same_upd hD
    have al := alone_new r1 i1 hD
    have hD0 := r1.none0 hD
    refine ⟨fun i m H' => m = ds.length - i ∧ i ≤ ds.length ∧ ∃ acc vacc, R K H0 ρ1 σ H' ∧ Ev ρ1 σ H1 ρ1 σ H' ∧ H' D = some (.lst vacc) ∧ Reps K H' vacc acc ∧ compL (wipeD ρ1 vs) g t e (ds.drop i) acc fun acc => Qd (.lst acc) ρ1,
      ⟨_, rfl, Nat.zero_le _, [], [], r1.grow sD, .of sD, upd_same, .nil, q1⟩, ?_⟩
    rintro i m H' ⟨rfl, hi, acc, vacc, r', i', hacc, racc, c⟩
    obtain ⟨f1, f2⟩ := f H' (i'.imm r1)
    by_cases hlt : i < ds.length
    · refine .inr ⟨(f1 i hlt).1, fun H'' => i + 1 ≤ ds.length ∧ ∃ acc vacc, R K H0 ρ1 σ H'' ∧ Ev ρ1 σ H1 ρ1 σ H'' ∧ H'' D = some (.lst vacc) ∧ Reps K H'' vacc acc ∧ compL (wipeD ρ1 vs) g t e (ds.drop (i + 1)) acc fun acc => Qd (.lst acc) ρ1,
        fun H'' h => ⟨_, by omega, rfl, h.1, h.2⟩, fun x H2 y => ?_⟩
      obtain ⟨s2, d, hd, rx⟩ := (f1 i hlt).2 x H2 y
      have ed : ds.drop i = d :: ds.drop (i + 1) := by
        rw [List.drop_eq_getElem_cons hlt]
        rw [List.getElem?_eq_getElem hlt] at hd
        cases hd
        rfl
      rw [ed] at c
      have r2 := r'.grow s2
      refine ⟨H0, wipeD ρ1 vs, d, _, r2.wiped vs, rx, c, fun σ3 ρ3 c3 r3 l3 n3 o3 => ?_⟩
      have n3' : ∀ j, j ∉ vs → σ3[j]? = σ[j]? ∧ ρ3[j]? = ρ1[j]? := fun j hjv => by
        have q := n3 j fun z => hjv (hj j z)
        exact ⟨q.1.trans (wipe_get_out hjv), q.2.trans (wipeD_out hjv)⟩
      have o3' : ∀ b, Own ρ3 σ3 b → Own ρ1 σ b := fun b h => own_wiped (o3 b h)
      refine ⟨wipe_same hj (by rw [l3, wipe_length]) fun j hjj => (n3 j hjj).1, H0, ρ3, _, r3, c3, fun b H4 ρ4 ⟨e4, c4⟩ r4 i4 => ?_⟩
      subst e4
      -- behind some evaluation in the block
      have after : ∀ {H5 : Hp}, R K H0 ρ4 σ3 H5 → Ev ρ4 σ3 H2 ρ4 σ3 H5 → R K H0 ρ1 σ H5 ∧ Ev ρ1 σ H1 ρ1 σ H5 ∧ H5 D = some (.lst vacc) ∧ Reps K H5 vacc acc := fun {H5} r5 i5 => by
        have j5 : Ev ρ1 σ H2 ρ1 σ H5 := i5.inner o3'
        have m5 := j5.imm r2
        exact ⟨r2.home no m5 r5 n3', (i'.trans (.of s2)).trans j5, j5.stay D _ (s2 D _ hacc) al.2, (racc.keep (.of s2)).keep m5⟩
      cases b with
      | false =>
        rw [if_neg (by decide)] at c4 ⊢
        obtain ⟨a1, a2, a3, a4⟩ := after r4 i4
        exact ⟨hlt, acc, vacc, a1, a2, a3, a4, c4⟩
      | true =>
        rw [if_pos rfl] at c4 ⊢
        refine ⟨H0, ρ4, _, r4, c4, fun y dy H5 ρ5 ⟨e5, z5, c5⟩ r5 p5 i5 => ?_⟩
        subst e5
        obtain ⟨a1, a2, a3, a4⟩ := after r5 (i4.trans i5)
        have im6 : Imm H5 (upd H5 D (.lst (vacc ++ [y]))) := imm_upd a3 rfl
        exact ⟨vacc, a3, by rw [a4.length]; exact z5, hlt, acc ++ [dy], vacc ++ [y], a1.updAlone a3 rfl hD0 al.2, a2.upd_new hD, upd_same, (a4.append (.cons p5 .nil)).keep im6, c5⟩
    · have e : i = ds.length := by omega
      subst e
      rw [List.drop_length] at c
      exact .inl ⟨f2, k D _ _ ρ1 c r' ⟨_, hacc, racc⟩ al (i1.trans i')⟩⟩

def wYes : WT := fun ρ Q => Q true ρ
abbrev DTs (X : Cx) (ifs : List Expr) (t : WT) : Prop := PTs X ifs (tDT X.K t)
theorem dts_nil : DTs X [] wYes := ⟨fun pins s σ H Q I ⟨H0, ρ, Qd, r, q, k⟩ => pts_nil.run pins s σ H Q I (k _ _ _ q r (.refl H))⟩
theorem dts_one {c : Expr} {t : WT} (h : DT X c t) : DTs X [c] t := pts_one h
/-- what holds in the block of a comprehension, whichever state it begins in -/
def InBlk (X : Cx) (scope : Scope) (P : Cx → Prop) : Prop := ∀ (s : Shared) (H : Hp) (C : Addr) (cl : List (Str × Addr)) (fp : List Addr), P (X.blk s H scope (compEnvC scope cl C X.env) fp)
theorem df_lc {elt iter : Expr} {ifs : List Expr} {scope : Scope} {own : List (Str × Nat)} {pos : Pos} {wi : WI} {js : List Nat} {g : WG} {t : WT} {e : WE} (hc : X.calm = true) (hN : X.N.Nodup) (hi : DI X tg iter wi) (ok : BlkOk X.N X.env.scope scope own)
    (hg : InBlk X scope fun Y => DG Y tg js g) (ht : InBlk X scope fun Y => DTs Y ifs t) (he : InBlk X scope fun Y => DE Y elt e) (hj : ∀ i ∈ js, i ∈ own.map (·.2)) (hs : ∀ x, foldedSetIterable iter X.env x = pure x) :
    DF X (.ListComp elt [⟨tg, iter, ifs, 0⟩] scope pos) (wComp wi (own.map (·.2)) g t e) := pe_imp (pe_lc (g := tDG X.K js g) (tt := tDT X.K t) (te := tD X.K e) hc hN hi ok (fun s H C cl fp => hg s H C cl fp) (fun s H C cl fp => ht s H C cl fp) (fun s H C cl fp => he s H C cl fp) hs) (tLc_of hj)

/-- two fors -/
def compL2 (ρ : DEnv) (g : WG) (t : WT) (wi1 : WI) (vs1 : List Nat) (g1 : WG) (t1 : WT) (e : WE) : List D → List D → (List D → Prop) → Prop
  | [], acc, Q => Q acc
  | d :: ds, acc, Q => g d ρ fun ρ2 => t ρ2 fun b ρ3 => ρ3 = ρ2 ∧ if b = true then wi1 ρ3 fun es ρ4 => ρ4 = ρ2 ∧ noOw ρ2 vs1 ∧ compL (wipeD ρ2 vs1) g1 t1 e es acc fun acc' => compL2 ρ g t wi1 vs1 g1 t1 e ds acc' Q
      else compL2 ρ g t wi1 vs1 g1 t1 e ds acc Q
def wComp2 (wi : WI) (vs : List Nat) (g : WG) (t : WT) (wi1 : WI) (vs1 : List Nat) (g1 : WG) (t1 : WT) (e : WE) : WE := fun ρ Q => wi ρ fun ds ρ1 => noOw ρ1 vs ∧ compL2 (wipeD ρ1 vs) g t wi1 vs1 g1 t1 e ds [] fun acc => Q (.lst acc) ρ1
theorem tLc2_of {K : Frg} {wi wi1 : WI} {g g1 : WG} {t t1 : WT} {e : WE} {vs vs1 js js1 : List Nat} (hj : ∀ i ∈ js, i ∈ vs) (hj1 : ∀ i ∈ js1, i ∈ vs1) (hv : ∀ i ∈ vs1, i ∈ vs) : ∀ σ H Q, tDF K (wComp2 wi vs g t wi1 vs1 g1 t1 e) σ H Q →
    tLc2 (tDI K wi) (tDG K js g) (tDT K t) (tDI K wi1) (tDG K js1 g1) (tDT K t1) (tD K e) vs vs1 σ H Q := fun σ H Q ⟨H0, ρ, Qd, r, q, k⟩ =>
  ⟨H0, ρ, _, r, q, fun J ds H1 ρ1 ⟨no, q1⟩ r1 i1 f D hD => by
    have sD : Same H1 (upd H1 D (.lst [])) := same_upd hD
    have al := alone_new r1 i1 hD
    have hD0 := r1.none0 hD
    refine ⟨fun i m H' => m = ds.length - i ∧ i ≤ ds.length ∧ ∃ acc vacc, R K H0 ρ1 σ H' ∧ Ev ρ1 σ H1 ρ1 σ H' ∧ H' D = some (.lst vacc) ∧ Reps K H' vacc acc ∧ compL2 (wipeD ρ1 vs) g t wi1 vs1 g1 t1 e (ds.drop i) acc fun acc => Qd (.lst acc) ρ1,
      ⟨_, rfl, Nat.zero_le _, [], [], r1.grow sD, .of sD, upd_same, .nil, q1⟩, ?_⟩
    rintro i m H' ⟨rfl, hi, acc, vacc, r', i', hacc, racc, c⟩
    obtain ⟨f1, f2⟩ := f H' (i'.imm r1)
    by_cases hlt : i < ds.length
    · refine .inr ⟨(f1 i hlt).1, fun H'' => i + 1 ≤ ds.length ∧ ∃ acc vacc, R K H0 ρ1 σ H'' ∧ Ev ρ1 σ H1 ρ1 σ H'' ∧ H'' D = some (.lst vacc) ∧ Reps K H'' vacc acc ∧ compL2 (wipeD ρ1 vs) g t wi1 vs1 g1 t1 e (ds.drop (i + 1)) acc fun acc => Qd (.lst acc) ρ1,
        fun H'' h => ⟨_, by omega, rfl, h.1, h.2⟩, fun x H2 y => ?_⟩
      obtain ⟨s2, d, hd, rx⟩ := (f1 i hlt).2 x H2 y
      have ed : ds.drop i = d :: ds.drop (i + 1) := by
        rw [List.drop_eq_getElem_cons hlt]
        rw [List.getElem?_eq_getElem hlt] at hd
        cases hd
        rfl
      rw [ed] at c
      have r2 := r'.grow s2
      refine ⟨H0, wipeD ρ1 vs, d, _, r2.wiped vs, rx, c, fun σ3 ρ3 c3 r3 l3 n3 o3 => ?_⟩
      have n3' : ∀ j, j ∉ vs → σ3[j]? = σ[j]? ∧ ρ3[j]? = ρ1[j]? := fun j hjv => by
        have q := n3 j fun z => hjv (hj j z)
        exact ⟨q.1.trans (wipe_get_out hjv), q.2.trans (wipeD_out hjv)⟩
      have o3' : ∀ b, Own ρ3 σ3 b → Own ρ1 σ b := fun b h => own_wiped (o3 b h)
      refine ⟨wipe_same hj (by rw [l3, wipe_length]) fun j hjj => (n3 j hjj).1, H0, ρ3, _, r3, c3, fun b H4 ρ4 ⟨e4, c4⟩ r4 i4 => ?_⟩
      subst e4
      -- behind some evaluation in the block
      have after : ∀ {H5 : Hp}, R K H0 ρ4 σ3 H5 → Ev ρ4 σ3 H2 ρ4 σ3 H5 → R K H0 ρ1 σ H5 ∧ Ev ρ1 σ H1 ρ1 σ H5 ∧ H5 D = some (.lst vacc) ∧ Reps K H5 vacc acc := fun {H5} r5 i5 => by
        have j5 : Ev ρ1 σ H2 ρ1 σ H5 := i5.inner o3'
        have m5 := j5.imm r2
        exact ⟨r2.home no m5 r5 n3', (i'.trans (.of s2)).trans j5, j5.stay D _ (s2 D _ hacc) al.2, (racc.keep (.of s2)).keep m5⟩
      cases b with
      | false =>
        rw [if_neg (by decide)] at c4 ⊢
        obtain ⟨a1, a2, a3, a4⟩ := after r4 i4
        exact ⟨hlt, acc, vacc, a1, a2, a3, a4, c4⟩
      | true =>
        rw [if_pos rfl] at c4 ⊢
        refine ⟨H0, ρ4, _, r4, c4, fun J1 es H5 ρ5 ⟨e5, no1, c5⟩ r5 i5 g5 => ?_⟩
        subst e5
        obtain ⟨a1, a2, a3, a4⟩ := after r5 (i4.trans i5)
        have noD : ¬ Own ρ5 σ3 D := fun z => al.2 (o3' D z)
        refine ⟨fun j m H' => m = es.length - j ∧ j ≤ es.length ∧ ∃ acc vacc, R K H0 ρ1 σ H' ∧ R K H0 ρ5 σ3 H' ∧ Ev ρ1 σ H1 ρ1 σ H' ∧ Imm H5 H' ∧ H' D = some (.lst vacc) ∧ Reps K H' vacc acc ∧
            compL (wipeD ρ5 vs1) g1 t1 e (es.drop j) acc fun acc' => compL2 (wipeD ρ1 vs) g t wi1 vs1 g1 t1 e (ds.drop (i + 1)) acc' fun acc => Qd (.lst acc) ρ1,
          ⟨_, rfl, Nat.zero_le _, acc, vacc, a1, r5, a2, .refl _, a3, a4, c5⟩, ?_⟩
        rintro j m H6 ⟨rfl, hjl, acc, vacc, b1, b2, b3, b4, b5, b6, c6⟩
        obtain ⟨g6, g7⟩ := g5 H6 b4
        by_cases hlt1 : j < es.length
        · refine .inr ⟨(g6 j hlt1).1, fun H'' => j + 1 ≤ es.length ∧ ∃ acc vacc, R K H0 ρ1 σ H'' ∧ R K H0 ρ5 σ3 H'' ∧ Ev ρ1 σ H1 ρ1 σ H'' ∧ Imm H5 H'' ∧ H'' D = some (.lst vacc) ∧ Reps K H'' vacc acc ∧
              compL (wipeD ρ5 vs1) g1 t1 e (es.drop (j + 1)) acc fun acc' => compL2 (wipeD ρ1 vs) g t wi1 vs1 g1 t1 e (ds.drop (i + 1)) acc' fun acc => Qd (.lst acc) ρ1,
            fun H'' h => ⟨_, by omega, rfl, h.1, h.2⟩, fun x H7 y => ?_⟩
          obtain ⟨s7, d1, hd1, rx1⟩ := (g6 j hlt1).2 x H7 y
          have ed1 : es.drop j = d1 :: es.drop (j + 1) := by
            rw [List.drop_eq_getElem_cons hlt1]
            rw [List.getElem?_eq_getElem hlt1] at hd1
            cases hd1
            rfl
          rw [ed1] at c6
          have r7 := b2.grow s7
          have q7 := b1.grow s7
          refine ⟨H0, wipeD ρ5 vs1, d1, _, r7.wiped vs1, rx1, c6, fun σ8 ρ8 c8 r8 l8 n8 o8 => ?_⟩
          have n8' : ∀ j, j ∉ vs1 → σ8[j]? = σ3[j]? ∧ ρ8[j]? = ρ5[j]? := fun j hjv => by
            have q := n8 j fun z => hjv (hj1 j z)
            exact ⟨q.1.trans (wipe_get_out hjv), q.2.trans (wipeD_out hjv)⟩
          have o8' : ∀ b, Own ρ8 σ8 b → Own ρ5 σ3 b := fun b h => own_wiped (o8 b h)
          refine ⟨wipe_same hj1 (by rw [l8, wipe_length]) fun j hjj => (n8 j hjj).1, H0, ρ8, _, r8, c8, fun b H9 ρ9 ⟨e9, c9⟩ r9 i9 => ?_⟩
          subst e9
          have after1 : ∀ {Hn : Hp}, R K H0 ρ9 σ8 Hn → Ev ρ9 σ8 H7 ρ9 σ8 Hn → R K H0 ρ1 σ Hn ∧ R K H0 ρ5 σ3 Hn ∧ Ev ρ1 σ H1 ρ1 σ Hn ∧ Imm H5 Hn ∧ Hn D = some (.lst vacc) ∧ Reps K Hn vacc acc := fun {Hn} rn en => by
            have jn : Ev ρ5 σ3 H7 ρ5 σ3 Hn := en.inner o8'
            have jn1 : Ev ρ1 σ H7 ρ1 σ Hn := jn.inner o3'
            have mn := jn.imm r7
            have rn5 := r7.home no1 mn rn n8'
            exact ⟨q7.home no mn rn5 n3', rn5, (b3.trans (.of s7)).trans jn1, (b4.trans (.of s7)).trans mn, jn1.stay D _ (s7 D _ b5) al.2, (b6.keep (.of s7)).keep mn⟩
          cases b with
          | false =>
            rw [if_neg (by decide)] at c9 ⊢
            obtain ⟨z1, z2, z3, z4, z5, z6⟩ := after1 r9 i9
            exact ⟨hlt1, acc, vacc, z1, z2, z3, z4, z5, z6, c9⟩
          | true =>
            rw [if_pos rfl] at c9 ⊢
            refine ⟨H0, ρ9, _, r9, c9, fun y dy Hn ρn ⟨en, zn, cn⟩ rn pn jn => ?_⟩
            subst en
            obtain ⟨z1, z2, z3, z4, z5, z6⟩ := after1 rn (i9.trans jn)
            have im6 : Imm Hn (upd Hn D (.lst (vacc ++ [y]))) := imm_upd z5 rfl
            exact ⟨vacc, z5, by rw [z6.length]; exact zn, hlt1, acc ++ [dy], vacc ++ [y], z1.updAlone z5 rfl hD0 al.2, z2.updAlone z5 rfl hD0 noD, z3.upd_new hD, z4.trans im6, upd_same, (z6.append (.cons pn .nil)).keep im6, cn⟩
        · have e : j = es.length := by omega
          subst e
          rw [List.drop_length] at c6
          exact .inl ⟨g7, hlt, acc, vacc, b1, b3, b5, b6, c6⟩
    · have e : i = ds.length := by omega
      subst e
      rw [List.drop_length] at c
      exact .inl ⟨f2, k D _ _ ρ1 c r' ⟨_, hacc, racc⟩ al (i1.trans i')⟩⟩
theorem df_lc2 {elt iter tg1 iter1 : Expr} {ifs ifs1 : List Expr} {scope : Scope} {own : List (Str × Nat)} {vs1 : List Nat} {pos : Pos} {wi wi1 : WI} {js js1 : List Nat} {g g1 : WG} {t t1 : WT} {e : WE} (hc : X.calm = true) (hN : X.N.Nodup) (hi : DI X tg iter wi) (ok : BlkOk X.N X.env.scope scope own)
    (hv : ∀ i ∈ vs1, i ∈ own.map (·.2)) (hg : InBlk X scope fun Y => DG Y tg js g) (ht : InBlk X scope fun Y => DTs Y ifs t) (hi1 : InBlk X scope fun Y => DI Y tg1 iter1 wi1) (hg1 : InBlk X scope fun Y => DG Y tg1 js1 g1) (ht1 : InBlk X scope fun Y => DTs Y ifs1 t1)
    (he : InBlk X scope fun Y => DE Y elt e) (hj : ∀ i ∈ js, i ∈ own.map (·.2)) (hj1 : ∀ i ∈ js1, i ∈ vs1) (hs : ∀ x, foldedSetIterable iter X.env x = pure x) (hs1 : ∀ env x, foldedSetIterable iter1 env x = pure x) :
    DF X (.ListComp elt [⟨tg, iter, ifs, 0⟩, ⟨tg1, iter1, ifs1, 0⟩] scope pos) (wComp2 wi (own.map (·.2)) g t wi1 vs1 g1 t1 e) := pe_imp (pe_lc2 (g := tDG X.K js g) (tt := tDT X.K t) (wi1 := tDI X.K wi1) (g1 := tDG X.K js1 g1) (tt1 := tDT X.K t1) (te := tD X.K e) hc hN hi ok hv (fun s H C cl fp => hg s H C cl fp) (fun s H C cl fp => ht s H C cl fp) (fun s H C cl fp => hi1 s H C cl fp) (fun s H C cl fp => hg1 s H C cl fp) (fun s H C cl fp => ht1 s H C cl fp) (fun s H C cl fp => he s H C cl fp) hs hs1) (tLc2_of hj hj1 hv)
end
end DL
namespace DL
open PySem PySem.Spec L2

structure EndsD where
  nx : DEnv → Prop
  rt : D → Prop
  bk : DEnv → Prop := fun _ => False
  ct : DEnv → Prop := fun _ => False
abbrev WS := DEnv → EndsD → Prop
/-- what the data's ends say of the heap's ends -/
structure To (K : Frg) (H0 : Hp) (ρ : DEnv) (σ : L2.St) (H : Hp) (Dd : EndsD) (E : Ends) : Prop where
  nx : ∀ ρ' σ' H', Dd.nx ρ' → R K H0 ρ' σ' H' → Ev ρ σ H ρ' σ' H' → E.nx σ' H'
  rt : ∀ d v H', Dd.rt d → Same H0 H' → Rep K H' v d → E.rt v H'
  bk : ∀ ρ' σ' H', Dd.bk ρ' → R K H0 ρ' σ' H' → Ev ρ σ H ρ' σ' H' → E.bk σ' H'
  ct : ∀ ρ' σ' H', Dd.ct ρ' → R K H0 ρ' σ' H' → Ev ρ σ H ρ' σ' H' → E.ct σ' H'
def tDS (K : Frg) (w : WS) : TS := fun E σ H => ∃ H0 ρ Dd, R K H0 ρ σ H ∧ w ρ Dd ∧ To K H0 ρ σ H Dd E
abbrev DS (X : Cx) (st : Stmt) (w : WS) : Prop := PS X st (tDS X.K w)
abbrev DB (X : Cx) (st : List Stmt) (w : WS) : Prop := PSs X st (tDS X.K w)
section
variable {X : Cx} {K : Frg} {H0 H H' : Hp} {ρ ρ' : DEnv} {σ σ' : L2.St} {Dd : EndsD} {E : Ends}
theorem To.on (t : To K H0 ρ σ H Dd E) (x : Ev ρ σ H ρ' σ' H') : To K H0 ρ' σ' H' Dd E :=
  ⟨fun _ _ _ q r y => t.nx _ _ _ q r (x.trans y), t.rt, fun _ _ _ q r y => t.bk _ _ _ q r (x.trans y), fun _ _ _ q r y => t.ct _ _ _ q r (x.trans y)⟩
theorem To.thru {nx : DEnv → Prop} {Nx : L2.St → Hp → Prop} (t : To K H0 ρ σ H Dd E) (h : ∀ ρ' σ' H', nx ρ' → R K H0 ρ' σ' H' → Ev ρ σ H ρ' σ' H' → Nx σ' H') : To K H0 ρ σ H { Dd with nx := nx } { E with nx := Nx } :=
  ⟨h, t.rt, t.bk, t.ct⟩
def wNext : WS := fun ρ E => E.nx ρ
def wSq (a b : WS) : WS := fun ρ E => a ρ { E with nx := fun ρ' => b ρ' E }
theorem db_nil : DB X [] wNext := pss_imp pss_nil fun E σ H ⟨H0, ρ, Dd, r, q, t⟩ => t.nx _ _ _ q r (.refl H)
variable {st : Stmt} {rest : List Stmt} {a b : WS}
theorem db_cons (ha : DS X st a) (hb : DB X rest b) : DB X (st :: rest) (wSq a b) := pss_imp (pss_cons ha hb) fun E σ H ⟨H0, ρ, Dd, r, q, t⟩ =>
  ⟨H0, ρ, _, r, q, t.thru fun _ _ _ q' r' x => ⟨H0, _, Dd, r', q', t.on x⟩⟩
theorem db_one (ha : DS X st a) : DB X [st] a := pss_one ha
theorem ds_pass {pos : Pos} : DS X (.Pass pos) wNext := ps_imp ps_pass fun E σ H ⟨H0, ρ, Dd, r, q, t⟩ => t.nx _ _ _ q r (.refl H)
def wBreak : WS := fun ρ E => E.bk ρ
def wCont : WS := fun ρ E => E.ct ρ
theorem ds_break {pos : Pos} : DS X (.Break pos) wBreak := ps_imp ps_break fun E σ H ⟨H0, ρ, Dd, r, q, t⟩ => t.bk _ _ _ q r (.refl H)
theorem ds_cont {pos : Pos} : DS X (.Continue pos) wCont := ps_imp ps_continue fun E σ H ⟨H0, ρ, Dd, r, q, t⟩ => t.ct _ _ _ q r (.refl H)
def wNever : WS := fun _ _ => False
theorem ds_never : DS X st wNever := ps_imp ps_never fun E σ H ⟨_, _, _, _, q, _⟩ => q
theorem db_never {sts : List Stmt} : DB X sts wNever := pss_imp pss_never fun E σ H ⟨_, _, _, _, q, _⟩ => q
theorem ds_doc {x : Str} {j : Nat} {pos pos' : Pos} : DS X (.Expr (.Constant (.str x) j pos) pos') wNext := ps_imp ps_doc fun E σ H ⟨H0, ρ, Dd, r, q, t⟩ => t.nx _ _ _ q r (.refl H)
variable {e : Expr} {we : WE} {pos : Pos}
def wExpr (we : WE) : WS := fun ρ E => we ρ fun _ ρ1 => E.nx ρ1
theorem ds_expr (he : DE X e we) (hs : swapsWith e none pos.line X.env = pure false) : DS X (.Expr e pos) (wExpr we) := ps_imp (ps_expr he hs) fun E σ H ⟨H0, ρ, Dd, r, q, t⟩ =>
  ⟨H0, ρ, _, r, q, fun v d H' ρ' q' r' _ x => t.nx _ _ _ q' r' x⟩
def wRet (we : WE) : WS := fun ρ E => we ρ fun d _ => E.rt d
theorem ds_ret (he : DE X e we) : DS X (.Return (some e) pos) (wRet we) := ps_imp (ps_ret he) fun E σ H ⟨H0, ρ, Dd, r, q, t⟩ =>
  ⟨H0, ρ, _, r, q, fun v d H' ρ' q' r' p x => t.rt d v H' q' r'.same p⟩
def wRetN : WS := fun _ E => E.rt .non
theorem ds_retN : DS X (.Return none pos) wRetN := ps_imp ps_retN fun E σ H ⟨H0, ρ, Dd, r, q, t⟩ => t.rt .non .non H q r.same .non
def wIfS (c : WT) (a b : WS) : WS := fun ρ E => c ρ fun k ρ1 => if k = true then a ρ1 E else b ρ1 E
theorem ds_if {c : Expr} {xs ys : List Stmt} {wc : WT} (hc : DT X c wc) (ha : DB X xs a) (hb : DB X ys b) : DS X (.If c xs ys pos) (wIfS wc a b) := ps_imp (ps_if hc ha hb) fun E σ H ⟨H0, ρ, Dd, r, q, t⟩ =>
  ⟨H0, ρ, _, r, q, fun k H' ρ' q' r' x => by
    cases k with
    | true => rw [if_pos rfl] at q' ⊢; exact ⟨H0, ρ', Dd, r', q', t.on x⟩
    | false => rw [if_neg (by decide)] at q' ⊢; exact ⟨H0, ρ', Dd, r', q', t.on x⟩⟩
variable {tg : Expr} {js : List Nat} {g : WG}
def wAsg (we : WE) (g : WG) : WS := fun ρ E => we ρ fun d ρ1 => g d ρ1 E.nx
theorem ev_at (h : ∀ b, Own ρ' σ' b → Own ρ σ b) : Ev ρ σ H ρ' σ' H := ⟨fun b o => .inl (h b o), fun _ _ q _ => q, fun _ o q => ⟨o, q⟩⟩
theorem asg_of {K : Frg} : ∀ E σ H, tDS K (wAsg we g) E σ H → tAsg (tD K we) (tDG K js g) E σ H := fun E σ H ⟨H0, ρ, Dd, r, q, t⟩ =>
  ⟨H0, ρ, _, r, q, fun v d H' ρ' q' r' p x => ⟨H0, ρ', d, _, r', p, q', fun σ2 ρ2 q2 r2 _ _ o => t.nx _ _ _ q2 r2 (x.trans (ev_at o))⟩⟩
theorem ds_asg (he : DE X e we) (hg : DG X tg js g) (hs : swapsWithSole [tg] e pos.line X.env = pure false) (hw : swappedStores [tg] e X.env = pure none)
    (h1 : (assignEach [tg] X.env).map (·.2) = [assign tg X.env]) : DS X (.Assign [tg] e pos) (wAsg we g) := ps_imp (ps_asg he hg hs hw h1) asg_of
theorem own_setO {i : Nat} {d : D} {a b : Addr} (h : Own (ρ.set i (some (Slot.ow d))) (σ.set i (some (V.ref a))) b) : b = a ∨ Own ρ σ b := by
  obtain ⟨j, e, h1, h2⟩ := h
  by_cases hj : i = j
  · subst hj
    by_cases hl : i < σ.length
    · rw [List.getElem?_set_self hl] at h2
      cases h2
      exact .inl rfl
    · rw [List.getElem?_eq_none (by rw [List.length_set]; omega)] at h2
      cases h2
  · rw [List.getElem?_set_ne hj] at h1 h2
    exact .inr ⟨j, e, h1, h2⟩
theorem own_setS {i : Nat} {d : D} {v : V} {b : Addr} (h : Own (ρ.set i (some (Slot.sh d))) (σ.set i (some v)) b) : Own ρ σ b := by
  obtain ⟨j, e, h1, h2⟩ := h
  by_cases hj : i = j
  · subst hj
    by_cases hl : i < ρ.length
    · rw [List.getElem?_set_self hl] at h1
      cases h1
    · rw [List.getElem?_eq_none (by rw [List.length_set]; omega)] at h1
      cases h1
  · rw [List.getElem?_set_ne hj] at h1 h2
    exact ⟨j, e, h1, h2⟩
theorem ev_setS {i : Nat} {d : D} {v : V} : Ev ρ σ H (ρ.set i (some (Slot.sh d))) (σ.set i (some v)) H := ev_at fun _ h => own_setS h
/-- name = a list of its own -/
def wSetO (i : Nat) (we : WE) : WS := fun ρ E => we ρ fun d ρ1 => E.nx (ρ1.set i (some (.ow d)))
theorem R.setAlone {i : Nat} {a : Addr} {d : D} {H1 : Hp} (r : R K H0 ρ σ H) (h0 : H0 a = none) (h : OwnAt K H a d) (no : ¬ Own ρ σ a) : R K H0 (ρ.set i (some (.ow d))) (σ.set i (some (.ref a))) H :=
  r.setOw h h0 fun j e q z => no ⟨j, e, q, z⟩
theorem setO_of {K : Frg} {i : Nat} : ∀ E σ H, tDS K (wSetO i we) E σ H → tAsg (tDF K we) (gName i) E σ H := fun E σ H ⟨H0, ρ, Dd, r, q, t⟩ =>
  ⟨H0, ρ, _, r, q, fun a d H' ρ' q' r' p al x => t.nx _ _ _ q' (r'.setAlone (H1 := H) (r.none0 al.1) p al.2) ⟨fun b o => (own_setO o).elim (fun e => .inr (e ▸ al.1)) (x.own b), x.stay, x.dom⟩⟩
theorem ds_setO {i : Nat} {x : Str} {pos' : Pos} (hN : X.N.Nodup) (hi : X.N[i]? = some x) (hx : Loc X.env.scope x) (he : DF X e we) (hs : swapsWith e (some (.Name x pos')) pos.line X.env = pure false) (hf : X.fn x = true ∨ X.env.scope.names.lookup x = some .local) :
    DS X (.Assign [.Name x pos'] e pos) (wSetO i we) := ps_imp (ps_set hN hi hx he hs hf) setO_of
/-- name = a new list, known to all from then on -/
def wSetF (i : Nat) (we : WE) : WS := fun ρ E => we ρ fun d ρ1 => E.nx (ρ1.set i (some (.sh d)))
theorem ps_lockNx {t : TS} (h : PS X st t) : PS X st (fun E σ H => t { E with nx := fun σ1 H1 => ∃ (a : Addr) (o : HO), H1 a = some o ∧ Mut (some o) ∧ ∀ ob, E.nx σ1 (upd H1 a (.frz ob o)) } σ H) := ⟨fun pins s σ H E I hw => by
  refine thn (h.run pins s σ H _ I hw) fun fl s' q => ?_
  cases fl with
  | next =>
    obtain ⟨σ1, H1, I1, a, o, ea, mu, k⟩ := q
    obtain ⟨ob, I2⟩ := I1.lock ea mu
    exact ⟨σ1, _, I2, k ob⟩
  | brk => exact q
  | cont => exact q
  | ret u => exact q⟩
end
end DL
namespace DL
open PySem PySem.Spec L2
section
variable {X : Cx} {K : Frg} {H0 H H' : Hp} {ρ ρ' : DEnv} {σ σ' : L2.St} {Dd : EndsD} {E : Ends} {st : Stmt} {pos : Pos} {tg : Expr} {js : List Nat} {g : WG}
theorem setF_of {K : Frg} {i : Nat} {we : WE} : ∀ E σ H, tDS K (wSetF i we) E σ H → tAsg (tDF K we) (gName i) { E with nx := fun σ1 H1 => ∃ (a : Addr) (o : HO), H1 a = some o ∧ Mut (some o) ∧ ∀ ob, E.nx σ1 (upd H1 a (.frz ob o)) } σ H :=
  fun E σ H ⟨H0, ρ, Dd, r, q, t⟩ => ⟨H0, ρ, _, r, q, fun a d H' ρ' q' r' p al x => by
    obtain ⟨o, e1, e2, e3⟩ := r'.lockNew p (r.none0 al.1) al.2
    refine ⟨a, o, e1, e2, fun ob => ?_⟩
    obtain ⟨r2, p2⟩ := e3 ob
    exact t.nx _ _ _ q' (r2.set p2) ((x.upd_new al.1).trans ev_setS)⟩
theorem ds_setF {i : Nat} {x : Str} {pos' : Pos} {e : Expr} {we : WE} (hN : X.N.Nodup) (hi : X.N[i]? = some x) (hx : Loc X.env.scope x) (he : DF X e we) (hs : swapsWith e (some (.Name x pos')) pos.line X.env = pure false) (hf : X.fn x = true ∨ X.env.scope.names.lookup x = some .local) :
    DS X (.Assign [.Name x pos'] e pos) (wSetF i we) := ps_imp (ps_lockNx (ps_set hN hi hx he hs hf)) setF_of
section
variable {i : Nat} {y : Str} {py : Pos} {elt iter : Expr} {ifs : List Expr} {scope : Scope} {own : List (Str × Nat)} {spos : Pos} {wi : WI} {t : WT} {e : WE}
theorem ps_lcT (hc : X.calm = true) (hN : X.N.Nodup) (hy : X.N[i]? = some y) (hyl : X.env.scope.names.lookup y = some .local)
    (hsw : swapsWith (.ListComp elt [⟨tg, iter, ifs, 0⟩] scope pos) (some (.Name y py)) spos.line X.env = pure true) (hi : DI X tg iter wi) (ok : BlkOk X.N X.env.scope scope own)
    (hg : InBlk X scope fun Y => DG Y tg js g) (ht : InBlk X scope fun Y => DTs Y ifs t) (he : InBlk X scope fun Y => DE Y elt e) (hj : ∀ i ∈ js, i ∈ own.map (·.2)) (hs : ∀ x, foldedSetIterable iter X.env x = pure x) :
    PS X (.Assign [.Name y py] (.ListComp elt [⟨tg, iter, ifs, 0⟩] scope pos) spos) (tAsg (tDF X.K (wComp wi (own.map (·.2)) g t e)) (gName i)) :=
  ps_imp (ps_setLc (g := tDG X.K js g) (tt := tDT X.K t) (te := tD X.K e) hc hN hy hyl hsw hi ok (fun s H C cl fp => hg s H C cl fp) (fun s H C cl fp => ht s H C cl fp) (fun s H C cl fp => he s H C cl fp) hs) fun D σ H q => tLc_of hj σ H _ q
theorem ds_setLcO (hc : X.calm = true) (hN : X.N.Nodup) (hy : X.N[i]? = some y) (hyl : X.env.scope.names.lookup y = some .local)
    (hsw : swapsWith (.ListComp elt [⟨tg, iter, ifs, 0⟩] scope pos) (some (.Name y py)) spos.line X.env = pure true) (hi : DI X tg iter wi) (ok : BlkOk X.N X.env.scope scope own)
    (hg : InBlk X scope fun Y => DG Y tg js g) (ht : InBlk X scope fun Y => DTs Y ifs t) (he : InBlk X scope fun Y => DE Y elt e) (hj : ∀ i ∈ js, i ∈ own.map (·.2)) (hs : ∀ x, foldedSetIterable iter X.env x = pure x) :
    DS X (.Assign [.Name y py] (.ListComp elt [⟨tg, iter, ifs, 0⟩] scope pos) spos) (wSetO i (wComp wi (own.map (·.2)) g t e)) := ps_imp (ps_lcT hc hN hy hyl hsw hi ok hg ht he hj hs) setO_of
theorem ds_setLcF (hc : X.calm = true) (hN : X.N.Nodup) (hy : X.N[i]? = some y) (hyl : X.env.scope.names.lookup y = some .local)
    (hsw : swapsWith (.ListComp elt [⟨tg, iter, ifs, 0⟩] scope pos) (some (.Name y py)) spos.line X.env = pure true) (hi : DI X tg iter wi) (ok : BlkOk X.N X.env.scope scope own)
    (hg : InBlk X scope fun Y => DG Y tg js g) (ht : InBlk X scope fun Y => DTs Y ifs t) (he : InBlk X scope fun Y => DE Y elt e) (hj : ∀ i ∈ js, i ∈ own.map (·.2)) (hs : ∀ x, foldedSetIterable iter X.env x = pure x) :
    DS X (.Assign [.Name y py] (.ListComp elt [⟨tg, iter, ifs, 0⟩] scope pos) spos) (wSetF i (wComp wi (own.map (·.2)) g t e)) := ps_imp (ps_lockNx (ps_lcT hc hN hy hyl hsw hi ok hg ht he hj hs)) setF_of
variable {tg1 iter1 : Expr} {ifs1 : List Expr} {wi1 : WI} {t1 : WT} {g1 : WG} {vs1 js1 : List Nat}
theorem ps_lcT2 (hc : X.calm = true) (hN : X.N.Nodup) (hy : X.N[i]? = some y) (hyl : X.env.scope.names.lookup y = some .local)
    (hsw : swapsWith (.ListComp elt [⟨tg, iter, ifs, 0⟩, ⟨tg1, iter1, ifs1, 0⟩] scope pos) (some (.Name y py)) spos.line X.env = pure true) (hi : DI X tg iter wi) (ok : BlkOk X.N X.env.scope scope own) (hv : ∀ i ∈ vs1, i ∈ own.map (·.2))
    (hg : InBlk X scope fun Y => DG Y tg js g) (ht : InBlk X scope fun Y => DTs Y ifs t) (hi1 : InBlk X scope fun Y => DI Y tg1 iter1 wi1) (hg1 : InBlk X scope fun Y => DG Y tg1 js1 g1) (ht1 : InBlk X scope fun Y => DTs Y ifs1 t1)
    (he : InBlk X scope fun Y => DE Y elt e) (hj : ∀ i ∈ js, i ∈ own.map (·.2)) (hj1 : ∀ i ∈ js1, i ∈ vs1) (hs : ∀ x, foldedSetIterable iter X.env x = pure x) (hs1 : ∀ env x, foldedSetIterable iter1 env x = pure x) :
    PS X (.Assign [.Name y py] (.ListComp elt [⟨tg, iter, ifs, 0⟩, ⟨tg1, iter1, ifs1, 0⟩] scope pos) spos) (tAsg (tDF X.K (wComp2 wi (own.map (·.2)) g t wi1 vs1 g1 t1 e)) (gName i)) :=
  ps_imp (ps_setLc2 (g := tDG X.K js g) (tt := tDT X.K t) (wi1 := tDI X.K wi1) (g1 := tDG X.K js1 g1) (tt1 := tDT X.K t1) (te := tD X.K e) hc hN hy hyl hsw hi ok hv (fun s H C cl fp => hg s H C cl fp) (fun s H C cl fp => ht s H C cl fp)
    (fun s H C cl fp => hi1 s H C cl fp) (fun s H C cl fp => hg1 s H C cl fp) (fun s H C cl fp => ht1 s H C cl fp) (fun s H C cl fp => he s H C cl fp) hs hs1) fun D σ H q => tLc2_of hj hj1 hv σ H _ q
theorem ds_setLcF2 (hc : X.calm = true) (hN : X.N.Nodup) (hy : X.N[i]? = some y) (hyl : X.env.scope.names.lookup y = some .local)
    (hsw : swapsWith (.ListComp elt [⟨tg, iter, ifs, 0⟩, ⟨tg1, iter1, ifs1, 0⟩] scope pos) (some (.Name y py)) spos.line X.env = pure true) (hi : DI X tg iter wi) (ok : BlkOk X.N X.env.scope scope own) (hv : ∀ i ∈ vs1, i ∈ own.map (·.2))
    (hg : InBlk X scope fun Y => DG Y tg js g) (ht : InBlk X scope fun Y => DTs Y ifs t) (hi1 : InBlk X scope fun Y => DI Y tg1 iter1 wi1) (hg1 : InBlk X scope fun Y => DG Y tg1 js1 g1) (ht1 : InBlk X scope fun Y => DTs Y ifs1 t1)
    (he : InBlk X scope fun Y => DE Y elt e) (hj : ∀ i ∈ js, i ∈ own.map (·.2)) (hj1 : ∀ i ∈ js1, i ∈ vs1) (hs : ∀ x, foldedSetIterable iter X.env x = pure x) (hs1 : ∀ env x, foldedSetIterable iter1 env x = pure x) :
    DS X (.Assign [.Name y py] (.ListComp elt [⟨tg, iter, ifs, 0⟩, ⟨tg1, iter1, ifs1, 0⟩] scope pos) spos) (wSetF i (wComp2 wi (own.map (·.2)) g t wi1 vs1 g1 t1 e)) :=
  ps_imp (ps_lockNx (ps_lcT2 hc hN hy hyl hsw hi ok hv hg ht hi1 hg1 ht1 he hj hj1 hs hs1)) setF_of
theorem ds_setLcO2 (hc : X.calm = true) (hN : X.N.Nodup) (hy : X.N[i]? = some y) (hyl : X.env.scope.names.lookup y = some .local)
    (hsw : swapsWith (.ListComp elt [⟨tg, iter, ifs, 0⟩, ⟨tg1, iter1, ifs1, 0⟩] scope pos) (some (.Name y py)) spos.line X.env = pure true) (hi : DI X tg iter wi) (ok : BlkOk X.N X.env.scope scope own) (hv : ∀ i ∈ vs1, i ∈ own.map (·.2))
    (hg : InBlk X scope fun Y => DG Y tg js g) (ht : InBlk X scope fun Y => DTs Y ifs t) (hi1 : InBlk X scope fun Y => DI Y tg1 iter1 wi1) (hg1 : InBlk X scope fun Y => DG Y tg1 js1 g1) (ht1 : InBlk X scope fun Y => DTs Y ifs1 t1)
    (he : InBlk X scope fun Y => DE Y elt e) (hj : ∀ i ∈ js, i ∈ own.map (·.2)) (hj1 : ∀ i ∈ js1, i ∈ vs1) (hs : ∀ x, foldedSetIterable iter X.env x = pure x) (hs1 : ∀ env x, foldedSetIterable iter1 env x = pure x) :
    DS X (.Assign [.Name y py] (.ListComp elt [⟨tg, iter, ifs, 0⟩, ⟨tg1, iter1, ifs1, 0⟩] scope pos) spos) (wSetO i (wComp2 wi (own.map (·.2)) g t wi1 vs1 g1 t1 e)) :=
  ps_imp (ps_lcT2 hc hN hy hyl hsw hi ok hv hg ht hi1 hg1 ht1 he hj hj1 hs hs1) setO_of
end
def whileL (c : WT) (b : WS) : Nat → DEnv → EndsD → Prop
  | 0, _, _ => False
  | n + 1, ρ, E => c ρ fun k ρ1 => if k = true then b ρ1 { nx := fun ρ2 => whileL c b n ρ2 E, rt := E.rt, bk := E.nx, ct := fun ρ2 => whileL c b n ρ2 E } else E.nx ρ1
def wWhile (c : WT) (b : WS) : WS := fun ρ E => ∃ n, whileL c b n ρ E
theorem ds_while {c : Expr} {body : List Stmt} {wc : WT} {wb : WS} (hp : PassesOwn (model X.prog X.w) X.A X.env X.xe) (hc : DT X c wc) (hb : DB X body wb) : DS X (.While c body [] pos) (wWhile wc wb) :=
  ps_imp (ps_while hp hc hb) fun E σ H ⟨H0, ρ, Dd, r, ⟨n, q⟩, t⟩ =>
    ⟨fun m σ' H' => ∃ ρ', R X.K H0 ρ' σ' H' ∧ Ev ρ σ H ρ' σ' H' ∧ whileL wc wb m ρ' Dd, ⟨n, ρ, r, .refl H, q⟩, fun m σ1 H1 ⟨ρ1, r1, x1, q1⟩ => by
      cases m with
      | zero => exact q1.elim
      | succ m =>
        refine ⟨H0, ρ1, _, r1, q1, fun k H2 ρ2 q2 r2 x2 => ?_⟩
        cases k with
        | false => rw [if_neg (by decide)] at q2 ⊢; exact t.nx _ _ _ q2 r2 (x1.trans x2)
        | true =>
          rw [if_pos rfl] at q2 ⊢
          have go : ∀ ρ3 σ3 H3, whileL wc wb m ρ3 Dd → R X.K H0 ρ3 σ3 H3 → Ev ρ2 σ1 H2 ρ3 σ3 H3 → ∃ ρ', R X.K H0 ρ' σ3 H3 ∧ Ev ρ σ H ρ' σ3 H3 ∧ whileL wc wb m ρ' Dd := fun ρ3 σ3 H3 w3 r3 x3 => ⟨ρ3, r3, (x1.trans x2).trans x3, w3⟩
          exact ⟨fun σ3 H3 => ∃ ρ', R X.K H0 ρ' σ3 H3 ∧ Ev ρ σ H ρ' σ3 H3 ∧ whileL wc wb m ρ' Dd, fun σ' H' h => ⟨m, by omega, h⟩, H0, ρ2, _, r2, q2, go, t.rt, fun ρ3 σ3 H3 w3 r3 x3 => t.nx _ _ _ w3 r3 ((x1.trans x2).trans x3), go⟩⟩
def forL (g : WG) (b : WS) : List D → DEnv → EndsD → Prop
  | [], ρ, E => E.nx ρ
  | d :: ds, ρ, E => g d ρ fun ρ1 => b ρ1 { nx := fun ρ2 => forL g b ds ρ2 E, rt := E.rt, bk := E.nx, ct := fun ρ2 => forL g b ds ρ2 E }
def wFor (wi : WI) (g : WG) (b : WS) : WS := fun ρ E => wi ρ fun ds ρ1 => forL g b ds ρ1 E
theorem ds_for {iter : Expr} {body : List Stmt} {wi : WI} {wb : WS} (hp : PassesOwn (model X.prog X.w) X.A X.env X.xe) (hc : X.calm = true) (hi : DI X tg iter wi) (hg : DG X tg js g) (hb : DB X body wb) (hs : ∀ x, foldedSetIterable iter X.env x = pure x) :
    DS X (.For tg iter body [] pos) (wFor wi g wb) := ps_imp (ps_for hp hc hi hg hb hs) fun E σ H ⟨H0, ρ, Dd, r, q, t⟩ =>
  ⟨H0, ρ, _, r, q, fun J ds H1 ρ1 q1 r1 x1 f => by
    refine ⟨fun i m σ' H' => m = ds.length - i ∧ i ≤ ds.length ∧ ∃ ρ', R X.K H0 ρ' σ' H' ∧ Ev ρ1 σ H1 ρ' σ' H' ∧ forL g wb (ds.drop i) ρ' Dd, ⟨_, rfl, Nat.zero_le _, ρ1, r1, .refl H1, q1⟩, ?_⟩
    rintro i m σ2 H2 ⟨rfl, hi, ρ2, r2, x2, q2⟩
    obtain ⟨f1, f2⟩ := f H2 (x2.imm r1)
    by_cases hlt : i < ds.length
    · refine .inr ⟨(f1 i hlt).1, fun σ' H' => i + 1 ≤ ds.length ∧ ∃ ρ', R X.K H0 ρ' σ' H' ∧ Ev ρ1 σ H1 ρ' σ' H' ∧ forL g wb (ds.drop (i + 1)) ρ' Dd, fun σ' H' h => ⟨_, by omega, rfl, h.1, h.2⟩, fun v H3 y => ?_⟩
      obtain ⟨s3, d, hd, rv⟩ := (f1 i hlt).2 v H3 y
      have ed : ds.drop i = d :: ds.drop (i + 1) := by
        rw [List.drop_eq_getElem_cons hlt]
        rw [List.getElem?_eq_getElem hlt] at hd
        cases hd
        rfl
      rw [ed] at q2
      have r3 := r2.grow s3
      have x3 : Ev ρ1 σ H1 ρ2 σ2 H3 := x2.trans (.of s3)
      refine ⟨H0, ρ2, d, _, r3, rv, q2, fun σ4 ρ4 q4 r4 _ _ o4 => ⟨H0, ρ4, _, r4, q4, ?_⟩⟩
      have x4 : Ev ρ1 σ H1 ρ4 σ4 H3 := x3.trans (ev_at o4)
      exact ⟨fun ρ5 σ5 H5 w5 r5 x5 => ⟨hlt, ρ5, r5, x4.trans x5, w5⟩, t.rt, fun ρ5 σ5 H5 w5 r5 x5 => t.nx _ _ _ w5 r5 (x1.trans (x4.trans x5)), fun ρ5 σ5 H5 w5 r5 x5 => ⟨hlt, ρ5, r5, x4.trans x5, w5⟩⟩
    · have e : i = ds.length := by omega
      subst e
      rw [List.drop_length] at q2
      exact .inl ⟨f2, t.nx _ _ _ q2 r2 (x1.trans x2)⟩⟩
end
end DL
namespace DL
open PySem PySem.Spec L2

/-- what a def does, on data -/
abbrev DSpec := List D → (D → Prop) → Prop
def DSp (K : Frg) (S : DSpec) : Sp := fun vs H Q _ => ∃ ds Qd, Reps K H vs ds ∧ S ds Qd ∧ ∀ d v H', Qd d → Same H H' → Rep K H' v d → Q v H'
/-- a def keeps its promise wherever nothing is being shown -/
structure FnG (P : Program) (w : World) (K : Frg) (mg : Str → Option Value) (base : Heap) (k : Nat) (f : Addr) (fd : FuncData) (ps : List Str) (sp : Sp) : Prop where
  go : ∀ (A : Around) (outer : List Env) (s : Shared) (H : Hp) (args : Args) (us : List Value) (vs : List V) (Q : VK) (E : XK), A.guards = some [] → Room k A → Env0 P w K mg base A outer s H → BindsTo s fd args (ps.zip us) →
    Vals vs us → vs.length = ps.length → sp vs H Q E → codeAny (model P w) A (.call (.ref f) args) (CR CX0 outer P w H s Q E) s
theorem FnG.up {P : Program} {w : World} {K : Frg} {mg : Str → Option Value} {base : Heap} {j k : Nat} {f : Addr} {fd : FuncData} {ps : List Str} {sp : Sp} (F : FnG P w K mg base j f fd ps sp) (h : j ≤ k) : FnG P w K mg base k f fd ps sp :=
  ⟨fun A outer s H args us vs Q E hg hr => F.go A outer s H args us vs Q E hg (hr.mono h)⟩
theorem FnG.weaken {P : Program} {w : World} {K : Frg} {mg : Str → Option Value} {base : Heap} {k : Nat} {f : Addr} {fd : FuncData} {ps : List Str} {S S' : DSpec} (F : FnG P w K mg base k f fd ps (DSp K S)) (h : ∀ ds Q, S' ds Q → S ds Q) :
    FnG P w K mg base k f fd ps (DSp K S') := ⟨fun A outer s H args us vs Q E hg hr e0 hb r l ⟨ds, Qd, p, q, t⟩ => F.go A outer s H args us vs Q E hg hr e0 hb r l ⟨ds, Qd, p, h _ _ q, t⟩⟩
/-- a def of the text, known by its name -/
structure Fd (P : Program) (w : World) (K : Frg) (mg : Str → Option Value) (base : Heap) (k : Nat) (x : Str) (f : Addr) (fd : FuncData) (ps : List Str) (S : DSpec) : Prop where
  at_ : mg x = some (.ref f)
  kp : PySem.W.keepIn K (.ref f) = true
  ok : FnG P w K mg base k f fd ps (DSp K S)
/-- the parameters' values: which of (positional, keywords', defaults) goes where -/
def sel {α : Type} (idx : List Nat) (all : List α) : List α := idx.filterMap fun i => all[i]?
theorem sel_cons {α : Type} (i : Nat) (idx : List Nat) (all : List α) : sel (i :: idx) all = match all[i]? with
  | some x => x :: sel idx all
  | none => sel idx all := by
  unfold sel
  rw [List.filterMap_cons]
  cases all[i]? <;> rfl
theorem vals_at {vs : List V} {us : List Value} (r : Vals vs us) : ∀ i : Nat, (vs[i]? = none ∧ us[i]? = none) ∨ ∃ v u, vs[i]? = some v ∧ us[i]? = some u ∧ RelV v u := by
  induction r with
  | nil => exact fun i => .inl ⟨rfl, rfl⟩
  | cons p q ih =>
    intro i
    cases i with
    | zero => exact .inr ⟨_, _, rfl, rfl, p⟩
    | succ i => exact ih i
theorem sel_vals {vs : List V} {us : List Value} (r : Vals vs us) : ∀ idx : List Nat, Vals (sel idx vs) (sel idx us)
  | [] => .nil
  | i :: idx => by
    rw [sel_cons, sel_cons]
    rcases vals_at r i with ⟨e1, e2⟩ | ⟨v, u, e1, e2, p⟩
    · rw [e1, e2]; exact sel_vals r idx
    · rw [e1, e2]; exact .cons p (sel_vals r idx)
theorem reps_at {K : Frg} {H : Hp} : ∀ {vs : List V} {ds : List D}, Reps K H vs ds → ∀ i : Nat, (vs[i]? = none ∧ ds[i]? = none) ∨ ∃ v d, vs[i]? = some v ∧ ds[i]? = some d ∧ Rep K H v d
  | _, _, .nil, i => .inl ⟨rfl, rfl⟩
  | _, _, .cons p q, 0 => .inr ⟨_, _, rfl, rfl, p⟩
  | _, _, .cons p q, i + 1 => reps_at q i
theorem sel_reps {K : Frg} {H : Hp} {vs : List V} {ds : List D} (r : Reps K H vs ds) : ∀ idx : List Nat, Reps K H (sel idx vs) (sel idx ds)
  | [] => .nil
  | i :: idx => by
    rw [sel_cons, sel_cons]
    rcases reps_at r i with ⟨e1, e2⟩ | ⟨v, u, e1, e2, p⟩
    · rw [e1, e2]; exact sel_reps r idx
    · rw [e1, e2]; exact .cons p (sel_reps r idx)
/-- n positional values, the keywords ks, the defaults dd: they bind as idx says -/
structure KB (K : Frg) (fd : FuncData) (ps : List Str) (n : Nat) (ks : List Str) (idx : List Nat) (dd : List D) : Prop where
  ex : ∃ (dv : List V) (its : List Value), Vals dv its ∧ (∀ H, Reps K H dv dd) ∧ ∀ (s : Shared) (us ws : List Value), K.In s.heap → us.length = n → ws.length = ks.length → BindsTo s fd ⟨us, ks.zip ws⟩ (ps.zip (sel idx (us ++ ws ++ its)))
section
variable {K : Frg} {x qual : Str} {params : Arguments} {body : List Stmt} {scope : Scope} {dvs : List V} {f : Addr} {fd : FuncData} {ps : List Str}
theorem kb_all (F : FunD K x qual params body scope [] [] f fd) (n : Nat) (ks : List Str) (idx : List Nat)
    (h : ∀ (kV doc pm : Value) (an : Option Addr) (cdv ct : Value) (us ws : List Value), us.length = n → ws.length = ks.length → bindArgs (PySem.W.fnOf x qual params body scope .none kV doc pm an cdv ct) ⟨us, ks.zip ws⟩ = pure (ps.zip (sel idx (us ++ ws ++ [])))) : KB K fd ps n ks idx [] := by
  obtain ⟨oc, od, dV, kV, doc, pm, an, cdv, ct, osl, rfl, lk, hcd, hD, hK⟩ := F.ex
  rcases hD with ⟨_, rfl⟩ | ⟨e, _⟩
  · exact ⟨[], [], .nil, fun _ => .nil, fun s us ws _ l1 l2 => .of_eq (h kV doc pm an cdv ct us ws l1 l2)⟩
  · exact absurd rfl e
theorem kb_dfl (F : FunD K x qual params body scope dvs [] f fd) (n : Nat) (ks : List Str) (idx : List Nat) (dd : List D) (hd : dvs ≠ []) (hr : ∀ H, Reps K H dvs dd)
    (h : ∀ (T : Addr) (kV doc pm : Value) (an : Option Addr) (cdv ct : Value) (us ws its : List Value), us.length = n → ws.length = ks.length → its.length = dvs.length →
      ∃ k, bindArgs (PySem.W.fnOf x qual params body scope (.ref T) kV doc pm an cdv ct) ⟨us, ks.zip ws⟩ = seqItems? (.ref T) >>= k ∧ k (some its.toArray) = pure (ps.zip (sel idx (us ++ ws ++ its)))) : KB K fd ps n ks idx dd := by
  obtain ⟨oc, od, dV, kV, doc, pm, an, cdv, ct, osl, rfl, lk, hcd, hD, hK⟩ := F.ex
  rcases hD with ⟨e, _⟩ | ⟨_, T, o, its, m, rfl, lT, oT, rT⟩
  · exact absurd e hd
  · refine ⟨dvs, its, rT, hr, fun s us ws X l1 l2 => ?_⟩
    obtain ⟨k, e1, e2⟩ := h T kV doc pm an cdv ct us ws its l1 l2 rT.length.symm
    refine BindsTo.of_looks fun M => ?_
    rw [e1]
    exact looks_items X lT oT (.of_pure e2)
end
section
variable {X : Cx} {k n : Nat} {f : Addr} {fd : FuncData} {ps ks : List Str} {S : DSpec} {x : Str} {p pos : Pos} {e : Expr} {es : List Expr} {kws : List Keyword} {idx : List Nat} {dd : List D} {was wks : WA}
/-- the called def runs -/
theorem fd_run {pins : List (Addr × Obj)} {σ : L2.St} {H : Hp} {s : Shared} {Q : VK} {us ws : List Value} {vs zs : List V} {ds es : List D} {Qd : D → Prop} (F : Fd X.prog X.w X.K X.mg X.base k x f fd ps S) (b : KB X.K fd ps n ks idx dd) (hg : X.A.guards = some []) (hr : Room k X.A)
    (I : Inv X pins σ H s) (r : Vals vs us) (rz : Vals zs ws) (l1 : us.length = n) (l2 : ws.length = ks.length) (hl : (sel idx (ds ++ es ++ dd)).length = ps.length) (p1 : Reps X.K H vs ds) (p2 : Reps X.K H zs es) (q : S (sel idx (ds ++ es ++ dd)) Qd)
    (kk : ∀ d v H', Qd d → Same H H' → Rep X.K H' v d → Q v H') : wpAny (model X.prog X.w) X.A (call (.ref f) us (ks.zip ws)) (EP X pins σ Q) X.xe s := by
  obtain ⟨dv, its, rv, rd, hb⟩ := b.ex
  have r2 : Vals (sel idx (vs ++ zs ++ dv)) (sel idx (us ++ ws ++ its)) := sel_vals ((r.append rz).append rv) idx
  have p3 : Reps X.K H (sel idx (vs ++ zs ++ dv)) (sel idx (ds ++ es ++ dd)) := sel_reps ((p1.append p2).append (rd H)) idx
  refine wpAny_call (codeAny_mono (F.ok.go X.A X.stack s H ⟨us, ks.zip ws⟩ _ _ Q E0 hg hr I.env0 (hb s us ws I.kIn l1 l2) r2 (p3.length.trans hl) ⟨_, Qd, p3, q, kk⟩) fun r s' hq => ?_)
  rcases r with e | (_ | _ | _ | u)
  · exact hq.elim
  · exact False.elim hq
  · exact False.elim hq
  · exact False.elim hq
  · exact I.after hq
def wCall (S : DSpec) (m n nk : Nat) (idx : List Nat) (dd : List D) (was wks : WA) : WE := fun ρ Q => was ρ fun ds ρ1 => wks ρ1 fun es ρ2 => ds.length = n ∧ es.length = nk ∧ (sel idx (ds ++ es ++ dd)).length = m ∧ S (sel idx (ds ++ es ++ dd)) fun d => Q d ρ2
/-- what a call of the object at f does with its values -/
def Runs (X : Cx) (f : Addr) (ks : List Str) (T : List V → List V → Hp → VK → Prop) : Prop := ∀ (pins : List (Addr × Obj)) (s : Shared) (σ : L2.St) (H : Hp) (Q : VK) (us ws : List Value) (vs zs : List V), Inv X pins σ H s → Vals vs us → Vals zs ws → T vs zs H Q →
  wpAny (model X.prog X.w) X.A (call (.ref f) us (ks.zip ws)) (EP X pins σ Q) X.xe s
def tRuns (T : List V → List V → Hp → VK → Prop) (t tk : TA) : TE := fun σ H Q => t σ H fun vs H1 => tk σ H1 fun zs H2 => T vs zs H2 Q
section
variable {T : List V → List V → Hp → VK → Prop} {t tk : TA}
theorem pe_runs (F : Runs X f [] T) (hm : X.mg x = some (.ref f)) (hk : PySem.W.keepIn X.K (.ref f) = true) (gl : Gl X x) (ha : PA X (e :: es) t)
    (hdb : (x == ("__debug__" : Str)) = false) (he : starEach (e :: es) X.env = (false, eval e X.env) :: starEach es X.env) (hpl : (backTo pos (starEach es X.env)).any (·.1) = false) :
    PE X (.Call (.Name x p) (e :: es) [] pos) (tRuns T t tNil) := ⟨fun pins s σ H Q I h => by
  refine wpAny_Call_Name_kw (ld_glob I gl hm ?_ hdb)
  exact PySem.W.callWith_K (h₀ := X.base) I.ok.mod.kin hk (thn (ha.run pos pins s σ H _ I h) fun us s1 ⟨vs, H1, I1, rv, q⟩ => ⟨I1.kIn, F pins s1 σ H1 Q us [] vs [] I1 rv .nil q⟩) he hpl⟩
theorem pe_runs0 (F : Runs X f [] T) (hm : X.mg x = some (.ref f)) (hk : PySem.W.keepIn X.K (.ref f) = true) (gl : Gl X x) (hdb : (x == ("__debug__" : Str)) = false) :
    PE X (.Call (.Name x p) [] [] pos) (tRuns T tNil tNil) := ⟨fun pins s σ H Q I h => by
  refine wpAny_Call_Name_kw (ld_glob I gl hm ?_ hdb)
  exact PySem.W.callWith_K0 I.kIn hk (F pins s σ H Q [] [] [] [] I .nil .nil h)⟩
theorem pe_runsK (F : Runs X f ks T) (hm : X.mg x = some (.ref f)) (hk : PySem.W.keepIn X.K (.ref f) = true) (gl : Gl X x) (ha : PA X (e :: es) t) (hkw : PK X kws tk)
    (hall : (backToKw pos (keywordEach kws X.env)).all (·.1.isSome) = true) (hks : (backToKw pos (keywordEach kws X.env)).filterMap (·.1) = ks)
    (hdb : (x == ("__debug__" : Str)) = false) (he : starEach (e :: es) X.env = (false, eval e X.env) :: starEach es X.env)
    (hpl : ((backTo pos (starEach (e :: es) X.env)).any (·.1) || (backToKw pos (keywordEach kws X.env)).any (·.1.isNone)) = false) : PE X (.Call (.Name x p) (e :: es) kws pos) (tRuns T t tk) := ⟨fun pins s σ H Q I h => by
  refine wpAny_Call_Name_kw (ld_glob I gl hm ?_ hdb)
  refine PySem.W.callWith_KW (h₀ := X.base) I.ok.mod.kin hk hall (thn (ha.run pos pins s σ H _ I h) fun us s1 ⟨vs, H1, I1, rv, q⟩ => ?_) hpl he
  refine thn (hkw.run pos pins s1 σ H1 _ I1 q) fun ws s2 ⟨zs, H2, I2, rz, q2⟩ => ⟨I2.kIn, ?_⟩
  rw [hks]
  exact F pins s2 σ H2 Q us ws vs zs I2 rv rz q2⟩
theorem pe_runsK0 (F : Runs X f ks T) (hm : X.mg x = some (.ref f)) (hk : PySem.W.keepIn X.K (.ref f) = true) (gl : Gl X x) (hkw : PK X kws tk)
    (hall : (backToKw pos (keywordEach kws X.env)).all (·.1.isSome) = true) (hks : (backToKw pos (keywordEach kws X.env)).filterMap (·.1) = ks)
    (hdb : (x == ("__debug__" : Str)) = false) (hpl : ((backTo pos (starEach [] X.env)).any (·.1) || (backToKw pos (keywordEach kws X.env)).any (·.1.isNone)) = false) :
    PE X (.Call (.Name x p) [] kws pos) (tRuns T tNil tk) := ⟨fun pins s σ H Q I h => by
  refine wpAny_Call_Name_kw (ld_glob I gl hm ?_ hdb)
  refine PySem.W.callWith_KW0 (h₀ := X.base) I.ok.mod.kin hk hall (thn (hkw.run pos pins s σ H _ I h) fun ws s2 ⟨zs, H2, I2, rz, q2⟩ => ⟨I2.kIn, ?_⟩) hpl
  rw [hks]
  exact F pins s2 σ H2 Q [] ws [] zs I2 .nil rz q2⟩
end
/-- with data -/
def tSp (K : Frg) (S : DSpec) (m n nk : Nat) (idx : List Nat) (dd : List D) : List V → List V → Hp → VK → Prop := fun vs zs H Q => ∃ ds es Qd, Reps K H vs ds ∧ Reps K H zs es ∧ ds.length = n ∧ es.length = nk ∧ (sel idx (ds ++ es ++ dd)).length = m ∧ S (sel idx (ds ++ es ++ dd)) Qd ∧
  ∀ d v H', Qd d → Same H H' → Rep K H' v d → Q v H'
theorem fd_runs (F : Fd X.prog X.w X.K X.mg X.base k x f fd ps S) (b : KB X.K fd ps n ks idx dd) (hg : X.A.guards = some []) (hr : Room k X.A) : Runs X f ks (tSp X.K S ps.length n ks.length idx dd) := fun pins s σ H Q us ws vs zs I rv rz ⟨ds, es, Qd, p1, p2, l1, l2, l3, q, kk⟩ =>
  fd_run F b hg hr I rv rz (by rw [← rv.length, p1.length]; exact l1) (by rw [← rz.length, p2.length]; exact l2) l3 p1 p2 q kk
theorem runs_of {K : Frg} {m nk : Nat} : ∀ σ H Q, tD K (wCall S m n nk idx dd was wks) σ H Q → tRuns (tSp K S m n nk idx dd) (tDA K was) (tDA K wks) σ H Q := fun σ H Q ⟨H0, ρ, Qd, r, q, kk⟩ =>
  ⟨H0, ρ, _, r, q, fun vs ds H1 ρ1 q1 r1 p1 x1 => ⟨H0, ρ1, _, r1, q1, fun zs es H2 ρ2 ⟨l1, l2, l3, q2⟩ r2 p2 x2 => ⟨ds, es, _, p1.keep (x2.imm r1), p2, l1, l2, l3, q2, fun d v H' qd sm pr => kk v d H' ρ2 qd (r2.grow sm) pr ((x1.trans x2).trans (.of sm))⟩⟩⟩
abbrev DK (X : Cx) (kws : List Keyword) (w : WA) : Prop := PK X kws (tDA X.K w)
theorem pk_imp {t t' : TA} (h : PK X kws t) (k : ∀ σ H Q, t' σ H Q → t σ H Q) : PK X kws t' := ⟨fun pos pins s σ H Q I hw => h.run pos pins s σ H Q I (k _ _ _ hw)⟩
theorem nil_of {K : Frg} : ∀ σ H Q, tDA K wNil σ H Q → tNil σ H Q := fun σ H Q ⟨H0, ρ, Qd, r, q, k⟩ => k [] [] H ρ q r .nil (.refl H)
theorem dk_nil : DK X [] wNil := pk_imp pk_nil nil_of
theorem dk_cons {nm : Option Str} {kpos : Pos} {a : WE} {as : WA} (ha : DE X e a) (hr : DK X kws as) : DK X (⟨nm, e, kpos⟩ :: kws) (wCons a as) :=
  pk_imp (pk_cons ha hr) fun σ H Q ⟨H0, ρ, Qd, r, q, k⟩ => ⟨H0, ρ, _, r, q, fun v d H1 ρ1 q1 r1 p1 x1 => ⟨H0, ρ1, _, r1, q1, fun vs ds H2 ρ2 q2 r2 p2 x2 => k _ _ H2 ρ2 q2 r2 (.cons (p1.keep (x2.imm r1)) p2) (x1.trans x2)⟩⟩
/-- f(e, ..) -/
theorem de_call {m : Nat} (F : Fd X.prog X.w X.K X.mg X.base k x f fd ps S) (b : KB X.K fd ps n [] idx dd) (hg : X.A.guards = some []) (hr : Room k X.A) (gl : Gl X x) (ha : DA X (e :: es) was)
    (hdb : (x == ("__debug__" : Str)) = false) (he : starEach (e :: es) X.env = (false, eval e X.env) :: starEach es X.env) (hpl : (backTo pos (starEach es X.env)).any (·.1) = false) (hm : ps.length = m) :
    DE X (.Call (.Name x p) (e :: es) [] pos) (wCall S m n 0 idx dd was wNil) := by
  subst hm
  refine pe_imp (pe_runs (fd_runs F b hg hr) F.at_ F.kp gl ha hdb he hpl) fun σ H Q h => ?_
  obtain ⟨H0, ρ, Qd, r, q, kk⟩ := runs_of σ H Q h
  exact ⟨H0, ρ, Qd, r, q, fun vs ds H1 ρ1 q1 r1 p1 x1 => nil_of _ _ _ (kk vs ds H1 ρ1 q1 r1 p1 x1)⟩
theorem de_call0 {m : Nat} (F : Fd X.prog X.w X.K X.mg X.base k x f fd ps S) (b : KB X.K fd ps 0 [] idx dd) (hg : X.A.guards = some []) (hr : Room k X.A) (gl : Gl X x) (hdb : (x == ("__debug__" : Str)) = false) (hm : ps.length = m) :
    DE X (.Call (.Name x p) [] [] pos) (wCall S m 0 0 idx dd wNil wNil) := by
  subst hm
  refine pe_imp (pe_runs0 (fd_runs F b hg hr) F.at_ F.kp gl hdb) fun σ H Q h => ?_
  obtain ⟨H0, ρ, Qd, r, q, kk⟩ := runs_of σ H Q h
  exact nil_of σ H (fun zs H2 => tSp X.K S ps.length 0 0 idx dd [] zs H2 Q) (kk [] [] H ρ q r .nil (.refl H))
/-- f(e, .., k = v, ..) -/
theorem de_callK {m nk : Nat} (F : Fd X.prog X.w X.K X.mg X.base k x f fd ps S) (b : KB X.K fd ps n ks idx dd) (hg : X.A.guards = some []) (hr : Room k X.A) (gl : Gl X x) (ha : DA X (e :: es) was) (hk : DK X kws wks)
    (hall : (backToKw pos (keywordEach kws X.env)).all (·.1.isSome) = true) (hks : (backToKw pos (keywordEach kws X.env)).filterMap (·.1) = ks)
    (hdb : (x == ("__debug__" : Str)) = false) (he : starEach (e :: es) X.env = (false, eval e X.env) :: starEach es X.env)
    (hpl : ((backTo pos (starEach (e :: es) X.env)).any (·.1) || (backToKw pos (keywordEach kws X.env)).any (·.1.isNone)) = false) (hm : ps.length = m) (hnk : ks.length = nk) :
    DE X (.Call (.Name x p) (e :: es) kws pos) (wCall S m n nk idx dd was wks) := by
  subst hm hnk
  exact pe_imp (pe_runsK (fd_runs F b hg hr) F.at_ F.kp gl ha hk hall hks hdb he hpl) runs_of
theorem de_callK0 {m nk : Nat} (F : Fd X.prog X.w X.K X.mg X.base k x f fd ps S) (b : KB X.K fd ps 0 ks idx dd) (hg : X.A.guards = some []) (hr : Room k X.A) (gl : Gl X x) (hk : DK X kws wks)
    (hall : (backToKw pos (keywordEach kws X.env)).all (·.1.isSome) = true) (hks : (backToKw pos (keywordEach kws X.env)).filterMap (·.1) = ks)
    (hdb : (x == ("__debug__" : Str)) = false) (hpl : ((backTo pos (starEach [] X.env)).any (·.1) || (backToKw pos (keywordEach kws X.env)).any (·.1.isNone)) = false) (hm : ps.length = m) (hnk : ks.length = nk) :
    DE X (.Call (.Name x p) [] kws pos) (wCall S m 0 nk idx dd wNil wks) := by
  subst hm hnk
  refine pe_imp (pe_runsK0 (fd_runs F b hg hr) F.at_ F.kp gl hk hall hks hdb hpl) fun σ H Q h => ?_
  obtain ⟨H0, ρ, Qd, r, q, kk⟩ := runs_of σ H Q h
  exact kk [] [] H ρ q r .nil (.refl H)
end
/-- the names' data at a def's entry -/
def env0 (n : Nat) (ds : List D) : DEnv := ds.map (fun d => some (.sh d)) ++ List.replicate (n - ds.length) none
def runs (n m : Nat) (w : WS) : DSpec := fun ds Q => ds.length = m ∧ w (env0 n ds) { nx := fun _ => Q .non, rt := Q }
theorem r_start {K : Frg} {H : Hp} {N : List Str} {vs : List V} {ds : List D} (p : Reps K H vs ds) : R K H (env0 N.length ds) (L2.start N vs) H := by
  have hl := p.length
  have no : ∀ (i : Nat) (d : D), (env0 N.length ds)[i]? ≠ some (some (Slot.ow d)) := fun i d e => by
    unfold env0 at e
    by_cases hi : i < ds.length
    · rw [List.getElem?_append_left (by rw [List.length_map]; exact hi), List.getElem?_map, List.getElem?_eq_getElem hi] at e
      cases e
    · rw [List.getElem?_append_right (by rw [List.length_map]; omega), List.getElem?_replicate] at e
      split at e <;> cases e
  refine ⟨?_, fun i d e => ?_, fun i d e => absurd e (no i d), fun i j d e a _ h => absurd h (no i d), fun b o e => e⟩
  · unfold env0 L2.start
    rw [List.length_append, List.length_append, List.length_map, List.length_map, List.length_replicate, List.length_replicate, hl]
  · unfold env0 at e
    unfold L2.start
    by_cases hi : i < ds.length
    · rw [List.getElem?_append_left (by rw [List.length_map]; exact hi), List.getElem?_map, List.getElem?_eq_getElem hi] at e
      cases e
      obtain ⟨v, h1, h2⟩ := p.get (List.getElem?_eq_getElem hi)
      refine ⟨v, ?_, h2⟩
      rw [List.getElem?_append_left (by rw [List.length_map, hl]; exact hi), List.getElem?_map, h1]
      rfl
    · rw [List.getElem?_append_right (by rw [List.length_map]; omega), List.getElem?_replicate] at e
      split at e <;> cases e
end DL
namespace DL
open PySem PySem.Spec PyProof.Rows L2
section
variable {P : Program} {w : World} {K : Frg} {mg : Str → Option Value} {base : Heap} {k : Nat} {x qual : Str} {params : Arguments} {body : List Stmt} {scope : Scope} {dvs : List V} {kws : List (Str × V)} {f : Addr} {fd : FuncData} {ps N : List Str}
/-- any promise, by the body's reading -/
theorem fnG_raw {sp : Sp} (F : FunD K x qual params body scope dvs kws f fd) (S : FnScope N ps scope)
    (hb : ∀ (cdv : Value) (A : Around) (outer : List Env) (s : Shared) (H : Hp) (vs : List V) (Q : VK) (E : XK), (A.deeper (envOfC qual scope s.heap.objs.size f cdv)).guards = some [] → Room k (A.deeper (envOfC qual scope s.heap.objs.size f cdv)) → vs.length = ps.length → sp vs H Q E →
      ∃ t, PSs (cxOf CX0 P w K mg base N qual scope f cdv A outer s H E).nox body t ∧ t { nx := fun _ H' => Q .non H', rt := Q } (L2.start N vs) H) : FnG P w K mg base (k + 1) f fd ps sp := ⟨by
  obtain ⟨oc, od, dV, kV, doc, pm, an, cdv, ct, osl, rfl, lk, hcd, _, _⟩ := F.ex
  intro A outer s H args us vs Q E hg hr e0 hbd rv hl hsp
  have inK : K.In s.heap := e0.mod.kin.keeps fun b o e => (e0.bs b o e).1
  have lim : s.heap.NoLimit := e0.mod.nolimit.keeps fun b o e => (e0.bs b o e).1
  refine codeAny_call_function hr.depth (inK _ _ lk) rfl S.co S.gen rfl (PySem.W.codeRec_of inK hcd) (hbd _ _ _ _ ?_)
  refine wpAny_newFunctionEnv_cells S.kind (fun y hy => ?_) fun env he s1 fr => ?_
  · obtain ⟨n, v⟩ := y
    refine (S.par n (List.of_mem_zip hy).1).imp id fun q => ⟨q, PySem.W.cellsFrom_some _ _ _ (.inl q)⟩
  subst he
  refine ⟨lim.keeps fr.toInCall.keep, codeAny_func ?_⟩
  obtain ⟨t, ht, q⟩ := hb cdv A outer s H vs Q E hg (hr.deeper _) hl hsp
  have I := inv_start (CX := CX0) (P := P) (w := w) (K := K) (mg := mg) (base := base) (qual := qual) (f := f) (cd := cdv) (E := E) S hr.hd e0 hl rv fr
  refine wpAny_mono (ht.nox.run [] s1 (L2.start N vs) H _ I q) (fun fl s' hs => ?_) fun e s' hs => hs
  have fin : ∀ {σ2 : L2.St} {H2 : Hp} {v : V} {u : Value}, Inv (cxOf CX0 P w K mg base N qual scope f cdv A outer s H E) [] σ2 H2 s' → RelV v u → Q v H2 → CE outer P w H s Q u s' := fun {σ2 H2 v u} J r q => ⟨v, H2, J.os, J.bare, J.base, J.hok, r, q⟩
  rcases fl with _ | _ | _ | u
  · obtain ⟨σ2, H2, J, q2⟩ := hs
    exact fin (v := V.non) (u := Value.none) J rfl q2
  · obtain ⟨_, _, _, q2⟩ := hs
    exact q2.elim
  · obtain ⟨_, _, _, q2⟩ := hs
    exact q2.elim
  · obtain ⟨v, σ2, H2, J, r, q2⟩ := hs
    exact fin J r q2⟩
/-- by the body's reading on data -/
theorem fnG_of {wb : WS} (F : FunD K x qual params body scope dvs kws f fd) (S : FnScope N ps scope)
    (hb : ∀ (cdv : Value) (A : Around) (outer : List Env) (s : Shared) (H : Hp), (A.deeper (envOfC qual scope s.heap.objs.size f cdv)).guards = some [] → Room k (A.deeper (envOfC qual scope s.heap.objs.size f cdv)) →
      DB (cxOf CX0 P w K mg base N qual scope f cdv A outer s H fun _ _ _ => True).nox body wb) : FnG P w K mg base (k + 1) f fd ps (DSp K (runs N.length ps.length wb)) :=
  fnG_raw F S fun cdv A outer s H vs Q E hg hr hl ⟨ds, Qd, p, ⟨hm, q⟩, kk⟩ =>
    ⟨tDS K wb, ⟨fun pins s0 σ0 H1 D I h => (hb cdv A outer s H hg hr).run pins s0 σ0 H1 D ⟨⟨I.ok.mod, I.ok.kind, I.ok.glob, I.ok.blt, I.ok.above, I.ok.inj, I.ok.has, I.ok.cab, I.ok.hd, I.ok.frames, I.ok.stk, I.ok.exf, I.ok.bs, I.ok.bsz, I.ok.noex, I.ok.exfs, I.ok.funs, I.ok.frf⟩, I.os, I.bare, I.base, I.loc, I.cell, I.free, I.freeC, I.pin, I.hok, I.len⟩ h⟩,
      H, env0 N.length ds, _, r_start p, q, ⟨fun ρ σ H2 qn r x => kk .non .non H2 qn r.same .non, fun d v H2 qr sm pr => kk d v H2 qr sm pr, fun _ _ _ z => z.elim, fun _ _ _ z => z.elim⟩⟩
end
/-- the top's call of the law -/
theorem lawG {P : Program} {w : World} {K : Frg} {mg mb : Str → Option Value} {k : Nat} {fa a : Addr} {fd : FuncData} {x : Str} {sp : Sp} {z : Shared} {us : List Value} {ns : List Int}
    (inK : K.In z.heap) (g0 : z.heap.Ns mainGlobals mg) (b0 : z.heap.Ns builtinsNs mb) (bb : ∀ y : Str, y ≠ "__name__" → mb y = bootBuiltins y) (lm : z.heap.NoLimit) (ge : z.gens = #[])
    (sc : z.heap.get? a = some { cls := .type "list", data := .seq us.toArray }) (ai : IntsAre us ns) (le : ns.length ≤ sizeLine) (hr : Room k callerA)
    (F : ∀ base : Heap, K.In base → base.Ns mainGlobals mg → FnG P w K mg base k fa fd [x] sp) (bd : ∀ (s : Shared) (u : Value), BindsTo s fd ⟨[u], []⟩ [(x, u)])
    (hs : ∀ H : Hp, (∀ b o, H b = some o → ∃ ob xs, o = .frz ob (.lst xs)) → FzL K H a (ns.map V.int) → sp [.ref a] H (fun v _ => v = .bl true) fun _ _ _ => False) :
    codeAny (model P w) callerA (.call (.ref fa) ⟨[.ref a], []⟩) (fun r s' => r = .ok (.ret (.bool true)) ∧ OldK z.heap s'.heap ∧ s'.os = z.os ∧ AllBare s'.gens) z := by
  have rv := vals_ints ai
  have go : ∀ H : Hp, (∀ b o, H b = some o → ∃ ob xs, o = .frz ob (.lst xs)) → FzL K H a (ns.map V.int) → HOk P w H z.heap → (∀ b o, H b = some o → b = a) → (∀ b o, H b = some o → K.lookup a = none) →
      codeAny (model P w) callerA (.call (.ref fa) ⟨[.ref a], []⟩) (fun r s' => r = .ok (.ret (.bool true)) ∧ OldK z.heap s'.heap ∧ s'.os = z.os ∧ AllBare s'.gens) z := by
    intro H fr fz hok only notK
    have keepN : ∀ {b : Addr} {o : Obj}, z.heap.get? b = some o → H b = none → (hidT z.heap H).get? b = some o := fun e n => hidT_get e n
    have free : ∀ {b : Addr} {o : Obj} {es : Array DictEntry} {ep : Nat}, z.heap.get? b = some o → o.data = .dict es ep → H b = none := fun {b o es ep} e d => by
      cases q : H b with
      | none => rfl
      | some u =>
        cases only b u q
        rw [sc] at e
        cases e
        cases (show Data.seq us.toArray _ = Data.dict es ep from d)
    have nss : ∀ {b : Addr} {m : Str → Option Value}, z.heap.Ns b m → (hidT z.heap H).Ns b m := fun {b m} ⟨o, es, ep, e, d, r⟩ => ⟨o, es, ep, keepN e (free e d), d, r⟩
    have inB : K.In (hidT z.heap H) := fun b o e => keepN (inK b o e) (by
      cases q : H b with
      | none => rfl
      | some u =>
        cases only b u q
        rw [notK a u q] at e
        cases e)
    have md : Mod K mg (hidT z.heap H) := ⟨inB, nss g0, ⟨mb, nss b0, bb⟩, lm.elim fun mc ⟨h1, h2⟩ => ⟨mc, nss h1, h2⟩⟩
    have e0 : Env0 P w K mg (hidT z.heap H) callerA [] z H := ⟨rfl, md, fun b o e => of_hidT e, Nat.le_of_eq (hidT_size _ _), trivial, fun b hb => absurd hb (List.not_mem_nil (a := b)), hok, .of_eq ge⟩
    refine codeAny_mono ((F _ inB (nss g0)).go callerA [] z H ⟨[.ref a], []⟩ [.ref a] [.ref a] _ _ rfl hr e0 (bd z (.ref a)) (.cons rfl .nil) rfl (hs H fr fz)) fun r s' h => ?_
    rcases r with e | (_ | _ | _ | u)
    · exact h.elim
    · exact False.elim h
    · exact False.elim h
    · exact False.elim h
    · obtain ⟨v, H', os, bare, un, hok', ru, q⟩ := h
      cases (show v = .bl true from q)
      cases (show u = Value.bool true from ru)
      refine ⟨rfl, OldK.of_keep fun b o e => ?_, os, bare⟩
      cases q : H b with
      | none => exact un.keep b o e q (fun y => absurd y (List.not_mem_nil (a := b))) (by simp)
      | some u =>
        obtain ⟨ob, xs, rfl⟩ := fr b u q
        obtain ⟨e1, _⟩ := hok b _ q
        obtain ⟨e2, _⟩ := hok' b _ (un.frzs b ob _ q)
        rw [e] at e1
        cases e1
        exact e2
  cases hk : K.lookup a with
  | some o =>
    have e := inK a o hk
    rw [sc] at e
    cases e
    refine go (fun _ => none) (fun b o q => by cases q) (.inr ?_) (fun b u q => by cases (show (none : Option HO) = some u from q)) (fun b o q => by cases q) fun b o q => by cases q
    exact ⟨us.toArray, _, hk, by rw [List.size_toArray, ai.length]; exact le, by simpa using rv⟩
  | none =>
    have at_ : ∀ {b : Addr} {o : HO}, (if b = a then some (HO.frz { cls := .type "list", data := .seq us.toArray } (.lst (ns.map V.int))) else none) = some o → b = a ∧ HO.frz { cls := .type "list", data := .seq us.toArray } (.lst (ns.map V.int)) = o := fun {b o} q => by
      by_cases hb : b = a
      · rw [if_pos hb] at q
        exact ⟨hb, Option.some.inj q⟩
      · rw [if_neg hb] at q
        cases q
    refine go (fun b => if b = a then some (.frz { cls := .type "list", data := .seq us.toArray } (.lst (ns.map V.int))) else none) (fun b o q => ⟨_, _, (at_ q).2.symm⟩) (.inl ⟨_, if_pos rfl⟩) (fun b u q => ?_) (fun b o q => (at_ q).1) fun b o q => hk
    obtain ⟨rfl, rfl⟩ := at_ q
    exact ⟨sc, by rw [List.length_map]; exact le, us, _, rv, sc⟩
/-- the law, from what its def does on data -/
theorem endG {l : PySem.W.OpenLaw} {k : Nat} {q : Program} {loose : List Str} {XP : (Str → Option Value) → Heap → Prop} {YP : World → Heap → Prop} {d : DefRec} {x : Str} {S : DSpec}
    (hn : l.most = some 63) (hdf : d.params.defaults = []) (hr : Room k callerA)
    (F : ∀ (w : World) (mg : Str → Option Value) (fa : Addr) (h : Heap), YP w h → h.Ns mainGlobals mg → mg d.name = some (.ref fa) →
      ∃ (K : Frg) (fd : FuncData), K.In h ∧ (∀ (s : Shared) (u : Value), BindsTo s fd ⟨[u], []⟩ [(x, u)]) ∧ ∀ base : Heap, K.In base → base.Ns mainGlobals mg → FnG l.prog w K mg base k fa fd [x] (DSp K S))
    (law : ∀ ns : List Int, ns.length ≤ 63 → S [.lst (ns.map D.int)] fun d => d = .bl true) : PySem.W.WalkO q loose XP YP l.row.toRowW d [] (fun f vs => PySem.call f vs) := by
  refine Att.attach_call hn hdf fun w s₀ s₁ mg mb fa o pm cd doc a vs ns G Y ho hd hcd hmg hobj hints hlen hg => ?_
  obtain ⟨K, fd, inK, hb, hF⟩ := F w mg fa _ Y G.T.g hmg
  refine lawG inK G.T.g G.T.b G.T.builtins G.T.nolimit hg hobj hints (Nat.le_trans hlen (by decide)) hr hF hb fun H fr fz => ?_
  refine ⟨[.lst (ns.map D.int)], fun d => d = .bl true, .cons (.lst fz (Reps.of_ints ns)) .nil, law ns hlen, fun d v H' e sm p => ?_⟩
  subst e
  exact rep_bl p
end DL
namespace DL
open PySem PySem.Spec PyProof.Rows L2
section
variable {X : Cx} {K : Frg} {H0 H H' : Hp} {ρ ρ' : DEnv} {σ σ' : L2.St} {e : Expr} {es : List Expr} {x : Str} {p pos : Pos} {id T : String} {r : List V → Hp → VK → Prop} {b : B1} {was : WA} {we : WE}
theorem de_blt (hc : CallR X (.builtin id) r) (hk : B1Ok X.K r b) (gl : Gl X x) (hm : X.mg x = none) (hv : bootBuiltins x = some (.builtin id)) (ha : DA X (e :: es) was) (hn : x ≠ "__name__") (hdb : (x == ("__debug__" : Str)) = false)
    (he : starEach (e :: es) X.env = (false, eval e X.env) :: starEach es X.env) (hpl : (backTo pos (starEach es X.env)).any (·.1) = false) : DE X (.Call (.Name x p) (e :: es) [] pos) (wB b was) := pe_imp (pe_callB hc gl hm hv ha hn hdb he hpl) (tB_of hk)
theorem df_blt (hc : CallR X (.builtin id) r) (hk : B1F X.K r b) (gl : Gl X x) (hm : X.mg x = none) (hv : bootBuiltins x = some (.builtin id)) (ha : DA X (e :: es) was) (hn : x ≠ "__name__") (hdb : (x == ("__debug__" : Str)) = false)
    (he : starEach (e :: es) X.env = (false, eval e X.env) :: starEach es X.env) (hpl : (backTo pos (starEach es X.env)).any (·.1) = false) : DF X (.Call (.Name x p) (e :: es) [] pos) (wB b was) := pe_imp (pe_callB hc gl hm hv ha hn hdb he hpl) (tB_ofF hk)
theorem de_bty (hc : CallR X (.type T) r) (hk : B1Ok X.K r b) (gl : Gl X x) (hm : X.mg x = none) (hv : bootBuiltins x = some (.type T)) (ha : DA X (e :: es) was) (hn : x ≠ "__name__") (hdb : (x == ("__debug__" : Str)) = false)
    (he : starEach (e :: es) X.env = (false, eval e X.env) :: starEach es X.env) (hpl : (backTo pos (starEach es X.env)).any (·.1) = false) : DE X (.Call (.Name x p) (e :: es) [] pos) (wB b was) := pe_imp (pe_callTy hc gl hm hv ha hn hdb he hpl) (tB_of hk)
theorem df_bty (hc : CallR X (.type T) r) (hk : B1F X.K r b) (gl : Gl X x) (hm : X.mg x = none) (hv : bootBuiltins x = some (.type T)) (ha : DA X (e :: es) was) (hn : x ≠ "__name__") (hdb : (x == ("__debug__" : Str)) = false)
    (he : starEach (e :: es) X.env = (false, eval e X.env) :: starEach es X.env) (hpl : (backTo pos (starEach es X.env)).any (·.1) = false) : DF X (.Call (.Name x p) (e :: es) [] pos) (wB b was) := pe_imp (pe_callTy hc gl hm hv ha hn hdb he hpl) (tB_ofF hk)
/-- read; who holds it alone so far shares it from then on -/
def wRd (i : Nat) : WE := fun ρ Q => wVar i ρ Q ∨ wEsc i ρ Q
theorem de_rd {i : Nat} (h : PE X e (tVar i)) : DE X e (wRd i) := pe_imp (pe_or (de_var h) (de_esc h)) fun σ H Q ⟨H0, ρ, Qd, r, q, k⟩ => q.imp (fun q => ⟨H0, ρ, Qd, r, q, k⟩) fun q => ⟨H0, ρ, Qd, r, q, k⟩
theorem R.own_at {K : Frg} {H0 H : Hp} {ρ : DEnv} {σ : L2.St} (r : R K H0 ρ σ H) {i : Nat} {ds : List D} (h : ρ[i]? = some (some (Slot.ow (.lst ds)))) : ∃ a vs, σ[i]? = some (some (.ref a)) ∧ H a = some (.lst vs) ∧ Reps K H vs ds ∧ H0 a = none := by
  obtain ⟨a, h1, h2, h3⟩ := r.ow i _ h
  obtain ⟨vs, h4, h5⟩ := h2
  exact ⟨a, vs, h1, h4, h5, h3⟩
/-- len(xs) -/
def wLenO (i : Nat) : WE := fun ρ Q => ∃ ds, ρ[i]? = some (some (Slot.ow (.lst ds))) ∧ Q (.int ds.length) ρ
theorem de_lenO {i : Nat} (gl : Gl X "len") (hm : X.mg "len" = none) (he : PE X e (tVar i)) (hs : starEach [e] X.env = (false, eval e X.env) :: starEach [] X.env) (hpl : (backTo pos (starEach [] X.env)).any (·.1) = false) :
    DE X (.Call (.Name "len" p) [e] [] pos) (wLenO i) := pe_imp (pe_callB call_len gl hm PySem.boot_len (pa_cons he pa_nil hs) (by decide) (by decide) hs hpl) fun σ H Q ⟨H0, ρ, Qd, r, ⟨ds, e1, q⟩, k⟩ => by
  obtain ⟨a, vs, h1, h2, h3, _⟩ := r.own_at e1
  exact ⟨_, h1, _, vs.length, rfl, .inl ⟨vs, SqL.of h2, rfl⟩, k _ _ H ρ q r (by rw [h3.length]; exact .int _) (.refl H)⟩
/-- a list of its own stands at i -/
def isOw (i : Nat) (ρ : DEnv) : Prop := ∃ ds, ρ[i]? = some (some (Slot.ow (.lst ds)))
/-- xs[k] -/
def wIxO (i : Nat) (wk : WE) : WE := fun ρ Q => isOw i ρ ∧ wk ρ fun k ρ1 => ∃ ds j d, ρ1[i]? = some (some (Slot.ow (.lst ds))) ∧ k = .int j ∧ atI ds j = some d ∧ Q d ρ1
theorem de_ixO {i : Nat} {o : Expr} {wk : WE} (ho : PE X o (tVar i)) (he : DE X e wk) (hs : PlainIx e) : DE X (.Subscript o e pos) (wIxO i wk) := pe_imp (pe_ix ix_list ho he hs) fun σ H Q ⟨H0, ρ, Qd, r, ⟨⟨ds0, e0⟩, q⟩, k⟩ => by
  obtain ⟨a0, _, hv, _⟩ := r.own_at e0
  refine ⟨_, hv, H0, ρ, _, r, q, fun y dy H1 ρ1 ⟨ds, j, d, e1, e2, e3, q1⟩ r1 p1 x1 => ?_⟩
  obtain ⟨a, vs, h1, h2, h3, _⟩ := r1.own_at e1
  rw [hv] at h1
  cases h1
  subst e2
  cases p1
  obtain ⟨u, e4, p4⟩ := h3.atI e3
  exact ⟨_, vs, j, u, rfl, rfl, SqL.of h2, e4, k u d H1 ρ1 q1 r1 p4 x1⟩
theorem own_put {i : Nat} {a : Addr} {ds ds' : List D} {vs vs' : List V} (r : R K H0 ρ σ H) (e : ρ[i]? = some (some (Slot.ow (.lst ds)))) (h1 : σ[i]? = some (some (.ref a))) (h2 : H a = some (.lst vs)) (h3 : Reps K H vs' ds') :
    R K H0 (ρ.set i (some (.ow (.lst ds')))) σ (upd H a (.lst vs')) ∧ Ev ρ σ H (ρ.set i (some (.ow (.lst ds')))) σ (upd H a (.lst vs')) := by
  have im : Imm H (upd H a (.lst vs')) := imm_upd h2 rfl
  refine ⟨r.write e h1 ⟨vs', upd_same, h3.keep im⟩, .upd_own r ⟨i, _, e, h1⟩ fun b h => own_set_ow e b h⟩
section
variable {o : Expr} {apos cpos : Pos} {wk : WE} {i : Nat}
/-- xs.append(e) -/
def wAppO (i : Nat) (we : WE) : WS := fun ρ E => isOw i ρ ∧ we ρ fun d ρ1 => ∃ ds, ρ1[i]? = some (some (Slot.ow (.lst ds))) ∧ ds.length < sizeLine ∧ E.nx (ρ1.set i (some (.ow (.lst (ds ++ [d])))))
theorem ds_appO (ho : PE X o (tVar i)) (he : DE X e we) (hs : starEach [e] X.env = (false, eval e X.env) :: starEach [] X.env) (hbase : attributeBase o "append" X.env (eval o X.env) = eval o X.env)
    (hfew : ((backTo cpos (starEach [e] X.env)).all (fun x => !x.1) && (backToKw cpos (keywordEach [] X.env)).all (fun x => x.1.isSome) && decide (([e] : List Expr).length + ([] : List Keyword).length + (if ([] : List Keyword).isEmpty then 0 else 1) < 30)) = true)
    (hline : (apos.endLine == cpos.line) = true) (hpl : (backTo cpos (starEach [] X.env)).any (·.1) = false) (hsw : swapsWith (.Call (.Attribute o "append" apos) [e] [] cpos) none pos.line X.env = pure false) :
    DS X (.Expr (.Call (.Attribute o "append" apos) [e] [] cpos) pos) (wAppO i we) :=
  ps_imp (ps_expr (pe_bm PySem.F.plainAttrs_list PySem.F.slot_list_append PySem.F.type_list_append mt_append ho (pa_cons he pa_nil hs) hbase hfew hline hs hpl) hsw) fun E σ H ⟨H0, ρ, Dd, r, ⟨⟨ds0, e0⟩, q⟩, t⟩ => by
    obtain ⟨a0, vs0, hv, hh, _, _⟩ := r.own_at e0
    refine ⟨_, hv, .inl ⟨rfl, vs0, SqL.of hh⟩, H0, ρ, _, r, q, fun y dy H1 ρ1 ⟨ds, e1, z, q1⟩ r1 p1 x1 => ?_⟩
    obtain ⟨a, vs, h1, h2, h3, _⟩ := r1.own_at e1
    rw [hv] at h1
    cases h1
    obtain ⟨r2, x2⟩ := own_put r1 e1 hv h2 (h3.append (.cons p1 .nil))
    exact ⟨_, vs, y, rfl, rfl, h2, by rw [h3.length]; exact z, t.nx _ _ _ q1 r2 (x1.trans x2)⟩
/-- xs.pop(e) -/
def wPopO (i : Nat) (we : WE) : WE := fun ρ Q => isOw i ρ ∧ we ρ fun k ρ1 => ∃ ds j m d, ρ1[i]? = some (some (Slot.ow (.lst ds))) ∧ k = .int j ∧ -(2 ^ 63) ≤ j ∧ j < 2 ^ 63 ∧ seqIndex? j ds.length = some m ∧ ds[m]? = some d ∧ Q d (ρ1.set i (some (.ow (.lst (ds.eraseIdx m)))))
theorem de_popO (ho : PE X o (tVar i)) (he : DE X e we) (hs : starEach [e] X.env = (false, eval e X.env) :: starEach [] X.env) (hbase : attributeBase o "pop" X.env (eval o X.env) = eval o X.env)
    (hfew : ((backTo cpos (starEach [e] X.env)).all (fun x => !x.1) && (backToKw cpos (keywordEach [] X.env)).all (fun x => x.1.isSome) && decide (([e] : List Expr).length + ([] : List Keyword).length + (if ([] : List Keyword).isEmpty then 0 else 1) < 30)) = true)
    (hline : (apos.endLine == cpos.line) = true) (hpl : (backTo cpos (starEach [] X.env)).any (·.1) = false) : DE X (.Call (.Attribute o "pop" apos) [e] [] cpos) (wPopO i we) :=
  pe_imp (pe_bm PySem.F.plainAttrs_list PySem.F.slot_list_pop PySem.F.type_list_pop mt_popAt ho (pa_cons he pa_nil hs) hbase hfew hline hs hpl) fun σ H Q ⟨H0, ρ, Qd, r, ⟨⟨ds0, e0⟩, q⟩, k⟩ => by
    obtain ⟨a0, vs0, hv, hh, _, _⟩ := r.own_at e0
    refine ⟨_, hv, .inl ⟨rfl, vs0, SqL.of hh⟩, H0, ρ, _, r, q, fun y dy H1 ρ1 ⟨ds, j, m, d, e1, e2, b1, b2, e3, e4, q1⟩ r1 p1 x1 => ?_⟩
    obtain ⟨a, vs, h1, h2, h3, _⟩ := r1.own_at e1
    rw [hv] at h1
    cases h1
    subst e2
    cases p1
    obtain ⟨u, e5, p5⟩ := h3.get e4
    obtain ⟨r2, x2⟩ := own_put r1 e1 hv h2 (h3.erase m)
    exact ⟨_, vs, j, m, u, rfl, rfl, h2, b1, b2, by rw [h3.length]; exact e3, e5, k u d _ _ q1 r2 (p5.keep (x2.imm r1)) (x1.trans x2)⟩
/-- xs.pop() -/
def wPopL (i : Nat) : WE := fun ρ Q => ∃ ds d, ρ[i]? = some (some (Slot.ow (.lst (ds ++ [d])))) ∧ Q d (ρ.set i (some (.ow (.lst ds))))
theorem de_popL (ho : PE X o (tVar i)) (hbase : attributeBase o "pop" X.env (eval o X.env) = eval o X.env) (hline : (apos.endLine == cpos.line) = true) : DE X (.Call (.Attribute o "pop" apos) [] [] cpos) (wPopL i) :=
  pe_imp (pe_bm0 PySem.F.plainAttrs_list PySem.F.slot_list_pop PySem.F.type_list_pop mt_pop ho hbase hline) fun σ H Q ⟨H0, ρ, Qd, r, ⟨ds, d, e1, q⟩, k⟩ => by
    obtain ⟨a, vs, hv, h2, h3, _⟩ := r.own_at e1
    have hl : vs.length = ds.length + 1 := by rw [h3.length, List.length_append]; rfl
    obtain ⟨u, e5, p5⟩ := h3.get (i := ds.length) (d := d) (by rw [List.getElem?_append_right (Nat.le_refl _), Nat.sub_self]; rfl)
    have h4 : Reps X.K H vs.dropLast ds := by
      have q := h3.take ds.length
      rw [List.take_append_of_le_length (Nat.le_refl _), List.take_length] at q
      rw [List.dropLast_eq_take, hl]
      exact q
    obtain ⟨r2, x2⟩ := own_put r e1 hv h2 h4
    exact ⟨_, hv, .inl ⟨rfl, vs, SqL.of h2⟩, a, vs, u, rfl, rfl, h2, by rw [hl]; exact e5, k u d _ _ q r2 (p5.keep (x2.imm r)) x2⟩
/-- sep.join(texts) -/
def textsD : List D → Option (List Str)
  | [] => some []
  | .str x :: r => (textsD r).map (x :: ·)
  | _ :: _ => none
theorem textsD_eq : ∀ {ds : List D} {ys : List Str}, textsD ds = some ys → ds = ys.map D.str
  | [], ys, h => by cases h; rfl
  | .str x :: r, ys, h => by
    obtain ⟨z, e, rfl⟩ := Option.map_eq_some_iff.mp (show (textsD r).map (x :: ·) = some ys from h)
    rw [textsD_eq e]
    rfl
  | .non :: _, _, h => by cases h
  | .bl _ :: _, _, h => by cases h
  | .int _ :: _, _, h => by cases h
  | .tup _ :: _, _, h => by cases h
  | .lst _ :: _, _, h => by cases h
  | .dct _ _ :: _, _, h => by cases h
  | .well :: _, _, h => by cases h
def wJoin (wa wb : WE) : WE := fun ρ Q => wa ρ fun s ρ1 => ∃ a, s = .str a ∧ wb ρ1 fun y ρ2 => ∃ ds ys, (y = .lst ds ∨ y = .tup ds) ∧ textsD ds = some ys ∧ (ys.map (·.length)).sum + ys.length * a.length ≤ 16777216 ∧ Q (.str (Txt.join a ys)) ρ2
theorem de_join {wa : WE} (ho : DE X o wa) (he : DE X e we) (hs : starEach [e] X.env = (false, eval e X.env) :: starEach [] X.env) (hbase : attributeBase o "join" X.env (eval o X.env) = eval o X.env)
    (hfew : ((backTo cpos (starEach [e] X.env)).all (fun x => !x.1) && (backToKw cpos (keywordEach [] X.env)).all (fun x => x.1.isSome) && decide (([e] : List Expr).length + ([] : List Keyword).length + (if ([] : List Keyword).isEmpty then 0 else 1) < 30)) = true)
    (hline : (apos.endLine == cpos.line) = true) (hpl : (backTo cpos (starEach [] X.env)).any (·.1) = false) : DE X (.Call (.Attribute o "join" apos) [e] [] cpos) (wJoin wa we) :=
  pe_imp (pe_bm PySem.F.plainAttrs_str PySem.F.slot_str_join PySem.F.type_str_join mt_join ho (pa_cons he pa_nil hs) hbase hfew hline hs hpl) fun σ H Q ⟨H0, ρ, Qd, r, q, k⟩ =>
    ⟨H0, ρ, _, r, q, fun v dv H1 ρ1 ⟨a, ea, q1⟩ r1 p1 x1 => by
      subst ea
      cases p1
      refine ⟨rfl, H0, ρ1, _, r1, q1, fun y dy H2 ρ2 ⟨ds, ys, e2, e3, z, q2⟩ r2 p2 x2 => ?_⟩
      rw [textsD_eq e3] at e2
      rcases e2 with e2 | e2
      · subst e2
        cases p2 with
        | lst h4 h5 =>
          rw [h5.strs] at h4
          exact ⟨a, _, ys, rfl, rfl, .inl h4.seq, z, k _ _ H2 ρ2 q2 r2 (.str _) (x1.trans x2)⟩
      · subst e2
        cases p2 with
        | tup h4 h5 =>
          rw [h5.strs] at h4
          exact ⟨a, _, ys, rfl, rfl, .inr h4, z, k _ _ H2 ρ2 q2 r2 (.str _) (x1.trans x2)⟩⟩
end
inductive Ty where
  | int | bool | str | tuple | list | dict
def Ty.nm : Ty → String
  | .int => "int" | .bool => "bool" | .str => "str" | .tuple => "tuple" | .list => "list" | .dict => "dict"
def isB : Ty → D → Bool
  | .int, .int _ => true
  | .int, .bl _ => true
  | .bool, .bl _ => true
  | .str, .str _ => true
  | .tuple, .tup _ => true
  | .list, .lst _ => true
  | .dict, .dct _ _ => true
  | _, _ => false
def tyN : D → String
  | .non => "NoneType" | .bl _ => "bool" | .int _ => "int" | .str _ => "str" | .tup _ => "tuple" | .lst _ => "list" | .dct _ _ => "dict" | .well => "list"
def Ty.all : List Ty := [.int, .bool, .str, .tuple, .list, .dict]
theorem kit_tab : ∀ t : Ty, kitB "NoneType" t.nm = some false ∧ kitB "bool" t.nm = some (isB t (.bl true)) ∧ kitB "int" t.nm = some (isB t (.int 0)) ∧ kitB "str" t.nm = some (isB t (.str "")) ∧ kitB "tuple" t.nm = some (isB t (.tup [])) ∧
    kitB "list" t.nm = some (isB t (.lst [])) ∧ kitB "dict" t.nm = some (isB t (.dct [] [])) := fun t => by
  cases t <;> decide +kernel
theorem kit_isB (t : Ty) (d : D) (h : d ≠ .well) : kitB (tyN d) t.nm = some (isB t d) := by
  obtain ⟨h1, h2, h3, h4, h5, h6, h7⟩ := kit_tab t
  cases d with
  | non => cases t <;> exact h1
  | bl b => cases t <;> exact h2
  | int i => cases t <;> exact h3
  | str x => cases t <;> exact h4
  | tup ds => cases t <;> exact h5
  | lst ds => cases t <;> exact h6
  | dct ks vs => cases t <;> exact h7
  | well => exact absurd rfl h
theorem tyX_of {v : V} {d : D} (p : Rep K H v d) (h : d ≠ .well) (h2 : ∀ ks vs, d ≠ .dct ks vs) : TyX K H v (.type (tyN d)) := by
  cases p with
  | non => exact .base .non
  | bl b => exact .base (.bl b)
  | int i => exact .base (.int i)
  | str x => exact .base (.str x)
  | tup hh r =>
    rcases hh with (h | ⟨o, h⟩) | ⟨o, its, n, h, hc, _⟩
    · exact .base (.tup h)
    · exact .fTuple h
    · exact .kTuple h hc
  | lst hh r =>
    rcases hh with ⟨o, h⟩ | ⟨its, n, h, _⟩
    · exact .base (.frz h)
    · exact .kList h rfl
  | dct h r => exact absurd rfl (h2 _ _)
  | well h => exact absurd rfl h
def wIsi (t : Ty) (we : WE) : WE := fun ρ Q => we ρ fun d ρ1 => d ≠ .well ∧ (∀ ks vs, d ≠ .dct ks vs) ∧ Q (.bl (isB t d)) ρ1
theorem de_isi {t : Ty} {y : Str} {p2 : Pos} (he : DE X e we) (gl : Gl X "isinstance") (hm : X.mg "isinstance" = none) (gl2 : Gl X y) (hm2 : X.mg y = none) (hv : bootBuiltins y = some (.type t.nm)) (hn : y ≠ "__name__") (hdb : (y == ("__debug__" : Str)) = false)
    (hs : starEach [e, .Name y p2] X.env = (false, eval e X.env) :: starEach [.Name y p2] X.env) (hs2 : starEach [.Name y p2] X.env = (false, eval (.Name y p2) X.env) :: starEach [] X.env) (hpl : (backTo pos (starEach [.Name y p2] X.env)).any (·.1) = false) :
    DE X (.Call (.Name "isinstance" p) [e, .Name y p2] [] pos) (wIsi t we) :=
  pe_imp (pe_callB call_isi gl hm (by decide +kernel) (pa_cons he (pa_cons (pe_bltn (v := .ty t.nm) gl2 hm2 hv rfl hn hdb) pa_nil hs2) hs) (by decide) (by decide) hs hpl) fun σ H Q ⟨H0, ρ, Qd, r, q, k⟩ =>
    ⟨H0, ρ, _, r, q, fun v d H1 ρ1 ⟨h1, h2, q1⟩ r1 p1 x1 => ⟨v, .ty t.nm, .type (tyN d), .type t.nm, isB t d, rfl, .ty _, tyX_of p1 h1 h2, kit_ty (kit_isB t d h1), k _ _ H1 ρ1 q1 r1 (.bl _) x1⟩⟩
def bRepr : B1 := fun ds Q => ∃ d es, ds = [d] ∧ (d = .lst es ∨ d = .tup es) ∧ d.good 60 = true ∧ d.py.showable = true ∧ d.py.hasDict = false ∧ d.py.shown.length ≤ sizeLine ∧ Q (.str d.py.shown)
def rRepr (K : Frg) : List V → Hp → VK → Prop := fun xs H Q => ∃ a d, xs = [.ref a] ∧ Dp K H (.ref a) d ∧ d.depth ≤ 60 ∧ d.showable = true ∧ d.hasDict = false ∧ d.shown.length ≤ sizeLine ∧ Q (.str d.shown) H
theorem call_repr (hg : X.A.guards = some []) (hu : X.A.units + 64 < cLine) : CallR X (.builtin "repr") (rRepr X.K) := by
  intro pins s σ H xs us Q I r h
  obtain ⟨a, d, rfl, dp, hd, hs, hk, hz, q⟩ := h
  obtain ⟨u, rfl, ru⟩ := r.one
  cases (show u = Value.ref a from ru)
  obtain ⟨as, rd⟩ := Dp.reads I d _ _ dp rfl
  refine repr_of_reads' rd hs (fun z => by rw [hk] at z; cases z) hg (by omega) (fun _ _ z => z) (fun h' u tk kp => ?_) hz
  exact ⟨.str d.shown, H, I.kept (t' := tk) kp, ⟨_, rfl⟩, q⟩
theorem b_repr : B1Ok K (rRepr K) bRepr := fun vs H ds Qd Q p ⟨d, es, e1, e2, g, s1, s2, z, q⟩ k => by
  subst e1
  cases p with
  | cons p1 p2 =>
    cases p2
    have dp := p1.dp 60 g
    have dd := good_depth 60 d g
    rcases e2 with e2 | e2
    · subst e2
      cases p1 with
      | lst h r => exact ⟨_, _, rfl, dp, dd, s1, s2, z, k _ _ H q (Same.refl H) (.str _)⟩
    · subst e2
      cases p1 with
      | tup h r => exact ⟨_, _, rfl, dp, dd, s1, s2, z, k _ _ H q (Same.refl H) (.str _)⟩
end
end DL
namespace DL
open PySem PySem.Spec PyProof.Rows L2
section
variable {X : Cx} {K : Frg} {H0 Hs H H' : Hp} {ρ ρ' : DEnv} {σ σ' : L2.St} {e : Expr} {es : List Expr} {pos : Pos} {was : WA} {wa wb wc we : WE}
def VOk (K : Frg) (Hs H : Hp) (ρ : DEnv) (σ : L2.St) (v : V) : Bool → D → Prop
  | false, d => Rep K H v d
  | true, d => ∃ a, v = .ref a ∧ OwnAt K H a d ∧ Hs a = none ∧ ¬ Own ρ σ a
def slotK : Bool → D → Slot
  | false, d => .sh d
  | true, d => .ow d
inductive Mix (K : Frg) (Hs H : Hp) (ρ : DEnv) (σ : L2.St) : List V → List Bool → List D → Prop where
  | nil : Mix K Hs H ρ σ [] [] []
  | cons {v : V} {k : Bool} {d : D} {vs : List V} {ks : List Bool} {ds : List D} (h : VOk K Hs H ρ σ v k d) (n : k = true → ∀ (j : Nat) (u : V), vs[j]? = some u → ks[j]? = some true → u ≠ v) (r : Mix K Hs H ρ σ vs ks ds) : Mix K Hs H ρ σ (v :: vs) (k :: ks) (d :: ds)
theorem VOk.keep {v : V} {k : Bool} {d : D} (r : R K H0 ρ σ H) (x : Ev ρ σ H ρ' σ H') (h : VOk K Hs H ρ σ v k d) : VOk K Hs H' ρ' σ v k d := by
  cases k with
  | false => exact Rep.keep (x.imm r) h
  | true =>
    obtain ⟨a, e1, e2, e3, e4⟩ := h
    obtain ⟨o, q, _⟩ := e2.some
    refine ⟨a, e1, e2.keep (x.imm r) ((x.stay a o q e4).trans q.symm), e3, fun z => ?_⟩
    rcases x.own a z with z | z
    · exact e4 z
    · rw [q] at z
      cases z
theorem VOk.since {v : V} {k : Bool} {d : D} {Hr : Hp} (b : ∀ a, Hs a = none → Hr a = none) (h : VOk K Hs H ρ σ v k d) : VOk K Hr H ρ σ v k d := by
  cases k with
  | false => exact h
  | true =>
    obtain ⟨a, e1, e2, e3, e4⟩ := h
    exact ⟨a, e1, e2, b a e3, e4⟩
theorem Mix.since {Hr : Hp} (b : ∀ a, Hs a = none → Hr a = none) {vs : List V} {ks : List Bool} {ds : List D} (m : Mix K Hs H ρ σ vs ks ds) : Mix K Hr H ρ σ vs ks ds := by
  induction m with
  | nil => exact .nil
  | cons h n r ih => exact .cons (h.since b) n ih
theorem Mix.ownAt {vs : List V} {ks : List Bool} {ds : List D} (m : Mix K Hs H ρ σ vs ks ds) : ∀ (j : Nat) (u : V), vs[j]? = some u → ks[j]? = some true → ∃ a, u = .ref a ∧ Hs a = none := by
  induction m with
  | nil => intro j u h; cases h
  | @cons v k d vs ks ds h n r ih =>
    intro j u e1 e2
    cases j with
    | zero =>
      cases e1
      cases e2
      obtain ⟨a, q1, _, q3, _⟩ := h
      exact ⟨a, q1, q3⟩
    | succ j => exact ih j u e1 e2
def tDX (K : Frg) (ks : List Bool) (w : WA) : TA := fun σ H Q => ∃ H0 ρ Qd, R K H0 ρ σ H ∧ w ρ Qd ∧ ∀ vs ds H' ρ', Qd ds ρ' → R K H0 ρ' σ H' → Mix K H H' ρ' σ vs ks ds → Ev ρ σ H ρ' σ H' → Q vs H'
abbrev DX (X : Cx) (es : List Expr) (ks : List Bool) (w : WA) : Prop := PA X es (tDX X.K ks w)
theorem dx_nil : DX X [] [] wNil := pa_imp pa_nil fun σ H Q ⟨H0, ρ, Qd, r, q, k⟩ => k [] [] H ρ q r .nil (.refl H)
theorem dx_sh {ks : List Bool} (ha : DE X e wa) (hr : DX X es ks was) (hs : starEach (e :: es) X.env = (false, eval e X.env) :: starEach es X.env) : DX X (e :: es) (false :: ks) (wCons wa was) :=
  pa_imp (pa_cons ha hr hs) fun σ H Q ⟨H0, ρ, Qd, r, q, k⟩ => ⟨H0, ρ, _, r, q, fun v d H1 ρ1 q1 r1 p1 x1 => ⟨H0, ρ1, _, r1, q1, fun vs ds H2 ρ2 q2 r2 m2 x2 =>
    k _ _ H2 ρ2 q2 r2 (.cons (VOk.keep (k := false) r1 x2 p1) (fun z => by cases z) (m2.since fun a n => x1.back n)) (x1.trans x2)⟩⟩
theorem dx_ow {ks : List Bool} (ha : DF X e wa) (hr : DX X es ks was) (hs : starEach (e :: es) X.env = (false, eval e X.env) :: starEach es X.env) : DX X (e :: es) (true :: ks) (wCons wa was) :=
  pa_imp (pa_cons ha hr hs) fun σ H Q ⟨H0, ρ, Qd, r, q, k⟩ => ⟨H0, ρ, _, r, q, fun a d H1 ρ1 q1 r1 p1 al x1 => ⟨H0, ρ1, _, r1, q1, fun vs ds H2 ρ2 q2 r2 m2 x2 => by
    have vk : VOk X.K H H1 ρ1 σ (.ref a) true d := ⟨a, rfl, p1, al.1, al.2⟩
    obtain ⟨o, qo, _⟩ := p1.some
    refine k _ _ H2 ρ2 q2 r2 (.cons (vk.keep r1 x2) (fun _ j u e1 e2 z => ?_) (m2.since fun a n => x1.back n)) (x1.trans x2)
    obtain ⟨b, e3, e4⟩ := m2.ownAt j u e1 e2
    rw [e3] at z
    cases z
    rw [qo] at e4
    cases e4⟩⟩
theorem R.setK {i : Nat} {v : V} {k : Bool} {d : D} (rs : Same H0 Hs) (r : R K H0 ρ σ H) (h : VOk K Hs H ρ σ v k d) : R K H0 (ρ.set i (some (slotK k d))) (σ.set i (some v)) H := by
  cases k with
  | false => exact r.set h
  | true =>
    obtain ⟨a, rfl, e2, e3, e4⟩ := h
    refine r.setAlone (H1 := H) ?_ e2 e4
    cases q : H0 a with
    | none => rfl
    | some o =>
      rw [rs a o q] at e3
      cases e3
theorem ev_setK {i : Nat} {v : V} {k : Bool} {d : D} {ρs : DEnv} {σs : L2.St} (x : Ev ρs σs Hs ρ σ H) (h : VOk K Hs H ρ σ v k d) : Ev ρs σs Hs (ρ.set i (some (slotK k d))) (σ.set i (some v)) H := by
  cases k with
  | false => exact x.trans ev_setS
  | true =>
    obtain ⟨a, rfl, e2, e3, e4⟩ := h
    exact ⟨fun b o => (own_setO o).elim (fun e => .inr (e ▸ e3)) (x.own b), x.stay, x.dom⟩
theorem VOk.past {i : Nat} {v u : V} {k l : Bool} {d f : D} (h : VOk K Hs H ρ σ v k d) (g : VOk K Hs H ρ σ u l f) (n : k = true → l = true → u ≠ v) : VOk K Hs H (ρ.set i (some (slotK k d))) (σ.set i (some v)) u l f := by
  cases l with
  | false => exact g
  | true =>
    obtain ⟨b, rfl, g2, g3, g4⟩ := g
    refine ⟨b, rfl, g2, g3, fun z => ?_⟩
    cases k with
    | false => exact g4 (own_setS z)
    | true =>
      obtain ⟨a, rfl, _⟩ := h
      rcases own_setO z with z | z
      · exact n rfl rfl (by rw [z])
      · exact g4 z
/-- a, b = e, f -/
def wPar (i j : Nat) (k l : Bool) (was : WA) : WS := fun ρ E => was ρ fun ds ρ1 => ∃ d f, ds = [d, f] ∧ E.nx ((ρ1.set i (some (slotK k d))).set j (some (slotK l f)))
theorem ds_par {i j : Nat} {k l : Bool} {x y : Str} {a b : Expr} {px py pt : Pos} {kt k2 : Nat} {pt2 : Pos} (hc : X.calm = true) (hN : X.N.Nodup) (hi : X.N[i]? = some x) (hj : X.N[j]? = some y) (hij : i ≠ j)
    (hx : X.env.scope.names.lookup x = some .local) (hy : X.env.scope.names.lookup y = some .local) (ha : DX X [a, b] [k, l] was)
    (hw : swappedStores [.Tuple [.Name x px, .Name y py] kt pt] (.Tuple [a, b] k2 pt2) X.env = pure (some [x, y])) (hs : swapsWithSole [.Tuple [.Name x px, .Name y py] kt pt] (.Tuple [a, b] k2 pt2) pos.line X.env = pure false) :
    DS X (.Assign [.Tuple [.Name x px, .Name y py] kt pt] (.Tuple [a, b] k2 pt2) pos) (wPar i j k l was) := ps_imp (ps_par hc hN hi hj hij hx hy ha hw hs) fun E σ H ⟨H0, ρ, Dd, r, q, t⟩ =>
  ⟨H0, ρ, _, r, q, fun vs ds H1 ρ1 ⟨d, f, e1, q1⟩ r1 m1 x1 => by
    subst e1
    cases m1 with
    | @cons v _ _ vs _ _ h1 n1 m2 =>
      cases m2 with
      | @cons u _ _ vs2 _ _ h2 n2 m3 =>
        cases m3
        have n : k = true → l = true → u ≠ v := fun z1 z2 => n1 z1 0 u rfl (by rw [z2]; rfl)
        have r2 := r1.setK (i := i) r.same h1
        have h2' := h1.past (i := i) h2 n
        exact ⟨v, u, rfl, t.nx _ _ _ q1 (r2.setK (i := j) r.same h2') (ev_setK (ev_setK x1 h1) h2')⟩⟩
/-- a, b, c = e, f, g -/
def wPar3 (i j m : Nat) (k l n : Bool) (was : WA) : WS := fun ρ E => was ρ fun ds ρ1 => ∃ d f g, ds = [d, f, g] ∧ E.nx (((ρ1.set i (some (slotK k d))).set j (some (slotK l f))).set m (some (slotK n g)))
theorem ds_par3 {i j m : Nat} {k l n : Bool} {x y z : Str} {a b c : Expr} {px py pz pt : Pos} {kt k2 : Nat} {pt2 : Pos} (hc : X.calm = true) (hN : X.N.Nodup) (hi : X.N[i]? = some x) (hj : X.N[j]? = some y) (hm : X.N[m]? = some z) (hij : i ≠ j) (him : i ≠ m) (hjm : j ≠ m)
    (hx : X.env.scope.names.lookup x = some .local) (hy : X.env.scope.names.lookup y = some .local) (hz : X.env.scope.names.lookup z = some .local) (ha : DX X [a, b, c] [k, l, n] was)
    (hw : swappedStores [.Tuple [.Name x px, .Name y py, .Name z pz] kt pt] (.Tuple [a, b, c] k2 pt2) X.env = pure (some [x, y, z])) (hs : swapsWithSole [.Tuple [.Name x px, .Name y py, .Name z pz] kt pt] (.Tuple [a, b, c] k2 pt2) pos.line X.env = pure false) :
    DS X (.Assign [.Tuple [.Name x px, .Name y py, .Name z pz] kt pt] (.Tuple [a, b, c] k2 pt2) pos) (wPar3 i j m k l n was) := ps_imp (ps_par3 hc hN hi hj hm hij him hjm hx hy hz ha hw hs) fun E σ H ⟨H0, ρ, Dd, r, q, t⟩ =>
  ⟨H0, ρ, _, r, q, fun vs ds H1 ρ1 ⟨d, f, g, e1, q1⟩ r1 m1 x1 => by
    subst e1
    cases m1 with
    | @cons v _ _ vs _ _ h1 n1 m2 =>
      cases m2 with
      | @cons u _ _ vs2 _ _ h2 n2 m3 =>
        cases m3 with
        | @cons y3 _ _ vs3 _ _ h3 n3 m4 =>
          cases m4
          have n12 : k = true → l = true → u ≠ v := fun z1 z2 => n1 z1 0 u rfl (by rw [z2]; rfl)
          have n13 : k = true → n = true → y3 ≠ v := fun z1 z2 => n1 z1 1 y3 rfl (by rw [z2]; rfl)
          have n23 : l = true → n = true → y3 ≠ u := fun z1 z2 => n2 z1 0 y3 rfl (by rw [z2]; rfl)
          have r2 := r1.setK (i := i) r.same h1
          have h2' := h1.past (i := i) h2 n12
          have h3' := h1.past (i := i) h3 n13
          have r3 := r2.setK (i := j) r.same h2'
          have h3'' := h2'.past (i := j) h3' n23
          exact ⟨v, u, y3, rfl, t.nx _ _ _ q1 (r3.setK (i := m) r.same h3'') (ev_setK (ev_setK (ev_setK x1 h1) h2') h3'')⟩⟩
def wStar (wa : WE) (was : WA) : WA := fun ρ Q => wa ρ fun d ρ1 => ∃ ds, (d = .tup ds ∨ d = .lst ds) ∧ was ρ1 fun es ρ2 => Q (ds ++ es) ρ2
theorem da_star {p : Pos} (ha : DE X e wa) (hr : DA X es was) (hs : starEach (.Starred e p :: es) X.env = (true, eval e X.env) :: starEach es X.env) : DA X (.Starred e p :: es) (wStar wa was) := ⟨fun pos pins s σ H Q I ⟨H0, ρ, Qd, r, q, k⟩ => by
  refine PySem.W.items_star (thn (ha.run pins s σ H (fun v H1 => ∃ a xs, v = .ref a ∧ (SqT X.K H1 a xs ∨ SqL X.K H1 a xs) ∧ tDA X.K was σ H1 fun ys H2 => Q (xs ++ ys) H2) I ⟨H0, ρ, _, r, q, fun v d H1 ρ1 ⟨ds, e1, q1⟩ r1 p1 x1 => ?_⟩) fun u s1 ⟨v, H1, I1, ru, a, xs, ev, hx, h⟩ => ?_) hs
  · have fin : ∀ {xs : List V}, Reps X.K H1 xs ds → tDA X.K was σ H1 fun ys H2 => Q (xs ++ ys) H2 := fun {xs} px => ⟨H0, ρ1, _, r1, q1, fun ys es H2 ρ2 q2 r2 p2 x2 => k _ _ H2 ρ2 q2 r2 ((px.keep (x2.imm r1)).append p2) (x1.trans x2)⟩
    rcases e1 with rfl | rfl
    · cases p1 with
      | tup h px => exact ⟨_, _, rfl, .inl h, fin px⟩
    · cases p1 with
      | lst h px => exact ⟨_, _, rfl, .inr h.seq, fin px⟩
  · subst ev
    cases (show u = Value.ref a from ru)
    refine StX.star_any I1 hx fun us s2 I2 rv => ?_
    exact thn (hr.run pos pins s2 σ H1 _ I2 h) fun vs s3 ⟨ys, H2, I3, r3, q3⟩ => ⟨xs ++ ys, H2, I3, rv.append r3, q3⟩⟩
variable {o o' : O2} {r r' : R2}
theorem chain_of (hk : O2Ok X.K r o) (hk' : O2Ok X.K r' o') : ∀ σ H Q, tD X.K (wChain o o' wa wb wc) σ H Q → tChain r r' (tD X.K wa) (tD X.K wb) (tD X.K wc) σ H Q := fun σ H Q ⟨H0, ρ, Qd, r0, q, k⟩ =>
  ⟨H0, ρ, _, r0, q, fun v d H1 ρ1 q1 r1 p1 x1 => ⟨H0, ρ1, _, r1, q1, fun u f H2 ρ2 q2 r2 p2 x2 => hk v u H2 d f _ _ (p1.keep (x2.imm r1)) p2 q2 fun z dz H3 ⟨b, ez, qz⟩ s3 pz => by
    subst ez
    refine ⟨b, rep_bl pz, ?_⟩
    have r3 := r2.grow s3
    have x3 := (x1.trans x2).trans (.of s3)
    cases b with
    | false => rw [if_neg (by decide)] at qz ⊢; exact k _ _ H3 ρ2 qz r3 (.bl false) x3
    | true =>
      rw [if_pos rfl] at qz ⊢
      exact ⟨H0, ρ2, _, r3, qz, fun y g H4 ρ4 q4 r4 p4 x4 => hk' u y H4 f g _ _ ((p2.keep (.of s3)).keep (x4.imm r3)) p4 q4 fun t dt H5 q5 s5 p5 => k _ _ H5 ρ4 q5 (r4.grow s5) p5 ((x3.trans x4).trans (.of s5))⟩⟩⟩
theorem de_chain {a b c : Expr} {op op' : CmpOp} (ho : OpR X (compareOp op) r) (hk : O2Ok X.K r o) (ho' : OpR X (compareOp op') r') (hk' : O2Ok X.K r' o') (ha : DE X a wa) (hb : DE X b wb) (hc : DE X c wc) (hm : lastMarks [op, op'] [b, c] = false) :
    DE X (.Compare a [op, op'] [b, c] pos) (wChain o o' wa wb wc) := pe_imp (pe_chain ho ho' ha hb hc hm) (chain_of hk hk')
theorem dt_chain {a b c : Expr} {op op' : CmpOp} (ho : OpR X (compareOp op) r) (hk : O2Ok X.K r o) (ho' : OpR X (compareOp op') r') (hk' : O2Ok X.K r' o') (ha : DE X a wa) (hb : DE X b wb) (hc : DE X c wc) (hm : lastMarks [op, op'] [b, c] = false) :
    DT X (.Compare a [op, op'] [b, c] pos) (wTB (wChain o o' wa wb wc)) := pt_imp (pt_chain ho ho' ha hb hc hm) fun σ H Q ⟨H0, ρ, Qd, r0, q, k⟩ =>
  chain_of hk hk' σ H _ ⟨H0, ρ, _, r0, q, fun v d H1 ρ1 ⟨b, e, q1⟩ r1 p1 x1 => by subst e; exact ⟨b, rep_bl p1, k b H1 ρ1 q1 r1 x1⟩⟩
end
end DL
namespace DL
open PySem PySem.Spec PyProof.Rows L2
section
variable {X : Cx} {K : Frg} {H0 Hs H H' : Hp} {ρ ρ' : DEnv} {σ σ' : L2.St} {e : Expr} {es : List Expr} {pos : Pos} {was : WA} {wa wb wc we : WE}
theorem fz_obj {pins : List (Addr × Obj)} {s : Shared} {a : Addr} {vs : List V} (I : Inv X pins σ H s) (h : FzL X.K H a vs) : ∃ (its : List Value) (n : Nat), Vals vs its ∧ vs.length ≤ sizeLine ∧ s.heap.get? a = some { cls := .type "list", data := .seq its.toArray n } := by
  rcases h with ⟨o, h⟩ | ⟨its, n, h, hz, rv⟩
  · obtain ⟨_, z, its, n, rv, e⟩ := (show ObjOk X.prog X.w H s.heap a (.frz o (.lst vs)) from I.hok a _ h)
    exact ⟨its, n, rv, z, e⟩
  · refine ⟨its.toList, n, rv, ?_, by simpa using I.kIn a _ h⟩
    have e := rv.length
    simp only [Array.length_toList] at e
    omega
def rCatS (K : Frg) : R2 := fun x y H Q => ∃ l b xs zs, x = .ref l ∧ y = .ref b ∧ FzL K H l xs ∧ FzL K H b zs ∧ xs.length + zs.length ≤ sizeLine ∧ ∀ p, H p = none → Q (.ref p) (upd H p (.lst (xs ++ zs)))
theorem op_catS : OpR X (binaryOp .Add) (rCatS X.K) := by
  intro pins s σ H x y v u Q I rx ry h
  obtain ⟨l, b, xs, zs, rfl, rfl, h1, h2, hz, q⟩ := h
  cases rx
  cases ry
  obtain ⟨its, n, r, z, e⟩ := fz_obj I h1
  obtain ⟨its2, n2, r2, z2, e2⟩ := fz_obj I h2
  have hl := r.length
  have hl2 := r2.length
  refine PySem.P.add_list e e2 ?_ (by rw [List.size_toArray, List.size_toArray]; omega)
  have ea : its.toArray ++ its2.toArray = (its ++ its2).toArray := by simp
  rw [ea]
  exact ⟨.ref _, _, I.lnew (t' := s.toks) (r.append r2) (by rw [List.length_append]; omega), rfl, q _ I.fresh⟩
def oCat : O2
  | .lst a, .lst b, Q => a.length + b.length ≤ sizeLine ∧ Q (.lst (a ++ b))
  | _, _, _ => False
theorem o2_cat : O2F K (rCatS K) oCat := fun x y H dx dy Qd Q px py q k => by
  cases px with
  | lst h1 r1 =>
    cases py with
    | lst h2 r2 =>
      refine ⟨_, _, _, _, rfl, rfl, h1, h2, by rw [r1.length, r2.length]; exact q.1, fun p hp => ?_⟩
      exact k p _ _ q.2 (same_upd hp) hp ⟨_, upd_same, (r1.append r2).keep (.of (same_upd hp))⟩
    | _ => exact q.elim
  | _ => exact q.elim
theorem df_cat {a b : Expr} (ha : DE X a wa) (hb : DE X b wb) : DF X (.BinOp a .Add b pos) (w2 oCat wa wb) := df_op op_catS o2_cat ha hb
/-- what a name of the top stands for -/
def GC (K : Frg) (mg : Str → Option Value) (x : Str) (d : D) : Prop := ∃ v u, mg x = some u ∧ RelV v u ∧ ∀ H, Rep K H v d
theorem de_glob {x : Str} {d : D} (h : GC X.K X.mg x d) (gl : Gl X x) (hd : (x == ("__debug__" : Str)) = false) : DE X (.Name x pos) (wC d) := by
  obtain ⟨v, u, e, r, p⟩ := h
  exact de_c (pe_glob gl e r hd) p
theorem gc_int {mg : Str → Option Value} {x : Str} {i : Int} {t : Tok} (h : mg x = some (.int i t)) : GC K mg x (.int i) := ⟨.int i, _, h, ⟨t, rfl⟩, fun _ => .int i⟩
theorem gc_str {mg : Str → Option Value} {x z : Str} {t : Tok} (h : mg x = some (.str z t)) : GC K mg x (.str z) := ⟨.str z, _, h, ⟨t, rfl⟩, fun _ => .str z⟩
theorem gc_tup {mg : Str → Option Value} {x : Str} {a : Addr} {vs : List V} {ds : List D} (h : mg x = some (.ref a)) (t : ∀ H, SqT K H a vs) (r : ∀ H, Reps K H vs ds) : GC K mg x (.tup ds) := ⟨.ref a, _, h, rfl, fun H => .tup (t H) (r H)⟩
end
end DL
namespace DL
open PySem PySem.Spec PyProof.Rows L2
section
variable {X : Cx} {K : Frg} {H0 Hs H H' : Hp} {ρ ρ' : DEnv} {σ σ' : L2.St} {e a b : Expr} {es : List Expr} {pos : Pos} {was : WA} {wa wb wc we : WE}
/-- a new list among the results is known to all from then on -/
theorem pe_lockMaybe {t : TE} (h : PE X e t) : PE X e (fun σ H Q => t σ H fun v H1 => Q v H1 ∨ ∃ (a : Addr) (o : HO), v = .ref a ∧ H1 a = some o ∧ Mut (some o) ∧ ∀ ob, Q v (upd H1 a (.frz ob o))) := ⟨fun pins s σ H Q I hw => by
  refine thn (h.run pins s σ H _ I hw) fun u s' q => ?_
  obtain ⟨v, H1, I1, r, q⟩ := q
  rcases q with q | ⟨a, o, ev, ea, mu, k⟩
  · exact ⟨v, H1, I1, r, q⟩
  · obtain ⟨ob, I2⟩ := I1.lock ea mu
    exact ⟨v, _, I2, r, k ob⟩⟩
def RepM (K : Frg) (H H' : Hp) (v : V) (d : D) : Prop := Rep K H' v d ∨ ∃ a, v = .ref a ∧ H a = none ∧ OwnAt K H' a d
theorem lockM {v : V} {d : D} {ρs : DEnv} {Qd : D → DEnv → Prop} {Q : VK} {Hs : Hp} (r : R K H0 ρ σ H) (x : Ev ρs σ Hs ρ σ H) (s : Same H H') (p : RepM K H H' v d) (q : Qd d ρ)
    (k : ∀ v d H' ρ', Qd d ρ' → R K H0 ρ' σ H' → Rep K H' v d → Ev ρs σ Hs ρ' σ H' → Q v H') : Q v H' ∨ ∃ (a : Addr) (o : HO), v = .ref a ∧ H' a = some o ∧ Mut (some o) ∧ ∀ ob, Q v (upd H' a (.frz ob o)) := by
  have r2 := r.grow s
  have x2 := x.trans (.of s)
  rcases p with p | ⟨a, rfl, n, p⟩
  · exact .inl (k v d H' ρ q r2 p x2)
  · have al := alone_new r x n
    obtain ⟨o, e1, e2, e3⟩ := r2.lockNew p (r.none0 n) al.2
    exact .inr ⟨a, o, rfl, e1, e2, fun ob => k _ d _ ρ q (e3 ob).1 (e3 ob).2 (x2.upd_new al.1)⟩
def O2M (K : Frg) (r : R2) (o : O2) : Prop := ∀ (x y : V) (H : Hp) (dx dy : D) (Qd : D → Prop) (Q : VK), Rep K H x dx → Rep K H y dy → o dx dy Qd → (∀ v d H', Qd d → Same H H' → RepM K H H' v d → Q v H') → r x y H Q
theorem de_opM {op : Operator} {r : R2} {o : O2} (ho : OpR X (binaryOp op) r) (hk : O2M X.K r o) (ha : DE X a wa) (hb : DE X b wb) : DE X (.BinOp a op b pos) (w2 o wa wb) := pe_imp (pe_lockMaybe (pe_op ho ha hb)) fun σ H Q ⟨H0, ρ, Qd, r0, q, k⟩ =>
  ⟨H0, ρ, _, r0, q, fun v d H1 ρ1 q1 r1 p1 x1 => ⟨H0, ρ1, _, r1, q1, fun u f H2 ρ2 q2 r2 p2 x2 => hk v u H2 d f _ _ (p1.keep (x2.imm r1)) p2 q2 fun y g H3 q3 s3 p3 => lockM r2 (x1.trans x2) s3 p3 q3 k⟩⟩
/-- a + b: ints, texts, tuples, lists -/
def oAddA : O2
  | .lst a, .lst b, Q => a.length + b.length ≤ sizeLine ∧ Q (.lst (a ++ b))
  | x, y, Q => oAdd x y Q
theorem o2_addA : O2M K (fun x y H Q => rAdd3 K x y H Q ∨ rCatS K x y H Q) oAddA := fun x y H dx dy Qd Q px py q k => by
  by_cases h : (∃ a b, dx = .lst a ∧ dy = .lst b)
  · obtain ⟨a, b, rfl, rfl⟩ := h
    exact .inr (o2_cat x y H _ _ Qd Q px py q fun p d H' q' s n o => k _ d H' q' s (.inr ⟨p, rfl, n, o⟩))
  · refine .inl (o2_add x y H dx dy Qd Q px py ?_ fun v d H' q' s p => k v d H' q' s (.inl p))
    unfold oAddA at q
    split at q
    · exact absurd ⟨_, _, rfl, rfl⟩ h
    · exact q
theorem de_add (ha : DE X a wa) (hb : DE X b wb) : DE X (.BinOp a .Add b pos) (w2 oAddA wa wb) := de_opM (op_add3.or op_catS) o2_addA ha hb
/-- x[i:j]: tuples, texts, lists -/
def oSlA : D → Option Int → Option Int → (D → Prop) → Prop
  | .lst ds, i, j, Q => Q (.lst (cutD ds i j))
  | x, i, j, Q => oSl x i j Q
theorem de_slA {lo hi : Option Expr} {wl wu : WO} {p2 : Pos} (he : DE X e wa) (hl : PO X lo (tDO X.K wl)) (hu : PO X hi (tDO X.K wu)) : DE X (.Subscript e (.Slice lo hi none p2) pos) (wSl oSlA wa wl wu) :=
  pe_imp (pe_lockMaybe (pe_slice (sl_list.or (sl_str.or sl_tupA)) he hl hu)) fun σ H Q ⟨H0, ρ, Qd, r0, q, k⟩ =>
    ⟨H0, ρ, _, r0, q, fun v d H1 ρ1 q1 r1 p1 x1 => ⟨H0, ρ1, _, r1, q1, fun i H2 ρ2 q2 r2 x2 => ⟨H0, ρ2, _, r2, q2, fun j H3 ρ3 q3 r3 x3 => by
      have p3 := p1.keep ((x2.trans x3).imm r1)
      have x13 := (x1.trans x2).trans x3
      have fin : ∀ {w : V} {g : D} {H4 : Hp}, Qd g ρ3 → Same H3 H4 → RepM X.K H3 H4 w g → (Q w H4 ∨ ∃ (a : Addr) (o : HO), w = .ref a ∧ H4 a = some o ∧ Mut (some o) ∧ ∀ ob, Q w (upd H4 a (.frz ob o))) := fun {w g H4} qg s p => lockM r3 x13 s p qg k
      clear p1
      cases p3 <;> first | exact q3.elim | skip
      · exact .inr (.inl ⟨_, rfl, q3.1, fin q3.2 (Same.refl _) (.inl (.str _))⟩)
      · rename_i a vs ds h r
        have hl := r.length
        refine .inr (.inr ⟨a, vs, rfl, h, fun e => ?_, fun _ p hp => ?_⟩)
        · have ec : cutD ds i j = ds := by
            rw [hl] at e
            unfold cutD
            rw [e.1, e.2]
            simp
          have q' : Qd (.tup (cutD ds i j)) ρ3 := q3
          rw [ec] at q'
          exact fin q' (Same.refl _) (.inl (.tup h r))
        · exact fin q3 (same_upd hp) (.inl (.tup (.of upd_same) ((r.cut i j).keep (.of (same_upd hp)))))
      · rename_i a vs ds h r
        exact .inl ⟨a, vs, rfl, h.seq, fun p hp => fin q3 (same_upd hp) (.inr ⟨p, rfl, hp, _, upd_same, (r.cut i j).keep (.of (same_upd hp))⟩)⟩⟩⟩⟩
theorem lookup_flip {c : Str → NameKind → Bool} (hc : ∀ n k, c n k = true → k = .free) : ∀ {l : List (Str × NameKind)} {x : Str}, (l.lookup x = some .cell → (l.map fun (n, k) => if c n k then (n, NameKind.cell) else (n, k)).lookup x = some .cell) ∧
    (l.lookup x = some .free → (l.map fun (n, k) => if c n k then (n, NameKind.cell) else (n, k)).lookup x = some .cell ∨ (l.map fun (n, k) => if c n k then (n, NameKind.cell) else (n, k)).lookup x = some .free)
  | [], x => ⟨fun h => (by cases h), fun h => (by cases h)⟩
  | (n, k) :: r, x => by
    have ih := lookup_flip hc (l := r) (x := x)
    rw [List.map_cons]
    cases hx : x == n with
    | true =>
      by_cases z : c n k = true
      · have e : (if c n k = true then (n, NameKind.cell) else (n, k)) = (n, NameKind.cell) := if_pos z
        have lk : List.lookup x ((n, NameKind.cell) :: List.map (fun (n, k) => if c n k then (n, NameKind.cell) else (n, k)) r) = some .cell := by rw [List.lookup_cons, hx]
        exact ⟨fun _ => by rw [← lk]; exact congrArg _ (congrArg (· :: _) e), fun _ => .inl (by rw [← lk]; exact congrArg _ (congrArg (· :: _) e))⟩
      · have e : (if c n k = true then (n, NameKind.cell) else (n, k)) = (n, k) := if_neg z
        have lk : List.lookup x ((n, k) :: List.map (fun (n, k) => if c n k then (n, NameKind.cell) else (n, k)) r) = some k := by rw [List.lookup_cons, hx]
        have l0 : List.lookup x ((n, k) :: r) = some k := by rw [List.lookup_cons, hx]
        rw [l0]
        exact ⟨fun h => by rw [← h, ← lk]; exact congrArg _ (congrArg (· :: _) e), fun h => .inr (by rw [← h, ← lk]; exact congrArg _ (congrArg (· :: _) e))⟩
    | false =>
      have l0 : List.lookup x ((n, k) :: r) = List.lookup x r := by rw [List.lookup_cons, hx]
      have l1 : ∀ q : Str × NameKind, q.1 = n → List.lookup x (q :: List.map (fun (n, k) => if c n k then (n, NameKind.cell) else (n, k)) r) = List.lookup x (List.map (fun (n, k) => if c n k then (n, NameKind.cell) else (n, k)) r) := fun q hq => by
        obtain ⟨q1, q2⟩ := q
        cases hq
        rw [List.lookup_cons, hx]
      have l2 := l1 (if c n k = true then (n, NameKind.cell) else (n, k)) (by split <;> rfl)
      rw [l0]
      exact ⟨fun h => l2.trans (ih.1 h), fun h => (ih.2 h).imp l2.trans l2.trans⟩
theorem blk_in {N : List Str} {sc scope : Scope} {own : List (Str × Nat)} {cl : List (Str × Addr)} {C : Addr} {env : Env} (ok : BlkOk N sc scope own) : BlkOk N (compEnvC sc cl C env).scope scope own :=
  ⟨ok.kind, ok.uniq, ok.ix, fun y hy e => by
    have lf := lookup_flip (c := fun n k => k == NameKind.free && env.scope.kind == .function && env.kindOf n == some .cell) (fun n k z => by
      cases k <;> first | rfl | (simp at z)) (l := sc.names) (x := y.1)
    rcases ok.free y hy e with h | h
    · exact .inl (lf.1 h)
    · exact lf.2 h, ok.own⟩
end
end DL
namespace DL
open PySem PySem.Spec PyProof.Rows L2
theorem u66 {k : Nat} {A : Around} (hr : Room k A) : A.units + 66 < cLine := by have := hr.un; omega
/-- the well of a turn -/
def sPail : DSpec := fun ds Q => ∃ (ns : List Int) (t : Int), ds = [.lst (ns.map D.int), .int t] ∧ ns.length ≤ 63 ∧ 0 ≤ t ∧ t < 100 ∧ Q .well
/-- a number below top -/
def sDeal : DSpec := fun ds Q => ∃ top : Int, ds = [.well, .int top] ∧ 0 < top ∧ top < 1073741824 ∧ ∀ k : Int, 0 ≤ k → k < top → Q (.int k)
end DL
namespace DL
open PySem PySem.Spec PyProof.Rows L2
theorem cmul_r (x y : Int) : CMul (x % 2147483489) y := .inl ⟨by omega, by omega⟩
section
variable {X : Cx} {pins : List (Addr × Obj)} {σ : L2.St} {H : Hp} {s : Shared} {p : Addr}
theorem open_well (I : Inv X pins σ H s) (h : H p = some (wellO p)) : ∃ a b c : Int, Inv X pins σ (upd H p (.lst [.int a, .int b, .int c])) s := by
  obtain ⟨⟨a, b, c, t, u, v, n, e⟩, _, _⟩ := I.hok p _ h
  refine ⟨a, b, c, ?_⟩
  have z := I.write (x := p) (e := p) (o := .lst [.int a, .int b, .int c]) (t' := s.toks) (h' := s.heap) (by rw [h]; exact trivial) (.inl rfl) (fun b u _ q => q) ⟨_, e⟩
    ⟨by show 3 ≤ sizeLine; decide, [.int a t, .int b u, .int c v], n, .cons ⟨t, rfl⟩ (.cons ⟨u, rfl⟩ (.cons ⟨v, rfl⟩ .nil)), e⟩
  exact z
theorem close_well {a b c : Int} (I : Inv X pins σ H s) (h : H p = some (.lst [.int a, .int b, .int c])) : Inv X pins σ (upd H p (wellO p)) s := by
  obtain ⟨_, its, n, r, e⟩ := I.hok p _ h
  obtain ⟨t, u, v, rfl⟩ : ∃ t u v, its = [Value.int a t, .int b u, .int c v] := by
    cases r with
    | cons h1 r =>
      cases r with
      | cons h2 r =>
        cases r with
        | cons h3 r =>
          cases r
          obtain ⟨t, rfl⟩ := h1
          obtain ⟨u, rfl⟩ := h2
          obtain ⟨v, rfl⟩ := h3
          exact ⟨t, u, v, rfl⟩
  have z := I.write (x := p) (e := p) (o := wellO p) (t' := s.toks) (h' := s.heap) (by rw [h]; exact trivial) (.inl rfl) (fun b u _ q => q) ⟨_, e⟩
    ⟨⟨a, b, c, t, u, v, n, e⟩, ⟨_, e⟩, fun h1 h2 ⟨a', b', c', t', u', v', n', e'⟩ k => ⟨a', b', c', t', u', v', n', k _ e'⟩⟩
  exact z
/-- a block in which a well is looked into -/
def tWell (t : TS) : TS := fun E σ H => ∃ p, H p = some (wellO p) ∧ ∀ a b c : Int, t ⟨fun σ' H' => (∃ a b c : Int, H' p = some (.lst [.int a, .int b, .int c])) ∧ E.nx σ' (upd H' p (wellO p)), fun v H' => (∃ a b c : Int, H' p = some (.lst [.int a, .int b, .int c])) ∧ E.rt v (upd H' p (wellO p)),
  fun _ _ => False, fun _ _ => False⟩ σ (upd H p (.lst [.int a, .int b, .int c]))
theorem pss_well {sts : List Stmt} {t : TS} (h : PSs X sts t) : PSs X sts (tWell t) := ⟨fun pins s σ H E I ⟨p, hp, k⟩ => by
  obtain ⟨a, b, c, I1⟩ := open_well I hp
  refine thn (h.run pins s σ _ _ I1 (k a b c)) fun fl s' q => ?_
  rcases fl with _ | _ | _ | u
  · obtain ⟨σ', H', I2, ⟨a, b, c, e⟩, q⟩ := q
    exact ⟨σ', _, close_well I2 e, q⟩
  · obtain ⟨_, _, _, q⟩ := q
    exact q.elim
  · obtain ⟨_, _, _, q⟩ := q
    exact q.elim
  · obtain ⟨v, σ', H', I2, r, ⟨a, b, c, e⟩, q⟩ := q
    exact ⟨v, σ', _, close_well I2 e, r, q⟩⟩
/-- a statement that hands out a new well -/
def wRetW (we : WE) : WS := fun ρ E => we ρ fun d _ => ∃ a b c : Int, d = .lst [.int a, .int b, .int c] ∧ E.rt .well
theorem ds_retW {e : Expr} {we : WE} {pos : Pos} (he : DF X e we) : DS X (.Return (some e) pos) (wRetW we) := by
  have hp := ps_ret (pos := pos) he
  refine ⟨fun pins s σ H E I ⟨H0, ρ, Dd, r, q, t⟩ => ?_⟩
  refine thn (hp.run pins s σ H { E with rt := fun v H' => ∃ (p : Addr) (a b c : Int), v = .ref p ∧ H' p = some (.lst [.int a, .int b, .int c]) ∧ E.rt v (upd H' p (wellO p)) } I ⟨H0, ρ, _, r, q, fun a d H' ρ' q' r' o al x => ?_⟩) fun fl s' q => ?_
  · obtain ⟨i, j, k, rfl, q2⟩ := q'
    obtain ⟨vs, e1, e2⟩ := o
    have ev : vs = [.int i, .int j, .int k] := e2.ints (ns := [i, j, k])
    subst ev
    have h0 := r.none0 al.1
    refine ⟨a, i, j, k, rfl, e1, t.rt .well _ _ q2 (fun b o q => ?_) (.well upd_same)⟩
    rw [upd_ne (ne_of_none q h0)]
    exact r'.same b o q
  · rcases fl with _ | _ | _ | u
    · exact q
    · exact q
    · exact q
    · obtain ⟨v, σ', H', I2, ru, p, a, b, c, ev, e1, q⟩ := q
      exact ⟨v, σ', _, close_well I2 e1, ru, q⟩
end
end DL
namespace DL
open PySem PySem.Spec PyProof.Rows L2
@[simp] theorem ex2_x {α β : Sort _} {a : α} {b : β} {P : α → β → Prop} : (∃ d f, (a = d ∧ b = f) ∧ P d f) ↔ P a b := ⟨fun ⟨_, _, ⟨e1, e2⟩, h⟩ => e1 ▸ e2 ▸ h, fun h => ⟨_, _, ⟨rfl, rfl⟩, h⟩⟩
@[simp] theorem ex3_x {α β γ : Sort _} {a : α} {b : β} {c : γ} {P : α → β → γ → Prop} : (∃ d f g, (a = d ∧ b = f ∧ c = g) ∧ P d f g) ↔ P a b c := ⟨fun ⟨_, _, _, ⟨e1, e2, e3⟩, h⟩ => e1 ▸ e2 ▸ e3 ▸ h, fun h => ⟨_, _, _, ⟨rfl, rfl, rfl⟩, h⟩⟩
section
variable {ρ : DEnv} {i j m n nk : Nat} {Q : D → DEnv → Prop} {QT : Bool → DEnv → Prop} {QA : List D → DEnv → Prop} {E : EndsD} {a b c we : WE} {as bs : WA} {t u : WT} {s1 s2 : WS} {d e : D} {ds : List D} {g : WG} {gs : WGs} {wi : WI} {o : O2} {Qd : D → Prop}
@[simp] theorem wVar_x : wVar i ρ Q ↔ ∃ d, ρ[i]? = some (some (.sh d)) ∧ Q d ρ := Iff.rfl
@[simp] theorem wEsc_x : wEsc i ρ Q ↔ ∃ d, ρ[i]? = some (some (.ow d)) ∧ Q d (ρ.set i (some (.sh d))) := Iff.rfl
@[simp] theorem wRd_x : wRd i ρ Q ↔ (∃ d, ρ[i]? = some (some (.sh d)) ∧ Q d ρ) ∨ ∃ d, ρ[i]? = some (some (.ow d)) ∧ Q d (ρ.set i (some (.sh d))) := Iff.rfl
@[simp] theorem wC_x : wC d ρ Q ↔ Q d ρ := Iff.rfl
@[simp] theorem wNil_x : wNil ρ QA ↔ QA [] ρ := Iff.rfl
@[simp] theorem wCons_x : wCons a as ρ QA ↔ a ρ fun d ρ1 => as ρ1 fun ds ρ2 => QA (d :: ds) ρ2 := Iff.rfl
@[simp] theorem wStar_x : wStar a as ρ QA ↔ a ρ fun d ρ1 => ∃ ds, (d = .tup ds ∨ d = .lst ds) ∧ as ρ1 fun es ρ2 => QA (ds ++ es) ρ2 := Iff.rfl
@[simp] theorem wTup_x : wTup as ρ Q ↔ as ρ fun ds ρ1 => ds.length ≤ sizeLine ∧ Q (.tup ds) ρ1 := Iff.rfl
@[simp] theorem wLst_x : wLst as ρ Q ↔ as ρ fun ds ρ1 => ds.length ≤ sizeLine ∧ Q (.lst ds) ρ1 := Iff.rfl
@[simp] theorem w2_x : w2 o a b ρ Q ↔ a ρ fun x ρ1 => b ρ1 fun y ρ2 => o x y fun d => Q d ρ2 := Iff.rfl
@[simp] theorem wTB_x : wTB a ρ QT ↔ a ρ fun d ρ1 => ∃ k, d = .bl k ∧ QT k ρ1 := Iff.rfl
@[simp] theorem wTru_x : wTru a ρ QT ↔ a ρ fun d ρ1 => tru d fun k => QT k ρ1 := Iff.rfl
@[simp] theorem wNot_x : wNot t ρ QT ↔ t ρ fun b ρ1 => QT (!b) ρ1 := Iff.rfl
@[simp] theorem wAnd_x : wAnd t u ρ QT ↔ t ρ fun b ρ1 => if b = true then u ρ1 QT else QT false ρ1 := Iff.rfl
@[simp] theorem wOr_x : wOr t u ρ QT ↔ t ρ fun b ρ1 => if b = true then QT true ρ1 else u ρ1 QT := Iff.rfl
@[simp] theorem wAndV_x : wAndV a b ρ Q ↔ a ρ fun d ρ1 => tru d fun k => if k = true then b ρ1 Q else Q d ρ1 := Iff.rfl
@[simp] theorem wOrV_x : wOrV a b ρ Q ↔ a ρ fun d ρ1 => tru d fun k => if k = true then Q d ρ1 else b ρ1 Q := Iff.rfl
@[simp] theorem wNotV_x : wNotV a ρ Q ↔ a ρ fun d ρ1 => tru d fun k => Q (.bl (!k)) ρ1 := Iff.rfl
@[simp] theorem wNeg_x : wNeg a ρ Q ↔ a ρ fun d ρ1 => ∃ i, d = .int i ∧ Q (.int (-i)) ρ1 := Iff.rfl
@[simp] theorem wIf_x : wIf t a b ρ Q ↔ t ρ fun c ρ1 => if c = true then a ρ1 Q else b ρ1 Q := Iff.rfl
@[simp] theorem wChain_x {o' : O2} : wChain o o' a b c ρ Q ↔ a ρ fun x ρ1 => b ρ1 fun y ρ2 => o x y fun z => ∃ k, z = .bl k ∧ if k = true then c ρ2 fun w ρ3 => o' y w fun d => Q d ρ3 else Q (.bl false) ρ2 := Iff.rfl
@[simp] theorem wNoPart_x {QO : Option Int → DEnv → Prop} : wNoPart ρ QO ↔ QO none ρ := Iff.rfl
@[simp] theorem wPart_x {QO : Option Int → DEnv → Prop} : wPart a ρ QO ↔ a ρ fun d ρ1 => ∃ i, d = .int i ∧ QO (some i) ρ1 := Iff.rfl
@[simp] theorem wSl_x {os : D → Option Int → Option Int → (D → Prop) → Prop} {l r : WO} : wSl os a l r ρ Q ↔ a ρ fun x ρ1 => l ρ1 fun i ρ2 => r ρ2 fun j ρ3 => os x i j fun d => Q d ρ3 := Iff.rfl
@[simp] theorem wB_x {b : B1} : wB b as ρ Q ↔ as ρ fun ds ρ1 => b ds fun d => Q d ρ1 := Iff.rfl
@[simp] theorem wLenO_x : wLenO i ρ Q ↔ ∃ ds, ρ[i]? = some (some (.ow (.lst ds))) ∧ Q (.int ds.length) ρ := Iff.rfl
@[simp] theorem isOw_x : isOw i ρ ↔ ∃ ds, ρ[i]? = some (some (.ow (.lst ds))) := Iff.rfl
@[simp] theorem wIxO_x : wIxO i a ρ Q ↔ isOw i ρ ∧ a ρ fun k ρ1 => ∃ ds j d, ρ1[i]? = some (some (.ow (.lst ds))) ∧ k = .int j ∧ atI ds j = some d ∧ Q d ρ1 := Iff.rfl
@[simp] theorem wAppO_x : wAppO i we ρ E ↔ isOw i ρ ∧ we ρ fun d ρ1 => ∃ ds, ρ1[i]? = some (some (.ow (.lst ds))) ∧ ds.length < sizeLine ∧ E.nx (ρ1.set i (some (.ow (.lst (ds ++ [d]))))) := Iff.rfl
@[simp] theorem wPopO_x : wPopO i we ρ Q ↔ isOw i ρ ∧ we ρ fun k ρ1 => ∃ ds j m d, ρ1[i]? = some (some (.ow (.lst ds))) ∧ k = .int j ∧ -(2 ^ 63) ≤ j ∧ j < 2 ^ 63 ∧ seqIndex? j ds.length = some m ∧ ds[m]? = some d ∧ Q d (ρ1.set i (some (.ow (.lst (ds.eraseIdx m))))) := Iff.rfl
@[simp] theorem wJoin_x : wJoin a b ρ Q ↔ a ρ fun s ρ1 => ∃ x, s = .str x ∧ b ρ1 fun y ρ2 => ∃ ds ys, (y = .lst ds ∨ y = .tup ds) ∧ textsD ds = some ys ∧ (ys.map (·.length)).sum + ys.length * x.length ≤ 16777216 ∧ Q (.str (Txt.join x ys)) ρ2 := Iff.rfl
@[simp] theorem wIsi_x {ty : Ty} : wIsi ty a ρ Q ↔ a ρ fun d ρ1 => d ≠ .well ∧ (∀ ks vs, d ≠ .dct ks vs) ∧ Q (.bl (isB ty d)) ρ1 := Iff.rfl
@[simp] theorem wCall_x {S : DSpec} {idx : List Nat} {dd : List D} : wCall S m n nk idx dd as bs ρ Q ↔ as ρ fun ds ρ1 => bs ρ1 fun es ρ2 => ds.length = n ∧ es.length = nk ∧ (sel idx (ds ++ es ++ dd)).length = m ∧ S (sel idx (ds ++ es ++ dd)) fun d => Q d ρ2 := Iff.rfl
@[simp] theorem wSeq_x {QI : List D → DEnv → Prop} : wSeq a ρ QI ↔ a ρ fun d ρ1 => ∃ ds, itemsD d = some ds ∧ QI ds ρ1 := Iff.rfl
@[simp] theorem wRng1_x {QI : List D → DEnv → Prop} : wRng1 a ρ QI ↔ a ρ fun d ρ1 => ∃ n, d = .int n ∧ -(2 ^ 62) ≤ n ∧ n < 2 ^ 62 ∧ QI (rngD 0 n.toNat) ρ1 := Iff.rfl
@[simp] theorem wRng2_x {QI : List D → DEnv → Prop} : wRng2 a b ρ QI ↔ a ρ fun d ρ1 => b ρ1 fun e ρ2 => ∃ m n, d = .int m ∧ e = .int n ∧ (-(2 ^ 62) ≤ m ∧ m < 2 ^ 62 ∧ -(2 ^ 62) ≤ n ∧ n < 2 ^ 62) ∧ QI (rngD m (n - m).toNat) ρ2 := Iff.rfl
@[simp] theorem gNm_x {QG : DEnv → Prop} : gNm i d ρ QG ↔ QG (ρ.set i (some (.sh d))) := Iff.rfl
@[simp] theorem gNl_x {QG : DEnv → Prop} : gNl ds ρ QG ↔ ds = [] ∧ QG ρ := Iff.rfl
@[simp] theorem gCn_c {QG : DEnv → Prop} : gCn g gs (d :: ds) ρ QG ↔ g d ρ fun ρ1 => gs ds ρ1 QG := ⟨fun ⟨_, _, e, h⟩ => by cases e; exact h, fun h => ⟨_, _, rfl, h⟩⟩
@[simp] theorem gCn_n {QG : DEnv → Prop} : gCn g gs [] ρ QG ↔ False := ⟨fun ⟨_, _, e, _⟩ => (by cases e), False.elim⟩
@[simp] theorem gTp_t {QG : DEnv → Prop} : gTp n gs (.tup ds) ρ QG ↔ ds.length = n ∧ gs ds ρ QG := ⟨fun ⟨_, e, h⟩ => by cases e; exact h, fun h => ⟨_, rfl, h⟩⟩
@[simp] theorem wYes_x : wYes ρ QT ↔ QT true ρ := Iff.rfl
@[simp] theorem wComp_x {vs : List Nat} : wComp wi vs g t we ρ Q ↔ wi ρ fun ds ρ1 => noOw ρ1 vs ∧ compL (wipeD ρ1 vs) g t we ds [] fun acc => Q (.lst acc) ρ1 := Iff.rfl
@[simp] theorem wComp2_x {wi1 : WI} {vs vs1 : List Nat} {g1 : WG} {t1 : WT} : wComp2 wi vs g t wi1 vs1 g1 t1 we ρ Q ↔ wi ρ fun ds ρ1 => noOw ρ1 vs ∧ compL2 (wipeD ρ1 vs) g t wi1 vs1 g1 t1 we ds [] fun acc => Q (.lst acc) ρ1 := Iff.rfl
@[simp] theorem wNext_x : wNext ρ E ↔ E.nx ρ := Iff.rfl
@[simp] theorem wSq_x : wSq s1 s2 ρ E ↔ s1 ρ { E with nx := fun ρ' => s2 ρ' E } := Iff.rfl
@[simp] theorem wBreak_x : wBreak ρ E ↔ E.bk ρ := Iff.rfl
@[simp] theorem wCont_x : wCont ρ E ↔ E.ct ρ := Iff.rfl
@[simp] theorem wNever_x : wNever ρ E ↔ False := Iff.rfl
@[simp] theorem wExpr_x : wExpr we ρ E ↔ we ρ fun _ ρ1 => E.nx ρ1 := Iff.rfl
@[simp] theorem wRet_x : wRet we ρ E ↔ we ρ fun d _ => E.rt d := Iff.rfl
@[simp] theorem wRetN_x : wRetN ρ E ↔ E.rt .non := Iff.rfl
@[simp] theorem wRetW_x : wRetW we ρ E ↔ we ρ fun d _ => ∃ a b c : Int, d = .lst [.int a, .int b, .int c] ∧ E.rt .well := Iff.rfl
@[simp] theorem wIfS_x : wIfS t s1 s2 ρ E ↔ t ρ fun k ρ1 => if k = true then s1 ρ1 E else s2 ρ1 E := Iff.rfl
@[simp] theorem wAsg_x : wAsg we g ρ E ↔ we ρ fun d ρ1 => g d ρ1 E.nx := Iff.rfl
@[simp] theorem wSetO_x : wSetO i we ρ E ↔ we ρ fun d ρ1 => E.nx (ρ1.set i (some (.ow d))) := Iff.rfl
@[simp] theorem wSetF_x : wSetF i we ρ E ↔ we ρ fun d ρ1 => E.nx (ρ1.set i (some (.sh d))) := Iff.rfl
@[simp] theorem wPar_x {k l : Bool} : wPar i j k l as ρ E ↔ as ρ fun ds ρ1 => ∃ d f, ds = [d, f] ∧ E.nx ((ρ1.set i (some (slotK k d))).set j (some (slotK l f))) := Iff.rfl
@[simp] theorem wPar3_x {k l r : Bool} {h : Nat} : wPar3 i j h k l r as ρ E ↔ as ρ fun ds ρ1 => ∃ d f g, ds = [d, f, g] ∧ E.nx (((ρ1.set i (some (slotK k d))).set j (some (slotK l f))).set h (some (slotK r g))) := Iff.rfl
@[simp] theorem slotK_t : slotK true d = .ow d := rfl
@[simp] theorem slotK_f : slotK false d = .sh d := rfl
@[simp] theorem wFor_x : wFor wi g s1 ρ E ↔ wi ρ fun ds ρ1 => forL g s1 ds ρ1 E := Iff.rfl
@[simp] theorem wWhile_x : wWhile t s1 ρ E ↔ ∃ n, whileL t s1 n ρ E := Iff.rfl
@[simp] theorem runs_x {w : WS} : runs n m w ds Qd ↔ ds.length = m ∧ w (env0 n ds) { nx := fun _ => Qd .non, rt := Qd } := Iff.rfl
@[simp] theorem forL_nil : forL g s1 [] ρ E ↔ E.nx ρ := Iff.rfl
@[simp] theorem forL_cons : forL g s1 (d :: ds) ρ E ↔ g d ρ fun ρ1 => s1 ρ1 { nx := fun ρ2 => forL g s1 ds ρ2 E, rt := E.rt, bk := E.nx, ct := fun ρ2 => forL g s1 ds ρ2 E } := Iff.rfl
@[simp] theorem compL_nil {acc : List D} {QL : List D → Prop} : compL ρ g t we [] acc QL ↔ QL acc := Iff.rfl
@[simp] theorem compL_cons {acc : List D} {QL : List D → Prop} : compL ρ g t we (d :: ds) acc QL ↔ g d ρ fun ρ2 => t ρ2 fun b ρ3 => ρ3 = ρ2 ∧ if b = true then we ρ3 fun y ρ4 => ρ4 = ρ2 ∧ acc.length < sizeLine ∧ compL ρ g t we ds (acc ++ [y]) QL else compL ρ g t we ds acc QL := Iff.rfl
end
end DL
namespace DL
open PySem PySem.Spec PyProof.Rows L2
section
variable {ρ : DEnv} {E : EndsD} {we : WE} {t : WT} {s1 : WS} {g : WG} {Qd : D → Prop}
theorem forL_ind (I : List D → DEnv → Prop) (step : ∀ d rest ρ, I (d :: rest) ρ → ∀ K : DEnv → Prop, (∀ ρ', I rest ρ' → K ρ') → g d ρ fun ρ1 => s1 ρ1 { nx := K, rt := E.rt, bk := E.nx, ct := K }) (fin : ∀ ρ, I [] ρ → E.nx ρ) :
    ∀ (ds : List D) (ρ : DEnv), I ds ρ → forL g s1 ds ρ E
  | [], ρ, h => fin ρ h
  | d :: ds, ρ, h => step d ds ρ h _ fun ρ' h' => forL_ind I step fin ds ρ' h'
theorem compL_ind {Q : List D → Prop} (I : List D → List D → Prop)
    (step : ∀ d rest acc, I (d :: rest) acc → ∀ K : List D → Prop, (∀ acc', I rest acc' → K acc') → g d ρ fun ρ2 => t ρ2 fun b ρ3 => ρ3 = ρ2 ∧ if b = true then we ρ3 fun y ρ4 => ρ4 = ρ2 ∧ acc.length < sizeLine ∧ K (acc ++ [y]) else K acc)
    (fin : ∀ acc, I [] acc → Q acc) : ∀ (ds acc : List D), I ds acc → compL ρ g t we ds acc Q
  | [], acc, h => fin acc h
  | d :: ds, acc, h => step d ds acc h _ fun acc' h' => compL_ind I step fin ds acc' h'
/-- a comprehension of known items, some of them left out -/
theorem compL_map {α : Type} {Q : List D → Prop} (f h : α → D) (p : α → Bool) :
    ∀ (xs : List α) (acc : List D), acc.length + xs.length ≤ sizeLine → (∀ x ∈ xs, ∀ acc : List D, acc.length < sizeLine → ∀ K : List D → Prop, K (if p x then acc ++ [h x] else acc) → g (f x) ρ fun ρ2 => t ρ2 fun b ρ3 => ρ3 = ρ2 ∧ if b = true then we ρ3 fun y ρ4 => ρ4 = ρ2 ∧ acc.length < sizeLine ∧ K (acc ++ [y]) else K acc) →
    Q (acc ++ (xs.filter p).map h) → compL ρ g t we (xs.map f) acc Q
  | [], acc, _, _, q => by rw [List.filter_nil, List.map_nil, List.append_nil] at q; exact q
  | x :: xs, acc, z, st, q => by
    rw [List.length_cons] at z
    rw [List.map_cons]
    refine compL_cons.mpr (st x (List.mem_cons_self ..) acc (by omega) (fun acc' => compL ρ g t we (xs.map f) acc' Q) ?_)
    refine compL_map f h p xs _ (by
      split
      · rw [List.length_append, List.length_singleton]; omega
      · omega) (fun y hy => st y (List.mem_cons_of_mem _ hy)) ?_
    by_cases hp : p x = true
    · rw [if_pos hp, List.append_assoc]
      rw [List.filter_cons_of_pos hp, List.map_cons] at q
      exact q
    · rw [if_neg hp]
      rw [List.filter_cons_of_neg hp] at q
      exact q
theorem compL2_ind {Q : List D → Prop} {wi1 : WI} {vs1 : List Nat} {g1 : WG} {t1 : WT} (I : List D → List D → Prop)
    (step : ∀ d rest acc, I (d :: rest) acc → ∀ K : List D → Prop, (∀ acc', I rest acc' → K acc') → g d ρ fun ρ2 => t ρ2 fun b ρ3 => ρ3 = ρ2 ∧ if b = true then wi1 ρ3 fun es ρ4 => ρ4 = ρ2 ∧ noOw ρ2 vs1 ∧ compL (wipeD ρ2 vs1) g1 t1 we es acc K else K acc)
    (fin : ∀ acc, I [] acc → Q acc) : ∀ (ds acc : List D), I ds acc → compL2 ρ g t wi1 vs1 g1 t1 we ds acc Q
  | [], acc, h => fin acc h
  | d :: ds, acc, h => step d ds acc h _ fun acc' h' => compL2_ind I step fin ds acc' h'
theorem compL2_map {α β : Type} {Q : List D → Prop} {wi1 : WI} {vs1 : List Nat} {g1 : WG} {t1 : WT} (f : α → D) (ys : α → List β) (fy : β → D) (h : α → β → D) : ∀ (xs : List α) (acc : List D), acc.length + (xs.flatMap fun x => (ys x).map (h x)).length ≤ sizeLine →
    (∀ x ∈ xs, ∃ ρ2, (∀ K : DEnv → Prop, K ρ2 → g (f x) ρ K) ∧ (∀ K : List D → DEnv → Prop, K ((ys x).map fy) ρ2 → wi1 ρ2 K) ∧ noOw ρ2 vs1 ∧
      ∀ y ∈ ys x, ∀ acc : List D, acc.length < sizeLine → ∀ K : List D → Prop, K (acc ++ [h x y]) → g1 (fy y) (wipeD ρ2 vs1) fun ρ5 => t1 ρ5 fun b ρ6 => ρ6 = ρ5 ∧ if b = true then we ρ6 fun z ρ7 => ρ7 = ρ5 ∧ acc.length < sizeLine ∧ K (acc ++ [z]) else K acc) →
    Q (acc ++ xs.flatMap fun x => (ys x).map (h x)) → compL2 ρ g wYes wi1 vs1 g1 t1 we (xs.map f) acc Q
  | [], acc, _, _, q => by rw [List.flatMap_nil, List.append_nil] at q; exact q
  | x :: xs, acc, z, st, q => by
    obtain ⟨ρ2, h1, h2, h3, h4⟩ := st x (List.mem_cons_self ..)
    rw [List.flatMap_cons, List.length_append, List.length_map] at z
    rw [List.map_cons]
    refine h1 (fun ρ2 => wYes ρ2 _) ?_
    refine ⟨rfl, ?_⟩
    rw [if_pos rfl]
    refine h2 _ ⟨rfl, h3, ?_⟩
    refine compL_map fy (h x) (fun _ => true) (ys x) acc (by omega) (fun y hy acc hl K k => h4 y hy acc hl K (by rw [if_pos rfl] at k; exact k)) ?_
    rw [List.filter_eq_self.mpr fun _ _ => rfl]
    refine compL2_map f ys fy h xs _ (by rw [List.length_append, List.length_map]; omega) (fun y hy => st y (List.mem_cons_of_mem _ hy)) ?_
    rw [List.append_assoc]
    rw [List.flatMap_cons] at q
    exact q
theorem whileL_ind (I : Nat → DEnv → Prop) (step : ∀ n ρ, I n ρ → ∀ K : DEnv → Prop, (∀ m ρ', m < n → I m ρ' → K ρ') → t ρ fun k ρ1 => if k = true then s1 ρ1 { nx := K, rt := E.rt, bk := E.nx, ct := K } else E.nx ρ1) :
    ∀ (fuel n : Nat) (ρ : DEnv), n < fuel → I n ρ → whileL t s1 fuel ρ E
  | 0, _, _, h, _ => absurd h (Nat.not_lt_zero _)
  | fuel + 1, n, ρ, h, i => step n ρ i _ fun m ρ' hm i' => whileL_ind I step fuel m ρ' (by omega) i'
variable {i j : Int} {x y : Str} {d : D} {ds es : List D} {b : Bool}
@[simp] theorem sel_nil {α : Type} {all : List α} : sel [] all = [] := rfl
@[simp] theorem sel_c {α : Type} {k : Nat} {idx : List Nat} {all : List α} : sel (k :: idx) all = match all[k]? with | some x => x :: sel idx all | none => sel idx all := sel_cons k idx all
variable {QB : Bool → Prop}
@[simp] theorem tru_non : tru .non QB ↔ QB false := Iff.rfl
@[simp] theorem tru_bl : tru (.bl b) QB ↔ QB b := Iff.rfl
@[simp] theorem tru_int : tru (.int i) QB ↔ QB (i != 0) := Iff.rfl
@[simp] theorem tru_tup : tru (.tup ds) QB ↔ QB (!ds.isEmpty) := Iff.rfl
@[simp] theorem tru_lst : tru (.lst ds) QB ↔ QB (!ds.isEmpty) := Iff.rfl
@[simp] theorem oI_x {C : Int → Int → Prop} {f : Int → Int → D} : oI C f (.int i) (.int j) Qd ↔ C i j ∧ Qd (f i j) := Iff.rfl
@[simp] theorem oLt_i : oLt (.int i) (.int j) Qd ↔ Qd (.bl (decide (i < j))) := Iff.rfl
@[simp] theorem oLe_i : oLe (.int i) (.int j) Qd ↔ Qd (.bl (decide (i ≤ j))) := Iff.rfl
@[simp] theorem oGt_i : oGt (.int i) (.int j) Qd ↔ Qd (.bl (decide (j < i))) := Iff.rfl
@[simp] theorem oGe_i : oGe (.int i) (.int j) Qd ↔ Qd (.bl (decide (j ≤ i))) := Iff.rfl
@[simp] theorem oEq_i : oEq (.int i) (.int j) Qd ↔ Qd (.bl (decide (i = j))) := Iff.rfl
@[simp] theorem oNe_i : oNe (.int i) (.int j) Qd ↔ Qd (.bl (!decide (i = j))) := Iff.rfl
@[simp] theorem oLt_s : oLt (.str x) (.str y) Qd ↔ Qd (.bl (strLt x y)) := Iff.rfl
@[simp] theorem oEq_s : oEq (.str x) (.str y) Qd ↔ Qd (.bl (decide (x = y))) := Iff.rfl
@[simp] theorem oNe_s : oNe (.str x) (.str y) Qd ↔ Qd (.bl (!decide (x = y))) := Iff.rfl
@[simp] theorem oAdd_i : oAddA (.int i) (.int j) Qd ↔ Qd (.int (i + j)) := Iff.rfl
@[simp] theorem oAdd_s : oAddA (.str x) (.str y) Qd ↔ x.length + y.length ≤ sizeLine ∧ Qd (.str (x ++ y)) := Iff.rfl
@[simp] theorem oAdd_t : oAddA (.tup ds) (.tup es) Qd ↔ ds.length + es.length ≤ sizeLine ∧ Qd (.tup (ds ++ es)) := Iff.rfl
@[simp] theorem oAdd_l : oAddA (.lst ds) (.lst es) Qd ↔ ds.length + es.length ≤ sizeLine ∧ Qd (.lst (ds ++ es)) := Iff.rfl
@[simp] theorem oIx_l : oIx (.lst ds) (.int i) Qd ↔ ∃ d, atI ds i = some d ∧ Qd d := Iff.rfl
@[simp] theorem oIx_t : oIx (.tup ds) (.int i) Qd ↔ ∃ d, atI ds i = some d ∧ Qd d := Iff.rfl
@[simp] theorem oIx_s : oIx (.str x) (.int i) Qd ↔ x.length ≤ sizeLine ∧ ∃ c, atI x.cps.toList i = some c ∧ Qd (.str ⟨#[c]⟩) := Iff.rfl
@[simp] theorem oSl_l {k l : Option Int} : oSlA (.lst ds) k l Qd ↔ Qd (.lst (cutD ds k l)) := Iff.rfl
@[simp] theorem oSl_t {k l : Option Int} : oSlA (.tup ds) k l Qd ↔ Qd (.tup (cutD ds k l)) := Iff.rfl
@[simp] theorem bLen_l : bLen [.lst ds] Qd ↔ Qd (.int ds.length) := Iff.rfl
@[simp] theorem bLen_t : bLen [.tup ds] Qd ↔ Qd (.int ds.length) := Iff.rfl
@[simp] theorem bLen_s : bLen [.str x] Qd ↔ x.length ≤ sizeLine ∧ Qd (.int x.length) := Iff.rfl
@[simp] theorem bAbs_x : bAbs [.int i] Qd ↔ Qd (.int (if i < 0 then -i else i)) := Iff.rfl
@[simp] theorem bInt_i : bInt [.int i] Qd ↔ Qd (.int i) := Iff.rfl
@[simp] theorem bMax2_x : bMax2 [.int i, .int j] Qd ↔ Qd (.int (if j > i then j else i)) := Iff.rfl
@[simp] theorem bMin2_x : bMin2 [.int i, .int j] Qd ↔ Qd (.int (if j < i then j else i)) := Iff.rfl
@[simp] theorem bAll_x : bAll [.lst ds] Qd ↔ ∃ bs : List Bool, ds = bs.map D.bl ∧ Qd (.bl (bs.all id)) := Iff.rfl
@[simp] theorem bAny_x : bAny [.lst ds] Qd ↔ ∃ bs : List Bool, ds = bs.map D.bl ∧ Qd (.bl (bs.any id)) := Iff.rfl
@[simp] theorem bSum_x : bSum [.lst ds] Qd ↔ ∃ ns : List Int, ds = ns.map D.int ∧ Qd (.int ns.sum) := Iff.rfl
@[simp] theorem bList_l : bList [.lst ds] Qd ↔ Qd (.lst ds) := Iff.rfl
@[simp] theorem bList_t : bList [.tup ds] Qd ↔ Qd (.lst ds) := Iff.rfl
@[simp] theorem bList_s : bList [.str x] Qd ↔ x.length ≤ sizeLine ∧ Qd (.lst (signs x)) := Iff.rfl
@[simp] theorem bTuple_l : bTuple [.lst ds] Qd ↔ Qd (.tup ds) := Iff.rfl
@[simp] theorem bTuple_t : bTuple [.tup ds] Qd ↔ Qd (.tup ds) := Iff.rfl
@[simp] theorem bSorted_l : bSorted [.lst ds] Qd ↔ canSort ds ∧ Qd (.lst (sortD ds)) := Iff.rfl
@[simp] theorem bSorted_t : bSorted [.tup ds] Qd ↔ canSort ds ∧ Qd (.lst (sortD ds)) := Iff.rfl
@[simp] theorem items_l : itemsD (.lst ds) = some ds := rfl
@[simp] theorem items_t : itemsD (.tup ds) = some ds := rfl
@[simp] theorem items_s : itemsD (.str x) = some (signs x) := rfl
theorem atI_ok {α : Type} {xs : List α} {k : Nat} {v : α} (h : xs[k]? = some v) : atI xs (k : Int) = some v := L2.atI_nat h
end
end DL
namespace DL
open PySem PySem.Spec PyProof.Rows L2
mutual
def D.neat : D → Bool
  | .non => true
  | .bl _ => true
  | .int i => decide (i.natAbs < 10 ^ 12)
  | .str x => x.cps.toList.all fun c => decide (c < 16 ^ 8)
  | .tup ds => neatAll ds
  | .lst ds => neatAll ds
  | .dct _ _ => false
  | .well => false
def neatAll : List D → Bool
  | [] => true
  | d :: ds => d.neat && neatAll ds
end
mutual
def D.wt : D → Nat
  | .int _ => 41
  | .str x => x.cps.size
  | .tup ds => wtAll ds
  | .lst ds => wtAll ds
  | _ => 0
def wtAll : List D → Nat
  | [] => 0
  | d :: ds => d.wt + 1 + wtAll ds
end
mutual
theorem neat_py : ∀ d : D, d.neat = true → PyData.leavesShort 13 d.py = true ∧ d.py.showable = true ∧ d.py.hasDict = false ∧ d.py.weight ≤ d.wt
  | .non, _ => ⟨rfl, rfl, rfl, Nat.le_refl 0⟩
  | .bl _, _ => ⟨rfl, rfl, rfl, Nat.le_refl 0⟩
  | .int i, h => by
    have hi : i.natAbs < 10 ^ 12 := of_decide_eq_true h
    have lg : i.natAbs.log2 ≤ 40 := by
      by_cases z : i.natAbs = 0
      · rw [z]; decide
      · have : i.natAbs.log2 < 41 := (Nat.log2_lt z).mpr (Nat.lt_trans hi (by decide))
        omega
    refine ⟨decide_eq_true (PyData.shown_int_le hi), decide_eq_true (by omega), rfl, ?_⟩
    show (if i == 0 then 0 else i.natAbs.log2 + 1) ≤ 41
    split <;> omega
  | .str x, h => ⟨h, rfl, rfl, Nat.le_refl _⟩
  | .tup ds, h => neatAll_py ds h
  | .lst ds, h => neatAll_py ds h
theorem neatAll_py : ∀ ds : List D, neatAll ds = true → PyData.leavesShortAll 13 (pyAll ds) = true ∧ PyData.showableAll (pyAll ds) = true ∧ PyData.hasDictAll (pyAll ds) = false ∧ PyData.weightAll (pyAll ds) ≤ wtAll ds
  | [], _ => ⟨rfl, rfl, rfl, Nat.le_refl 0⟩
  | d :: ds, h => by
    have h' : (d.neat && neatAll ds) = true := h
    obtain ⟨h1, h2⟩ := Bool.and_eq_true_iff.mp h'
    obtain ⟨a1, a2, a3, a4⟩ := neat_py d h1
    obtain ⟨b1, b2, b3, b4⟩ := neatAll_py ds h2
    refine ⟨?_, ?_, ?_, ?_⟩
    · show (PyData.leavesShort 13 d.py && PyData.leavesShortAll 13 (pyAll ds)) = true
      rw [a1, b1]; rfl
    · show (d.py.showable && PyData.showableAll (pyAll ds)) = true
      rw [a2, b2]; rfl
    · show (d.py.hasDict || PyData.hasDictAll (pyAll ds)) = false
      rw [a3, b3]; rfl
    · show d.py.weight + 1 + PyData.weightAll (pyAll ds) ≤ d.wt + 1 + wtAll ds
      omega
end
theorem neatAll_iff : ∀ {ds : List D}, neatAll ds = true ↔ ∀ d ∈ ds, d.neat = true
  | [] => ⟨fun _ d h => (by cases h), fun _ => rfl⟩
  | d :: ds => by
    show (d.neat && neatAll ds) = true ↔ _
    rw [Bool.and_eq_true_iff, neatAll_iff (ds := ds)]
    simp
theorem wtAll_le {k : Nat} : ∀ {ds : List D}, (∀ d ∈ ds, d.wt + 1 ≤ k) → wtAll ds ≤ ds.length * k
  | [], _ => Nat.zero_le _
  | d :: ds, h => by
    have h1 := h d (List.mem_cons_self ..)
    have h2 := wtAll_le (k := k) (ds := ds) fun e he => h e (List.mem_cons_of_mem _ he)
    show d.wt + 1 + wtAll ds ≤ (ds.length + 1) * k
    rw [Nat.add_mul, Nat.one_mul]
    omega
theorem repr_l {ds : List D} {Q : D → Prop} (g : goodAll 59 ds = true) (n : neatAll ds = true) (w : wtAll ds ≤ 2 ^ 20) (q : Q (.str (D.lst ds).py.shown)) : bRepr [.lst ds] Q := by
  obtain ⟨a1, a2, a3, a4⟩ := neat_py (.lst ds) n
  exact ⟨_, ds, rfl, .inl rfl, g, a2, a3, PyData.shown_fits (B := 13) (by decide) (by decide) a1 (Nat.le_trans a4 w), q⟩
theorem repr_t {ds : List D} {Q : D → Prop} (g : goodAll 59 ds = true) (n : neatAll ds = true) (w : wtAll ds ≤ 2 ^ 20) (q : Q (.str (D.tup ds).py.shown)) : bRepr [.tup ds] Q := by
  obtain ⟨a1, a2, a3, a4⟩ := neat_py (.tup ds) n
  exact ⟨_, ds, rfl, .inr rfl, g, a2, a3, PyData.shown_fits (B := 13) (by decide) (by decide) a1 (Nat.le_trans a4 w), q⟩
theorem oNe_self (x : Str) {Q : D → Prop} (q : Q (.bl false)) : oNe (.str x) (.str x) Q := by
  rw [oNe_s]
  simpa using q
theorem ne_nil {ds : List D} {Q : D → Prop} (g : goodAll 7 ds = true) (q : Q (.bl (!ds.isEmpty))) : oNe (.lst ds) (.lst []) Q := by
  refine ⟨g, rfl, ?_⟩
  have e : deq (.lst ds) (.lst []) = ds.isEmpty := by
    cases ds with
    | nil => rfl
    | cons d ds => rfl
  rw [e]
  exact q
end DL
namespace DL
open PySem PySem.Spec PyProof.Rows L2
def topS (i : Nat) : Stmt := PySem.Challenge.pw_lookturns_k32_whole_offsets.main.body.getD i (.Pass ⟨0, 0, 0, 0⟩)
abbrev C_LONGEST_NAME : D := (.int 8)
abbrev C_MOST_AGES : D := (.int 600)
abbrev C_MOST_LIMIT : D := (.int 60)
abbrev C_MOST_PLACES : D := (.int 6)
abbrev C_SMALL_LETTERS : D := (.str "abcdefghijklmnopqrstuvwxyz")
def W_WORDS : List Str := ["add", "ages", "all", "at", "away", "by", "doors", "due", "every", "from", "house", "keep", "kept", "leave", "limit", "look", "lost", "may", "miss", "must", "none", "of", "place", "rest", "round", "row", "times", "to", "with"]
abbrev C_WORDS : D := .tup (W_WORDS.map D.str)
abbrev s__law_deal : Stmt := topS 38
abbrev N__law_deal : List Str := ["pail", "top", "figure", "mixed"]
abbrev P__law_deal : List Str := ["pail", "top"]
theorem sc__law_deal : FnScope N__law_deal P__law_deal (defScope s__law_deal) := ⟨rfl, rfl, rfl, by decide +kernel, rfl, by decide +kernel, by decide +kernel⟩
abbrev D__law_deal : List D := []
abbrev s__law_shuffled : Stmt := topS 40
abbrev N__law_shuffled : List Str := ["pail", "some", "left", "found", "turn"]
abbrev P__law_shuffled : List Str := ["pail", "some"]
theorem sc__law_shuffled : FnScope N__law_shuffled P__law_shuffled (defScope s__law_shuffled) := ⟨rfl, rfl, rfl, by decide +kernel, rfl, by decide +kernel, by decide +kernel⟩
abbrev D__law_shuffled : List D := []
abbrev s__law_any : Stmt := topS 39
abbrev N__law_any : List Str := ["pail", "some"]
abbrev P__law_any : List Str := ["pail", "some"]
theorem sc__law_any : FnScope N__law_any P__law_any (defScope s__law_any) := ⟨rfl, rfl, rfl, by decide +kernel, rfl, by decide +kernel, by decide +kernel⟩
abbrev D__law_any : List D := []
abbrev s__law_names : Stmt := topS 41
abbrev N__law_names : List Str := ["pail", "many", "found", "letter", "turn"]
abbrev P__law_names : List Str := ["pail", "many"]
theorem sc__law_names : FnScope N__law_names P__law_names (defScope s__law_names) := ⟨rfl, rfl, rfl, by decide +kernel, rfl, by decide +kernel, by decide +kernel⟩
abbrev D__law_names : List D := []
abbrev s__law_house : Stmt := topS 43
abbrev N__law_house : List Str := ["pail", "most", "greatest", "bound", "names", "rows", "left", "name", "limit"]
abbrev P__law_house : List Str := ["pail", "most", "greatest", "bound"]
theorem sc__law_house : FnScope N__law_house P__law_house (defScope s__law_house) := ⟨rfl, rfl, rfl, by decide +kernel, rfl, by decide +kernel, by decide +kernel⟩
abbrev D__law_house : List D := []
abbrev s__law_limits : Stmt := topS 44
abbrev N__law_limits : List Str := ["house", "place", "limit"]
abbrev P__law_limits : List Str := ["house"]
theorem sc__law_limits : FnScope N__law_limits P__law_limits (defScope s__law_limits) := ⟨rfl, rfl, rfl, by decide +kernel, rfl, by decide +kernel, by decide +kernel⟩
abbrev D__law_limits : List D := []
abbrev s__law_all_ages : Stmt := topS 45
abbrev N__law_all_ages : List Str := ["limits", "found", "limit", "longer", "ages", "age"]
abbrev P__law_all_ages : List Str := ["limits"]
theorem sc__law_all_ages : FnScope N__law_all_ages P__law_all_ages (defScope s__law_all_ages) := ⟨rfl, rfl, rfl, by decide +kernel, rfl, by decide +kernel, by decide +kernel⟩
abbrev D__law_all_ages : List D := []
abbrev s__law_common : Stmt := topS 42
abbrev N__law_common : List Str := ["one", "two"]
abbrev P__law_common : List Str := ["one", "two"]
theorem sc__law_common : FnScope N__law_common P__law_common (defScope s__law_common) := ⟨rfl, rfl, rfl, by decide +kernel, rfl, by decide +kernel, by decide +kernel⟩
abbrev D__law_common : List D := []
abbrev s__law_are_offsets : Stmt := topS 46
abbrev N__law_are_offsets : List Str := ["limits", "row", "i", "k"]
abbrev P__law_are_offsets : List Str := ["limits", "row"]
theorem sc__law_are_offsets : FnScope N__law_are_offsets P__law_are_offsets (defScope s__law_are_offsets) := ⟨rfl, rfl, rfl, by decide +kernel, rfl, by decide +kernel, by decide +kernel⟩
abbrev D__law_are_offsets : List D := []
abbrev s_is_tuple_of : Stmt := topS 13
abbrev N_is_tuple_of : List Str := ["value", "many"]
abbrev P_is_tuple_of : List Str := ["value", "many"]
theorem sc_is_tuple_of : FnScope N_is_tuple_of P_is_tuple_of (defScope s_is_tuple_of) := ⟨rfl, rfl, rfl, by decide +kernel, rfl, by decide +kernel, by decide +kernel⟩
abbrev D_is_tuple_of : List D := []
abbrev s_is_string : Stmt := topS 9
abbrev N_is_string : List Str := ["value"]
abbrev P_is_string : List Str := ["value"]
theorem sc_is_string : FnScope N_is_string P_is_string (defScope s_is_string) := ⟨rfl, rfl, rfl, by decide +kernel, rfl, by decide +kernel, by decide +kernel⟩
abbrev D_is_string : List D := []
abbrev s_is_made_of : Stmt := topS 10
abbrev N_is_made_of : List Str := ["text", "signs", "sign"]
abbrev P_is_made_of : List Str := ["text", "signs"]
theorem sc_is_made_of : FnScope N_is_made_of P_is_made_of (defScope s_is_made_of) := ⟨rfl, rfl, rfl, by decide +kernel, rfl, by decide +kernel, by decide +kernel⟩
abbrev D_is_made_of : List D := []
abbrev s_is_word : Stmt := topS 11
abbrev N_is_word : List Str := ["value"]
abbrev P_is_word : List Str := ["value"]
theorem sc_is_word : FnScope N_is_word P_is_word (defScope s_is_word) := ⟨rfl, rfl, rfl, by decide +kernel, rfl, by decide +kernel, by decide +kernel⟩
abbrev D_is_word : List D := []
abbrev s_is_name : Stmt := topS 12
abbrev N_is_name : List Str := ["value"]
abbrev P_is_name : List Str := ["value"]
theorem sc_is_name : FnScope N_is_name P_is_name (defScope s_is_name) := ⟨rfl, rfl, rfl, by decide +kernel, rfl, by decide +kernel, by decide +kernel⟩
abbrev D_is_name : List D := []
abbrev s_is_whole : Stmt := topS 7
abbrev N_is_whole : List Str := ["value"]
abbrev P_is_whole : List Str := ["value"]
theorem sc_is_whole : FnScope N_is_whole P_is_whole (defScope s_is_whole) := ⟨rfl, rfl, rfl, by decide +kernel, rfl, by decide +kernel, by decide +kernel⟩
abbrev D_is_whole : List D := []
abbrev s_is_number : Stmt := topS 8
abbrev N_is_number : List Str := ["value", "low", "high"]
abbrev P_is_number : List Str := ["value", "low", "high"]
theorem sc_is_number : FnScope N_is_number P_is_number (defScope s_is_number) := ⟨rfl, rfl, rfl, by decide +kernel, rfl, by decide +kernel, by decide +kernel⟩
abbrev D_is_number : List D := [.non]
abbrev s_is_limit : Stmt := topS 21
abbrev N_is_limit : List Str := ["value"]
abbrev P_is_limit : List Str := ["value"]
theorem sc_is_limit : FnScope N_is_limit P_is_limit (defScope s_is_limit) := ⟨rfl, rfl, rfl, by decide +kernel, rfl, by decide +kernel, by decide +kernel⟩
abbrev D_is_limit : List D := []
abbrev s_is_pair_of_house : Stmt := topS 22
abbrev N_is_pair_of_house : List Str := ["value"]
abbrev P_is_pair_of_house : List Str := ["value"]
theorem sc_is_pair_of_house : FnScope N_is_pair_of_house P_is_pair_of_house (defScope s_is_pair_of_house) := ⟨rfl, rfl, rfl, by decide +kernel, rfl, by decide +kernel, by decide +kernel⟩
abbrev D_is_pair_of_house : List D := []
abbrev s_is_ascending : Stmt := topS 14
abbrev N_is_ascending : List Str := ["value", "index"]
abbrev P_is_ascending : List Str := ["value"]
theorem sc_is_ascending : FnScope N_is_ascending P_is_ascending (defScope s_is_ascending) := ⟨rfl, rfl, rfl, by decide +kernel, rfl, by decide +kernel, by decide +kernel⟩
abbrev D_is_ascending : List D := []
abbrev s_names_of : Stmt := topS 24
abbrev N_names_of : List Str := ["house", "place", "_"]
abbrev P_names_of : List Str := ["house"]
theorem sc_names_of : FnScope N_names_of P_names_of (defScope s_names_of) := ⟨rfl, rfl, rfl, by decide +kernel, rfl, by decide +kernel, by decide +kernel⟩
abbrev D_names_of : List D := []
abbrev s_product_of : Stmt := topS 20
abbrev N_product_of : List Str := ["numbers", "found", "number"]
abbrev P_product_of : List Str := ["numbers"]
theorem sc_product_of : FnScope N_product_of P_product_of (defScope s_product_of) := ⟨rfl, rfl, rfl, by decide +kernel, rfl, by decide +kernel, by decide +kernel⟩
abbrev D_product_of : List D := []
abbrev s_limits_in : Stmt := topS 25
abbrev N_limits_in : List Str := ["house", "_", "limit"]
abbrev P_limits_in : List Str := ["house"]
theorem sc_limits_in : FnScope N_limits_in P_limits_in (defScope s_limits_in) := ⟨rfl, rfl, rfl, by decide +kernel, rfl, by decide +kernel, by decide +kernel⟩
abbrev D_limits_in : List D := []
abbrev s_is_house_form : Stmt := topS 23
abbrev N_is_house_form : List Str := ["value", "pair"]
abbrev P_is_house_form : List Str := ["value"]
theorem sc_is_house_form : FnScope N_is_house_form P_is_house_form (defScope s_is_house_form) := ⟨rfl, rfl, rfl, by decide +kernel, rfl, by decide +kernel, by decide +kernel⟩
abbrev D_is_house_form : List D := []
abbrev s_check_house : Stmt := topS 29
abbrev N_check_house : List Str := ["value"]
abbrev P_check_house : List Str := ["value"]
theorem sc_check_house : FnScope N_check_house P_check_house (defScope s_check_house) := ⟨rfl, rfl, rfl, by decide +kernel, rfl, by decide +kernel, by decide +kernel⟩
abbrev D_check_house : List D := []
abbrev s_all_below : Stmt := topS 26
abbrev N_all_below : List Str := ["limits", "found", "limit", "row", "number"]
abbrev P_all_below : List Str := ["limits"]
theorem sc_all_below : FnScope N_all_below P_all_below (defScope s_all_below) := ⟨rfl, rfl, rfl, by decide +kernel, rfl, by decide +kernel, by decide +kernel⟩
abbrev D_all_below : List D := []
abbrev s_all_ages : Stmt := topS 27
abbrev N_all_ages : List Str := ["house"]
abbrev P_all_ages : List Str := ["house"]
theorem sc_all_ages : FnScope N_all_ages P_all_ages (defScope s_all_ages) := ⟨rfl, rfl, rfl, by decide +kernel, rfl, by decide +kernel, by decide +kernel⟩
abbrev D_all_ages : List D := []
abbrev s_common_divisor : Stmt := topS 15
abbrev N_common_divisor : List Str := ["one", "two"]
abbrev P_common_divisor : List Str := ["one", "two"]
theorem sc_common_divisor : FnScope N_common_divisor P_common_divisor (defScope s_common_divisor) := ⟨rfl, rfl, rfl, by decide +kernel, rfl, by decide +kernel, by decide +kernel⟩
abbrev D_common_divisor : List D := []
abbrev s_are_apart : Stmt := topS 31
abbrev N_are_apart : List Str := ["limits", "numbers", "one", "two", "by"]
abbrev P_are_apart : List Str := ["limits", "numbers", "one", "two"]
theorem sc_are_apart : FnScope N_are_apart P_are_apart (defScope s_are_apart) := ⟨rfl, rfl, rfl, by decide +kernel, rfl, by decide +kernel, by decide +kernel⟩
abbrev D_are_apart : List D := []
abbrev s_are_offsets : Stmt := topS 32
abbrev N_are_offsets : List Str := ["house", "numbers", "limits", "pairs", "two", "one"]
abbrev P_are_offsets : List Str := ["house", "numbers"]
theorem sc_are_offsets : FnScope N_are_offsets P_are_offsets (defScope s_are_offsets) := ⟨rfl, rfl, rfl, by decide +kernel, rfl, by decide +kernel, by decide +kernel⟩
abbrev D_are_offsets : List D := []
abbrev s_all_offsets : Stmt := topS 33
abbrev N_all_offsets : List Str := ["house", "numbers"]
abbrev P_all_offsets : List Str := ["house"]
theorem sc_all_offsets : FnScope N_all_offsets P_all_offsets (defScope s_all_offsets) := ⟨rfl, rfl, rfl, by decide +kernel, rfl, by decide +kernel, by decide +kernel⟩
abbrev D_all_offsets : List D := []
abbrev s_offsets : Stmt := topS 34
abbrev N_offsets : List Str := ["house", "found"]
abbrev P_offsets : List Str := ["house"]
theorem sc_offsets : FnScope N_offsets P_offsets (defScope s_offsets) := ⟨rfl, rfl, rfl, by decide +kernel, rfl, by decide +kernel, by decide +kernel⟩
abbrev D_offsets : List D := []
abbrev s_offsets_number : Stmt := topS 35
abbrev N_offsets_number : List Str := ["house"]
abbrev P_offsets_number : List Str := ["house"]
theorem sc_offsets_number : FnScope N_offsets_number P_offsets_number (defScope s_offsets_number) := ⟨rfl, rfl, rfl, by decide +kernel, rfl, by decide +kernel, by decide +kernel⟩
abbrev D_offsets_number : List D := []
abbrev s__law_right : Stmt := topS 47
abbrev N__law_right : List Str := ["pail", "lap", "house", "limits", "every", "due", "told", "k", "row"]
abbrev P__law_right : List Str := ["pail"]
theorem sc__law_right : FnScope N__law_right P__law_right (defScope s__law_right) := ⟨rfl, rfl, rfl, by decide +kernel, rfl, by decide +kernel, by decide +kernel⟩
abbrev D__law_right : List D := []
abbrev s__law_pail : Stmt := topS 37
abbrev N__law_pail : List Str := ["script", "turn", "mixed", "cell", "own"]
abbrev P__law_pail : List Str := ["script", "turn"]
theorem sc__law_pail : FnScope N__law_pail P__law_pail (defScope s__law_pail) := ⟨rfl, rfl, rfl, by decide +kernel, rfl, by decide +kernel, by decide +kernel⟩
abbrev D__law_pail : List D := []
abbrev s_law : Stmt := topS 48
abbrev N_law : List Str := ["script", "turn"]
abbrev P_law : List Str := ["script"]
theorem sc_law : FnScope N_law P_law (defScope s_law) := ⟨rfl, rfl, rfl, by decide +kernel, rfl, by decide +kernel, by decide +kernel⟩
abbrev D_law : List D := []
/-- what the top has bound -/
structure T (K : Frg) (mg : Str → Option Value) : Prop where
  z_abs : mg "abs" = none
  z_all : mg "all" = none
  z_bool : mg "bool" = none
  z_divmod : mg "divmod" = none
  z_int : mg "int" = none
  z_isinstance : mg "isinstance" = none
  z_len : mg "len" = none
  z_list : mg "list" = none
  z_max : mg "max" = none
  z_min : mg "min" = none
  z_range : mg "range" = none
  z_repr : mg "repr" = none
  z_sorted : mg "sorted" = none
  z_str : mg "str" = none
  z_tuple : mg "tuple" = none
  c_LONGEST_NAME : GC K mg "LONGEST_NAME" C_LONGEST_NAME
  c_MOST_AGES : GC K mg "MOST_AGES" C_MOST_AGES
  c_MOST_LIMIT : GC K mg "MOST_LIMIT" C_MOST_LIMIT
  c_MOST_PLACES : GC K mg "MOST_PLACES" C_MOST_PLACES
  c_SMALL_LETTERS : GC K mg "SMALL_LETTERS" C_SMALL_LETTERS
  c_WORDS : GC K mg "WORDS" C_WORDS
  d__law_deal : ∃ f fd, mg "_law_deal" = some (.ref f) ∧ FunD K "_law_deal" "_law_deal" (defArgs s__law_deal) (defBody s__law_deal) (defScope s__law_deal) [] [] f fd
  d__law_shuffled : ∃ f fd, mg "_law_shuffled" = some (.ref f) ∧ FunD K "_law_shuffled" "_law_shuffled" (defArgs s__law_shuffled) (defBody s__law_shuffled) (defScope s__law_shuffled) [] [] f fd
  d__law_any : ∃ f fd, mg "_law_any" = some (.ref f) ∧ FunD K "_law_any" "_law_any" (defArgs s__law_any) (defBody s__law_any) (defScope s__law_any) [] [] f fd
  d__law_names : ∃ f fd, mg "_law_names" = some (.ref f) ∧ FunD K "_law_names" "_law_names" (defArgs s__law_names) (defBody s__law_names) (defScope s__law_names) [] [] f fd
  d__law_house : ∃ f fd, mg "_law_house" = some (.ref f) ∧ FunD K "_law_house" "_law_house" (defArgs s__law_house) (defBody s__law_house) (defScope s__law_house) [] [] f fd
  d__law_limits : ∃ f fd, mg "_law_limits" = some (.ref f) ∧ FunD K "_law_limits" "_law_limits" (defArgs s__law_limits) (defBody s__law_limits) (defScope s__law_limits) [] [] f fd
  d__law_all_ages : ∃ f fd, mg "_law_all_ages" = some (.ref f) ∧ FunD K "_law_all_ages" "_law_all_ages" (defArgs s__law_all_ages) (defBody s__law_all_ages) (defScope s__law_all_ages) [] [] f fd
  d__law_common : ∃ f fd, mg "_law_common" = some (.ref f) ∧ FunD K "_law_common" "_law_common" (defArgs s__law_common) (defBody s__law_common) (defScope s__law_common) [] [] f fd
  d__law_are_offsets : ∃ f fd, mg "_law_are_offsets" = some (.ref f) ∧ FunD K "_law_are_offsets" "_law_are_offsets" (defArgs s__law_are_offsets) (defBody s__law_are_offsets) (defScope s__law_are_offsets) [] [] f fd
  d_is_tuple_of : ∃ f fd, mg "is_tuple_of" = some (.ref f) ∧ FunD K "is_tuple_of" "is_tuple_of" (defArgs s_is_tuple_of) (defBody s_is_tuple_of) (defScope s_is_tuple_of) [] [] f fd
  d_is_string : ∃ f fd, mg "is_string" = some (.ref f) ∧ FunD K "is_string" "is_string" (defArgs s_is_string) (defBody s_is_string) (defScope s_is_string) [] [] f fd
  d_is_made_of : ∃ f fd, mg "is_made_of" = some (.ref f) ∧ FunD K "is_made_of" "is_made_of" (defArgs s_is_made_of) (defBody s_is_made_of) (defScope s_is_made_of) [] [] f fd
  d_is_word : ∃ f fd, mg "is_word" = some (.ref f) ∧ FunD K "is_word" "is_word" (defArgs s_is_word) (defBody s_is_word) (defScope s_is_word) [] [] f fd
  d_is_name : ∃ f fd, mg "is_name" = some (.ref f) ∧ FunD K "is_name" "is_name" (defArgs s_is_name) (defBody s_is_name) (defScope s_is_name) [] [] f fd
  d_is_whole : ∃ f fd, mg "is_whole" = some (.ref f) ∧ FunD K "is_whole" "is_whole" (defArgs s_is_whole) (defBody s_is_whole) (defScope s_is_whole) [] [] f fd
  d_is_number : ∃ f fd, mg "is_number" = some (.ref f) ∧ FunD K "is_number" "is_number" (defArgs s_is_number) (defBody s_is_number) (defScope s_is_number) [.non] [] f fd
  d_is_limit : ∃ f fd, mg "is_limit" = some (.ref f) ∧ FunD K "is_limit" "is_limit" (defArgs s_is_limit) (defBody s_is_limit) (defScope s_is_limit) [] [] f fd
  d_is_pair_of_house : ∃ f fd, mg "is_pair_of_house" = some (.ref f) ∧ FunD K "is_pair_of_house" "is_pair_of_house" (defArgs s_is_pair_of_house) (defBody s_is_pair_of_house) (defScope s_is_pair_of_house) [] [] f fd
  d_is_ascending : ∃ f fd, mg "is_ascending" = some (.ref f) ∧ FunD K "is_ascending" "is_ascending" (defArgs s_is_ascending) (defBody s_is_ascending) (defScope s_is_ascending) [] [] f fd
  d_names_of : ∃ f fd, mg "names_of" = some (.ref f) ∧ FunD K "names_of" "names_of" (defArgs s_names_of) (defBody s_names_of) (defScope s_names_of) [] [] f fd
  d_product_of : ∃ f fd, mg "product_of" = some (.ref f) ∧ FunD K "product_of" "product_of" (defArgs s_product_of) (defBody s_product_of) (defScope s_product_of) [] [] f fd
  d_limits_in : ∃ f fd, mg "limits_in" = some (.ref f) ∧ FunD K "limits_in" "limits_in" (defArgs s_limits_in) (defBody s_limits_in) (defScope s_limits_in) [] [] f fd
  d_is_house_form : ∃ f fd, mg "is_house_form" = some (.ref f) ∧ FunD K "is_house_form" "is_house_form" (defArgs s_is_house_form) (defBody s_is_house_form) (defScope s_is_house_form) [] [] f fd
  d_check_house : ∃ f fd, mg "check_house" = some (.ref f) ∧ FunD K "check_house" "check_house" (defArgs s_check_house) (defBody s_check_house) (defScope s_check_house) [] [] f fd
  d_all_below : ∃ f fd, mg "all_below" = some (.ref f) ∧ FunD K "all_below" "all_below" (defArgs s_all_below) (defBody s_all_below) (defScope s_all_below) [] [] f fd
  d_all_ages : ∃ f fd, mg "all_ages" = some (.ref f) ∧ FunD K "all_ages" "all_ages" (defArgs s_all_ages) (defBody s_all_ages) (defScope s_all_ages) [] [] f fd
  d_common_divisor : ∃ f fd, mg "common_divisor" = some (.ref f) ∧ FunD K "common_divisor" "common_divisor" (defArgs s_common_divisor) (defBody s_common_divisor) (defScope s_common_divisor) [] [] f fd
  d_are_apart : ∃ f fd, mg "are_apart" = some (.ref f) ∧ FunD K "are_apart" "are_apart" (defArgs s_are_apart) (defBody s_are_apart) (defScope s_are_apart) [] [] f fd
  d_are_offsets : ∃ f fd, mg "are_offsets" = some (.ref f) ∧ FunD K "are_offsets" "are_offsets" (defArgs s_are_offsets) (defBody s_are_offsets) (defScope s_are_offsets) [] [] f fd
  d_all_offsets : ∃ f fd, mg "all_offsets" = some (.ref f) ∧ FunD K "all_offsets" "all_offsets" (defArgs s_all_offsets) (defBody s_all_offsets) (defScope s_all_offsets) [] [] f fd
  d_offsets : ∃ f fd, mg "offsets" = some (.ref f) ∧ FunD K "offsets" "offsets" (defArgs s_offsets) (defBody s_offsets) (defScope s_offsets) [] [] f fd
  d_offsets_number : ∃ f fd, mg "offsets_number" = some (.ref f) ∧ FunD K "offsets_number" "offsets_number" (defArgs s_offsets_number) (defBody s_offsets_number) (defScope s_offsets_number) [] [] f fd
  d__law_right : ∃ f fd, mg "_law_right" = some (.ref f) ∧ FunD K "_law_right" "_law_right" (defArgs s__law_right) (defBody s__law_right) (defScope s__law_right) [] [] f fd
  d__law_pail : ∃ f fd, mg "_law_pail" = some (.ref f) ∧ FunD K "_law_pail" "_law_pail" (defArgs s__law_pail) (defBody s__law_pail) (defScope s__law_pail) [] [] f fd
  d_law : ∃ f fd, mg "law" = some (.ref f) ∧ FunD K "law" "law" (defArgs s_law) (defBody s_law) (defScope s_law) [] [] f fd
def S__law_deal : DSpec := sDeal
def w__law_shuffled : WS := (wSq (wPar 2 3 true true (wCons (wB bList (wCons (wVar 1) wNil)) (wCons (wLst wNil) wNil))) (wSq (wFor (wRng1 (wLenO 2)) (gNm 4) (wAppO 3 (wPopO 2 (wCall S__law_deal 2 2 0 [0, 1] D__law_deal (wCons (wVar 0) (wCons (wLenO 2) wNil)) wNil)))) (wRet (wRd 3))))
def S__law_shuffled : DSpec := runs 5 2 w__law_shuffled
def w__law_any : WS := (wRet (w2 oIx (wVar 1) (wCall S__law_deal 2 2 0 [0, 1] D__law_deal (wCons (wVar 0) (wCons (wB bLen (wCons (wVar 1) wNil)) wNil)) wNil)))
def S__law_any : DSpec := runs 2 2 w__law_any
def w__law_names : WS := (wSq (wSetO 2 (wLst wNil)) (wSq (wFor (wSeq (wSl oSlA (wCall S__law_shuffled 2 2 0 [0, 1] D__law_shuffled (wCons (wVar 0) (wCons (wB bList (wCons (wC (.str "abcdefghijklmnopqrstuvwxyz")) wNil)) wNil)) wNil) wNoPart (wPart (wVar 1)))) (gNm 3) (wAppO 2 (w2 oAddA (wVar 3) (wJoin (wC (.str "")) (wComp (wRng1 (wCall S__law_any 2 2 0 [0, 1] D__law_any (wCons (wVar 0) (wCons (wLst (wCons (wC (.int 0)) (wCons (wC (.int 1)) (wCons (wC (.int 2)) (wCons (wC (.int 7)) wNil))))) wNil)) wNil)) (([("turn", 4)] : List (Str × Nat)).map (·.2)) (gNm 4) wYes (wCall S__law_any 2 2 0 [0, 1] D__law_any (wCons (wVar 0) (wCons (wC (.str "bvxz")) wNil)) wNil)))))) (wRet (wRd 2))))
def S__law_names : DSpec := runs 5 2 w__law_names
def w__law_house : WS := (wSq (wPar3 4 5 6 false true false (wCons (wB bSorted (wCons (wCall S__law_names 2 2 0 [0, 1] D__law_names (wCons (wVar 0) (wCons (w2 oAddA (wC (.int 1)) (wCall S__law_deal 2 2 0 [0, 1] D__law_deal (wCons (wVar 0) (wCons (wVar 1) wNil)) wNil)) wNil)) wNil) wNil)) (wCons (wLst wNil) (wCons (wVar 3) wNil)))) (wSq (wFor (wSeq (wCall S__law_shuffled 2 2 0 [0, 1] D__law_shuffled (wCons (wVar 0) (wCons (wVar 4) wNil)) wNil)) (gNm 7) (wSq (wAsg (wB bMax2 (wCons (wC (.int 1)) (wCons (wB bMin2 (wCons (wVar 6) (wCons (w2 oAddA (wC (.int 1)) (wCall S__law_deal 2 2 0 [0, 1] D__law_deal (wCons (wVar 0) (wCons (wVar 2) wNil)) wNil)) wNil))) wNil))) (gNm 8)) (wSq (wAppO 5 (wTup (wCons (wVar 7) (wCons (wVar 8) wNil)))) (wAsg (w2 oDiv (wVar 6) (wVar 8)) (gNm 6))))) (wRet (wB bTuple (wCons (wB bSorted (wCons (wRd 5) wNil)) wNil)))))
def S__law_house : DSpec := runs 9 4 w__law_house
def w__law_limits : WS := (wRet (wB bTuple (wCons (wComp (wSeq (wVar 0)) (([("place", 1), ("limit", 2)] : List (Str × Nat)).map (·.2)) (gTp 2 (gCn (gNm 1) (gCn (gNm 2) gNl))) wYes (wVar 2)) wNil)))
def S__law_limits : DSpec := runs 3 1 w__law_limits
def w__law_all_ages : WS := (wSq (wSetF 1 (wLst (wCons (wTup wNil) wNil))) (wSq (wFor (wSeq (wVar 0)) (gNm 2) (wSq (wSetF 3 (wLst wNil)) (wSq (wFor (wSeq (wVar 1)) (gNm 4) (wAsg (w2 oAddA (wVar 3) (wComp (wRng1 (wVar 2)) (([("age", 5)] : List (Str × Nat)).map (·.2)) (gNm 5) wYes (w2 oAddA (wVar 4) (wTup (wCons (wVar 5) wNil))))) (gNm 3))) (wAsg (wVar 3) (gNm 1))))) (wRet (wVar 1))))
def S__law_all_ages : DSpec := runs 6 1 w__law_all_ages
def w__law_common : WS := (wSq (wWhile (wTB (w2 oGt (wVar 1) (wC (.int 0)))) (wPar 0 1 false false (wCons (wVar 1) (wCons (w2 oMod (wVar 0) (wVar 1)) wNil)))) (wRet (wVar 0)))
def S__law_common : DSpec := runs 2 2 w__law_common
def w__law_are_offsets : WS := (wSq (wFor (wRng1 (wB bLen (wCons (wVar 0) wNil))) (gNm 2) (wFor (wRng1 (wVar 2)) (gNm 3) (wIfS (wTB (w2 oEq (w2 oMod (w2 oSub (w2 oIx (wVar 1) (wVar 2)) (w2 oIx (wVar 1) (wVar 3))) (wCall S__law_common 2 2 0 [0, 1] D__law_common (wCons (w2 oIx (wVar 0) (wVar 2)) (wCons (w2 oIx (wVar 0) (wVar 3)) wNil)) wNil)) (wC (.int 0)))) (wRet (wC (.bl false))) wNext))) (wRet (wC (.bl true))))
def S__law_are_offsets : DSpec := runs 4 2 w__law_are_offsets
def w_is_tuple_of : WS := (wRet (wAndV (wIsi .tuple (wVar 0)) (w2 oEq (wB bLen (wCons (wVar 0) wNil)) (wVar 1))))
def S_is_tuple_of : DSpec := runs 2 2 w_is_tuple_of
def w_is_string : WS := (wRet (wIsi .str (wVar 0)))
def S_is_string : DSpec := runs 1 1 w_is_string
def w_is_made_of : WS := (wRet (wAndV (w2 oNe (wVar 0) (wC (.str ""))) (wB bAll (wCons (wComp (wSeq (wVar 0)) (([("sign", 2)] : List (Str × Nat)).map (·.2)) (gNm 2) wYes (w2 oIn (wVar 2) (wVar 1))) wNil))))
def S_is_made_of : DSpec := runs 3 2 w_is_made_of
def w_is_word : WS := (wRet (wAndV (wCall S_is_string 1 1 0 [0] D_is_string (wCons (wVar 0) wNil) wNil) (wCall S_is_made_of 2 2 0 [0, 1] D_is_made_of (wCons (wVar 0) (wCons (wC C_SMALL_LETTERS) wNil)) wNil)))
def S_is_word : DSpec := runs 1 1 w_is_word
def w_is_name : WS := (wRet (wAndV (wCall S_is_word 1 1 0 [0] D_is_word (wCons (wVar 0) wNil) wNil) (wAndV (w2 oLe (wB bLen (wCons (wVar 0) wNil)) (wC C_LONGEST_NAME)) (w2 oNotIn (wVar 0) (wC C_WORDS)))))
def S_is_name : DSpec := runs 1 1 w_is_name
def w_is_whole : WS := (wRet (wAndV (wIsi .int (wVar 0)) (wNotV (wIsi .bool (wVar 0)))))
def S_is_whole : DSpec := runs 1 1 w_is_whole
def w_is_number : WS := (wRet (wAndV (wCall S_is_whole 1 1 0 [0] D_is_whole (wCons (wVar 0) wNil) wNil) (wAndV (w2 oLe (wVar 1) (wVar 0)) (wOrV (w2 oIsN (wVar 2) (wC .non)) (w2 oLe (wVar 0) (wVar 2))))))
def S_is_number : DSpec := runs 3 3 w_is_number
def w_is_limit : WS := (wRet (wCall S_is_number 3 3 0 [0, 1, 2] D_is_number (wCons (wVar 0) (wCons (wC (.int 1)) (wCons (wC C_MOST_LIMIT) wNil))) wNil))
def S_is_limit : DSpec := runs 1 1 w_is_limit
def w_is_pair_of_house : WS := (wRet (wAndV (wCall S_is_tuple_of 2 2 0 [0, 1] D_is_tuple_of (wCons (wVar 0) (wCons (wC (.int 2)) wNil)) wNil) (wAndV (wCall S_is_name 1 1 0 [0] D_is_name (wCons (w2 oIx (wVar 0) (wC (.int 0))) wNil) wNil) (wCall S_is_limit 1 1 0 [0] D_is_limit (wCons (w2 oIx (wVar 0) (wC (.int 1))) wNil) wNil))))
def S_is_pair_of_house : DSpec := runs 1 1 w_is_pair_of_house
def w_is_ascending : WS := (wRet (wB bAll (wCons (wComp (wRng2 (wC (.int 1)) (wB bLen (wCons (wVar 0) wNil))) (([("index", 1)] : List (Str × Nat)).map (·.2)) (gNm 1) wYes (w2 oLt (w2 oIx (wVar 0) (w2 oSub (wVar 1) (wC (.int 1)))) (w2 oIx (wVar 0) (wVar 1)))) wNil)))
def S_is_ascending : DSpec := runs 2 1 w_is_ascending
def w_names_of : WS := (wRet (wComp (wSeq (wVar 0)) (([("place", 1), ("_", 2)] : List (Str × Nat)).map (·.2)) (gTp 2 (gCn (gNm 1) (gCn (gNm 2) gNl))) wYes (wVar 1)))
def S_names_of : DSpec := runs 3 1 w_names_of
def w_product_of : WS := (wSq (wAsg (wC (.int 1)) (gNm 1)) (wSq (wFor (wSeq (wVar 0)) (gNm 2) (wAsg (w2 oMul (wVar 1) (wVar 2)) (gNm 1))) (wRet (wVar 1))))
def S_product_of : DSpec := runs 3 1 w_product_of
def w_limits_in : WS := (wRet (wComp (wSeq (wVar 0)) (([("_", 1), ("limit", 2)] : List (Str × Nat)).map (·.2)) (gTp 2 (gCn (gNm 1) (gCn (gNm 2) gNl))) wYes (wVar 2)))
def S_limits_in : DSpec := runs 3 1 w_limits_in
def w_is_house_form : WS := (wSq (wIfS (wOr (wNot (wTru (wIsi .tuple (wVar 0)))) (wNot (wTB (wChain oLe oLe (wC (.int 1)) (wB bLen (wCons (wVar 0) wNil)) (wC C_MOST_PLACES))))) (wRet (wC (.bl false))) wNext) (wSq (wIfS (wOr (wNot (wTru (wB bAll (wCons (wComp (wSeq (wVar 0)) (([("pair", 1)] : List (Str × Nat)).map (·.2)) (gNm 1) wYes (wCall S_is_pair_of_house 1 1 0 [0] D_is_pair_of_house (wCons (wVar 1) wNil) wNil)) wNil)))) (wNot (wTru (wCall S_is_ascending 1 1 0 [0] D_is_ascending (wCons (wCall S_names_of 1 1 0 [0] D_names_of (wCons (wVar 0) wNil) wNil) wNil) wNil)))) (wRet (wC (.bl false))) wNext) (wRet (w2 oLe (wCall S_product_of 1 1 0 [0] D_product_of (wCons (wCall S_limits_in 1 1 0 [0] D_limits_in (wCons (wVar 0) wNil) wNil) wNil) wNil) (wC C_MOST_AGES)))))
def S_is_house_form : DSpec := runs 2 1 w_is_house_form
def w_check_house : WS := (wIfS (wNot (wTru (wCall S_is_house_form 1 1 0 [0] D_is_house_form (wCons (wVar 0) wNil) wNil))) wNever wNext)
def S_check_house : DSpec := runs 1 1 w_check_house
def w_all_below : WS := (wSq (wSetF 1 (wLst (wCons (wTup wNil) wNil))) (wSq (wFor (wSeq (wVar 0)) (gNm 2) (wSetF 1 (wComp2 (wSeq (wVar 1)) (([("row", 3), ("number", 4)] : List (Str × Nat)).map (·.2)) (gNm 3) wYes (wRng1 (wVar 2)) [4] (gNm 4) wYes (wTup (wStar (wVar 3) (wCons (wVar 4) wNil)))))) (wRet (wVar 1))))
def S_all_below : DSpec := runs 5 1 w_all_below
def w_all_ages : WS := (wRet (wCall S_all_below 1 1 0 [0] D_all_below (wCons (wCall S_limits_in 1 1 0 [0] D_limits_in (wCons (wVar 0) wNil) wNil) wNil) wNil))
def S_all_ages : DSpec := runs 1 1 w_all_ages
def w_common_divisor : WS := (wSq (wWhile (wTB (w2 oGt (wVar 1) (wC (.int 0)))) (wPar 0 1 false false (wCons (wVar 1) (wCons (w2 oMod (wVar 0) (wVar 1)) wNil)))) (wRet (wVar 0)))
def S_common_divisor : DSpec := runs 2 2 w_common_divisor
def w_are_apart : WS := (wSq (wAsg (wCall S_common_divisor 2 2 0 [0, 1] D_common_divisor (wCons (w2 oIx (wVar 0) (wVar 2)) (wCons (w2 oIx (wVar 0) (wVar 3)) wNil)) wNil) (gNm 4)) (wRet (w2 oNe (w2 oMod (w2 oIx (wVar 1) (wVar 2)) (wVar 4)) (w2 oMod (w2 oIx (wVar 1) (wVar 3)) (wVar 4)))))
def S_are_apart : DSpec := runs 5 4 w_are_apart
def w_are_offsets : WS := (wSq (wAsg (wCall S_limits_in 1 1 0 [0] D_limits_in (wCons (wVar 0) wNil) wNil) (gNm 2)) (wSq (wSetF 3 (wComp2 (wRng1 (wB bLen (wCons (wVar 2) wNil))) (([("two", 4), ("one", 5)] : List (Str × Nat)).map (·.2)) (gNm 4) wYes (wRng1 (wVar 4)) [5] (gNm 5) wYes (wTup (wCons (wVar 5) (wCons (wVar 4) wNil))))) (wRet (wB bAll (wCons (wComp (wSeq (wVar 3)) (([("one", 5), ("two", 4)] : List (Str × Nat)).map (·.2)) (gTp 2 (gCn (gNm 5) (gCn (gNm 4) gNl))) wYes (wCall S_are_apart 4 4 0 [0, 1, 2, 3] D_are_apart (wCons (wVar 2) (wCons (wVar 1) (wCons (wVar 5) (wCons (wVar 4) wNil)))) wNil)) wNil)))))
def S_are_offsets : DSpec := runs 6 2 w_are_offsets
def w_all_offsets : WS := (wRet (wComp (wSeq (wCall S_all_ages 1 1 0 [0] D_all_ages (wCons (wVar 0) wNil) wNil)) (([("numbers", 1)] : List (Str × Nat)).map (·.2)) (gNm 1) (wTru (wCall S_are_offsets 2 2 0 [0, 1] D_are_offsets (wCons (wVar 0) (wCons (wVar 1) wNil)) wNil)) (wVar 1)))
def S_all_offsets : DSpec := runs 2 1 w_all_offsets
def w_offsets : WS := (wSq (wExpr (wCall S_check_house 1 1 0 [0] D_check_house (wCons (wVar 0) wNil) wNil)) (wSq (wAsg (wCall S_all_offsets 1 1 0 [0] D_all_offsets (wCons (wVar 0) wNil) wNil) (gNm 1)) (wRet (wIf (wTru (wVar 1)) (w2 oIx (wVar 1) (wC (.int 0))) (wC .non)))))
def S_offsets : DSpec := runs 2 1 w_offsets
def w_offsets_number : WS := (wSq (wExpr (wCall S_check_house 1 1 0 [0] D_check_house (wCons (wVar 0) wNil) wNil)) (wRet (wB bLen (wCons (wCall S_all_offsets 1 1 0 [0] D_all_offsets (wCons (wVar 0) wNil) wNil) wNil))))
def S_offsets_number : DSpec := runs 1 1 w_offsets_number
def w__law_right : WS := (wSq (wFor (wRng1 (wC (.int 10))) (gNm 1) (wSq (wAsg (wCall S__law_house 4 4 0 [0, 1, 2, 3] D__law_house (wCons (wVar 0) (wCons (wC (.int 5)) (wCons (wCall S__law_any 2 2 0 [0, 1] D__law_any (wCons (wVar 0) (wCons (wLst (wCons (wC (.int 4)) (wCons (wC (.int 8)) (wCons (wC (.int 12)) wNil)))) wNil)) wNil) (wCons (wC (.int 400)) wNil)))) wNil) (gNm 2)) (wSq (wIfS (wTB (w2 oEq (wCall S__law_deal 2 2 0 [0, 1] D__law_deal (wCons (wVar 0) (wCons (wC (.int 2)) wNil)) wNil) (wC (.int 0)))) (wAsg (wB bTuple (wCons (wComp (wRng1 (wB bMin2 (wCons (wC (.int 3)) (wCons (wB bLen (wCons (wVar 2) wNil)) wNil)))) (([("k", 7)] : List (Str × Nat)).map (·.2)) (gNm 7) wYes (wTup (wCons (w2 oIx (w2 oIx (wVar 2) (wVar 7)) (wC (.int 0))) (wCons (wCall S__law_any 2 2 0 [0, 1] D__law_any (wCons (wVar 0) (wCons (wLst (wCons (wC (.int 2)) (wCons (wC (.int 4)) (wCons (wC (.int 8)) (wCons (wC (.int 6)) (wCons (wC (.int 3)) wNil)))))) wNil)) wNil) wNil)))) wNil)) (gNm 2)) wNext) (wSq (wAsg (wCall S__law_limits 1 1 0 [0] D__law_limits (wCons (wVar 2) wNil) wNil) (gNm 3)) (wSq (wSetF 4 (wComp (wSeq (wCall S__law_all_ages 1 1 0 [0] D__law_all_ages (wCons (wVar 3) wNil) wNil)) (([("row", 8)] : List (Str × Nat)).map (·.2)) (gNm 8) (wTru (wCall S__law_are_offsets 2 2 0 [0, 1] D__law_are_offsets (wCons (wVar 3) (wCons (wVar 8) wNil)) wNil)) (wVar 8))) (wSq (wAsg (wIf (wTB (w2 oNe (wVar 4) (wLst wNil))) (w2 oIx (wVar 4) (wC (.int 0))) (wC .non)) (gNm 5)) (wSq (wSetF 6 (wLst (wCons (wCall S_offsets 1 1 0 [0] D_offsets (wCons (wVar 2) wNil) wNil) (wCons (wCall S_offsets 1 0 1 [0] D_offsets wNil (wCons (wVar 2) wNil)) (wCons (wCall S_offsets_number 1 1 0 [0] D_offsets_number (wCons (wVar 2) wNil) wNil) (wCons (wCall S_offsets_number 1 0 1 [0] D_offsets_number wNil (wCons (wVar 2) wNil)) wNil)))))) (wIfS (wTB (w2 oNe (wB bRepr (wCons (wVar 6) wNil)) (wB bRepr (wCons (wLst (wCons (wVar 5) (wCons (wVar 5) (wCons (wB bLen (wCons (wVar 4) wNil)) (wCons (wB bLen (wCons (wVar 4) wNil)) wNil))))) wNil)))) (wRet (wC (.bl false))) wNext)))))))) (wRet (wC (.bl true))))
def S__law_right : DSpec := runs 9 1 w__law_right
def w__law_pail : WS := (wSq (wAsg (w2 oAddA (wC (.int 50021)) (w2 oMul (wC (.int 3089)) (wVar 1))) (gNm 2)) (wSq (wFor (wSeq (wSl oSlA (wVar 0) wNoPart (wPart (wC (.int 12))))) (gNm 3) (wAsg (w2 oMod (wB bInt (wCons (w2 oAddA (w2 oAddA (w2 oMul (wVar 2) (wC (.int 36011))) (w2 oMul (w2 oMod (wB bInt (wCons (wVar 3) wNil)) (wC (.int 2147483489))) (wC (.int 13)))) (wC (.int 7))) wNil)) (wC (.int 2147483489))) (gNm 2))) (wSq (wAsg (wIf (wTB (w2 oLt (wVar 1) (wB bLen (wCons (wVar 0) wNil)))) (wB bInt (wCons (w2 oIx (wVar 0) (wVar 1)) wNil)) (wC (.int 0))) (gNm 4)) (wSq (wAsg (w2 oMod (wB bInt (wCons (w2 oAddA (w2 oAddA (w2 oMul (wVar 2) (wC (.int 89))) (w2 oMul (w2 oMod (wVar 4) (wC (.int 2147483489))) (wC (.int 46021)))) (wC (.int 11))) wNil)) (wC (.int 2147483489))) (gNm 2)) (wRetW (wLst (wCons (wIf (wOr (wTB (w2 oLt (wVar 4) (wC (.int 0)))) (wTB (w2 oGe (wVar 4) (w2 oPow (wC (.int 10)) (wC (.int 15)))))) (wB bAbs (wCons (wVar 4) wNil)) (wC (.int 0))) (wCons (wVar 2) (wCons (wC (.int 0)) wNil)))))))))
def S__law_pail : DSpec := runs 5 2 w__law_pail
def w_law : WS := (wRet (wB bAll (wCons (wComp (wRng1 (wB bMax2 (wCons (wC (.int 2)) (wCons (wB bMin2 (wCons (wB bLen (wCons (wVar 0) wNil)) (wCons (wC (.int 3)) wNil))) wNil)))) (([("turn", 1)] : List (Str × Nat)).map (·.2)) (gNm 1) wYes (wCall S__law_right 1 1 0 [0] D__law_right (wCons (wCall S__law_pail 2 2 0 [0, 1] D__law_pail (wCons (wVar 0) (wCons (wVar 1) wNil)) wNil) wNil) wNil)) wNil)))
def S_law : DSpec := runs 2 1 w_law
section
variable {P : Program} {w : World} {K : Frg} {mg : Str → Option Value} {base : Heap}
theorem ok__law_deal (t : T K mg) : ∃ f fd, Fd P w K mg base 1 "_law_deal" f fd P__law_deal S__law_deal ∧ KB K fd P__law_deal 2 [] [0, 1] D__law_deal := by
  obtain ⟨f, fd, m, F⟩ := t.d__law_deal
  refine ⟨f, fd, ⟨m, F.kp, ?_⟩, kb_all F 2 [] [0, 1] fun _ _ _ _ _ _ us ws h1 h2 => match us, h1, ws, h2 with | [_, _], _, [], _ => rfl⟩
  refine fnG_raw (k := 0) F sc__law_deal fun cdv A outer s H vs Q E hg hr hl ⟨ds, Qd, p, ⟨top, e, h0, h1, hq⟩, kk⟩ => ?_
  subst e
  have nd := sc__law_deal.nd
  obtain ⟨a, rfl, hw⟩ : ∃ a, vs = [.ref a, .int top] ∧ H a = some (wellO a) := by
    cases p with
    | cons p1 p2 =>
      cases p2 with
      | cons p2 p3 =>
        cases p3
        cases p1 with
        | well h =>
          cases p2
          exact ⟨_, rfl, h⟩
  have fin : ∀ (H' : Hp) (k : Int), (∀ b o, b ≠ a → H b = some o → H' b = some o) → H' a = some (wellO a) → 0 ≤ k → k < top → Q (.int k) H' := fun H' k st ha k0 k1 => kk _ _ H' (hq k k0 k1) (fun b o q => by
    by_cases hb : b = a
    · subst hb
      rw [hw] at q
      cases q
      exact ha
    · exact st b o hb q) (.int k)
  refine ⟨_, pss_well (pss_cons (ps_if (pt_cmpR op_gt (pe_ix ix_list (pv 0) pe_int (fun _ _ => rfl)) pe_int (nomark _))
      (pss_cons (ps_asg (pe_callB call_divmod rfl t.z_divmod (by decide +kernel) (pa_cons (pe_ix ix_list (pv 0) pe_int (fun _ _ => rfl)) (pa_cons (pv 1) pa_nil)))
        (pg_tup rfl (pgs_cons (pg_sub (pv 0) pe_int set_list) (pgs_cons (pg_name (i := 2) nd rfl (.inl rfl)) pgs_nil)))) (pss_one (ps_ret (pv 2)))) pss_nil)
    (pss_cons (ps_asg (pe_op op_add (pe_ix ix_list (pv 0) pe_int (fun _ _ => rfl)) pe_int) (pg_sub (pv 0) pe_int set_list))
    (pss_cons (ps_set (i := 3) nd rfl (.inl rfl) (pe_op op_mod (pe_callTy call_int1 rfl t.z_int (by decide +kernel) (pa_cons (pe_op op_add (pe_op op_mul (pe_ix ix_list (pv 0) pe_int (fun _ _ => rfl)) pe_int) (pe_op op_mul pe_int (pe_ix ix_list (pv 0) pe_int (fun _ _ => rfl)))) pa_nil)) pe_int))
    (pss_cons (ps_asg (pe_op op_mod (pe_callTy call_int1 rfl t.z_int (by decide +kernel) (pa_cons (pe_op op_add (pe_op op_mul (pv 3) (pe_op op_add (pe_op op_mod (pe_callTy call_int1 rfl t.z_int (by decide +kernel) (pa_cons (pv 3) pa_nil)) pe_int) pe_int)) (pe_op op_mul pe_int (pe_ix ix_list (pv 0) pe_int (fun _ _ => rfl)))) pa_nil)) pe_int) (pg_sub (pv 0) pe_int set_list))
    (pss_one (ps_ret (pe_op op_mod (pe_callTy call_int1 rfl t.z_int (by decide +kernel) (pa_cons (pe_op op_fdiv (pe_ix ix_list (pv 0) pe_int (fun _ _ => rfl)) pe_int) pa_nil)) (pv 1)))))))), ?_⟩
  refine ⟨a, hw, fun x y z => ?_⟩
  have at0 : ∀ {H' : Hp} {i j k : Int}, H' a = some (.lst [.int i, .int j, .int k]) → SqL K H' a [.int i, .int j, .int k] := fun h => SqL.of h
  have e0 : upd H a (.lst [.int x, .int y, .int z]) a = some (.lst [.int x, .int y, .int z]) := upd_same
  refine ⟨_, rfl, a, _, _, _, rfl, rfl, SqL.of e0, rfl, _, _, rfl, rfl, _, rfl, ?_⟩
  refine ite2 (fun c => ?_) (fun c => ?_)
  · refine ⟨_, rfl, a, _, _, _, rfl, rfl, SqL.of e0, rfl, _, rfl, _, _, rfl, ⟨h0, h1⟩, fun q hq' => ?_⟩
    have nqa : q ≠ a := by
      rintro rfl
      rw [e0] at hq'
      cases hq'
    refine ⟨q, _, rfl, SqT.of upd_same, rfl, _, _, rfl, ?_⟩
    refine ⟨_, rfl, a, _, _, 0, rfl, rfl, (by rw [upd_ne nqa.symm]; exact e0), rfl, _, _, rfl, ?_⟩
    refine ⟨rfl, _, rfl, ?_⟩
    refine ⟨⟨_, _, _, upd_same⟩, fin _ _ (fun b o nb q' => ?_) upd_same (Int.emod_nonneg _ (by omega)) (Int.emod_lt_of_pos _ h0)⟩
    rw [upd_ne nb, upd_ne nb, upd_ne (by rintro rfl; rw [upd_ne nb] at hq'; rw [q'] at hq'; cases hq'), upd_ne nb]
    exact q'
  · refine ⟨_, rfl, a, _, _, _, rfl, rfl, SqL.of e0, rfl, _, _, rfl, rfl, ?_⟩
    refine ⟨_, rfl, a, _, 2, 2, rfl, rfl, e0, rfl, ?_⟩
    have e1 : ∀ {i j k : Int} {G : Hp}, upd G a (.lst [.int i, .int j, .int k]) a = some (.lst [.int i, .int j, .int k]) := upd_same
    refine ⟨_, rfl, a, _, 1, _, rfl, rfl, SqL.of upd_same, rfl, _, _, rfl, rfl, .inr ⟨by decide, by decide⟩, ?_⟩
    refine ⟨_, rfl, a, _, 2, _, rfl, rfl, SqL.of upd_same, rfl, _, _, rfl, rfl, .inl ⟨by decide, by decide⟩, _, _, rfl, rfl, .inl ⟨_, rfl, ?_⟩⟩
    refine ⟨_, _, rfl, rfl, (by show (0 : Int) < 2147483489; decide), ?_⟩
    refine ⟨_, rfl, _, rfl, .inl ⟨_, rfl, _, _, rfl, rfl, (by show (0 : Int) < 4603; decide), _, _, rfl, rfl, ?_⟩⟩
    refine ⟨_, _, rfl, rfl, cmul_r _ _, ?_⟩
    refine ⟨_, rfl, a, _, 2, _, rfl, rfl, SqL.of upd_same, rfl, _, _, rfl, rfl, .inl ⟨by decide, by decide⟩, _, _, rfl, rfl, .inl ⟨_, rfl, ?_⟩⟩
    refine ⟨_, _, rfl, rfl, (by show (0 : Int) < 2147483489; decide), ?_⟩
    refine ⟨_, rfl, a, _, 1, 1, rfl, rfl, upd_same, rfl, ?_⟩
    refine ⟨_, rfl, a, _, 1, _, rfl, rfl, SqL.of upd_same, rfl, _, _, rfl, rfl, ⟨by decide, by decide⟩, .inl ⟨_, rfl, ?_⟩⟩
    refine ⟨_, rfl, _, _, rfl, rfl, h0, ?_⟩
    refine ⟨⟨_, _, _, upd_same⟩, fin _ _ (fun b o nb q' => ?_) upd_same (Int.emod_nonneg _ (by omega)) (Int.emod_lt_of_pos _ h0)⟩
    rw [upd_ne nb, upd_ne nb, upd_ne nb, upd_ne nb]
    exact q'
theorem ok__law_shuffled (t : T K mg) : ∃ f fd, Fd P w K mg base 2 "_law_shuffled" f fd P__law_shuffled S__law_shuffled ∧ KB K fd P__law_shuffled 2 [] [0, 1] D__law_shuffled := by
  obtain ⟨f, fd, m, F⟩ := t.d__law_shuffled
  obtain ⟨_, _, G__law_deal, B__law_deal_2⟩ := ok__law_deal (P := P) (w := w) (base := base) t
  refine ⟨f, fd, ⟨m, F.kp, ?_⟩, kb_all F 2 [] [0, 1] fun _ _ _ _ _ _ us ws h1 h2 => match us, h1, ws, h2 with | [_, _], _, [], _ => rfl⟩
  refine fnG_of (k := 1) (wb := w__law_shuffled) F sc__law_shuffled fun cdv A outer s H hg hr => ?_
  exact (db_cons (ds_par (i := 2) (j := 3) rfl sc__law_shuffled.nd rfl rfl (by decide) rfl rfl (dx_ow (df_bty (call_list3 rfl) b_list rfl t.z_list (by decide +kernel) (da_cons (de_var (pv 1)) da_nil rfl) (by decide) (by decide) rfl rfl) (dx_ow (df_lst da_nil) dx_nil rfl) rfl) rfl rfl) (db_cons (ds_for PassesOwn.never rfl (di_rng1 rfl t.z_range (de_lenO rfl t.z_len (pv 2) rfl rfl) rfl) (dg_name (pg_name (i := 4) sc__law_shuffled.nd rfl (by first | exact .inl rfl | exact .inr rfl) (by first | exact .inl rfl | exact .inr rfl))) (db_one (ds_appO (pv 3) (de_popO (pv 2) (de_call G__law_deal B__law_deal_2 hg (hr.mono (by decide)) rfl (da_cons (de_var (pv 0)) (da_cons (de_lenO rfl t.z_len (pv 2) rfl rfl) da_nil rfl) rfl) (by decide) rfl rfl rfl) rfl rfl rfl rfl rfl) rfl rfl rfl rfl rfl rfl)) (fun _ => rfl)) (db_one (ds_ret (de_rd (pv 3))))))
theorem ok__law_any (t : T K mg) : ∃ f fd, Fd P w K mg base 2 "_law_any" f fd P__law_any S__law_any ∧ KB K fd P__law_any 2 [] [0, 1] D__law_any := by
  obtain ⟨f, fd, m, F⟩ := t.d__law_any
  obtain ⟨_, _, G__law_deal, B__law_deal_2⟩ := ok__law_deal (P := P) (w := w) (base := base) t
  refine ⟨f, fd, ⟨m, F.kp, ?_⟩, kb_all F 2 [] [0, 1] fun _ _ _ _ _ _ us ws h1 h2 => match us, h1, ws, h2 with | [_, _], _, [], _ => rfl⟩
  refine fnG_of (k := 1) (wb := w__law_any) F sc__law_any fun cdv A outer s H hg hr => ?_
  exact (db_one (ds_ret (de_ix (de_var (pv 1)) (de_call G__law_deal B__law_deal_2 hg (hr.mono (by decide)) rfl (da_cons (de_var (pv 0)) (da_cons (de_blt call_len b_len rfl t.z_len (by decide +kernel) (da_cons (de_var (pv 1)) da_nil rfl) (by decide) (by decide) rfl rfl) da_nil rfl) rfl) (by decide) rfl rfl rfl) (fun _ _ => rfl))))
theorem ok__law_names (t : T K mg) : ∃ f fd, Fd P w K mg base 3 "_law_names" f fd P__law_names S__law_names ∧ KB K fd P__law_names 2 [] [0, 1] D__law_names := by
  obtain ⟨f, fd, m, F⟩ := t.d__law_names
  obtain ⟨_, _, G__law_shuffled, B__law_shuffled_2⟩ := ok__law_shuffled (P := P) (w := w) (base := base) t
  obtain ⟨_, _, G__law_any, B__law_any_2⟩ := ok__law_any (P := P) (w := w) (base := base) t
  refine ⟨f, fd, ⟨m, F.kp, ?_⟩, kb_all F 2 [] [0, 1] fun _ _ _ _ _ _ us ws h1 h2 => match us, h1, ws, h2 with | [_, _], _, [], _ => rfl⟩
  refine fnG_of (k := 2) (wb := w__law_names) F sc__law_names fun cdv A outer s H hg hr => ?_
  exact (db_cons (ds_setO (i := 2) sc__law_names.nd rfl (by first | exact .inl rfl | exact .inr rfl) (df_lst da_nil) rfl (by first | exact .inl rfl | exact .inr rfl)) (db_cons (ds_for PassesOwn.never rfl (di_seq (de_slA (de_call G__law_shuffled B__law_shuffled_2 hg (hr.mono (by decide)) rfl (da_cons (de_var (pv 0)) (da_cons (de_frz (df_bty (call_list3 rfl) b_list rfl t.z_list (by decide +kernel) (da_cons (de_c pe_str fun _ => .str _) da_nil rfl) (by decide) (by decide) rfl rfl)) da_nil rfl) rfl) (by decide) rfl rfl rfl) do_none (do_some (de_var (pv 1))))) (dg_name (pg_name (i := 3) sc__law_names.nd rfl (by first | exact .inl rfl | exact .inr rfl) (by first | exact .inl rfl | exact .inr rfl))) (db_one (ds_appO (pv 2) (de_add (de_var (pv 3)) (de_join (de_c pe_str fun _ => .str _) (de_frz (df_lc (own := [("turn", 4)]) rfl sc__law_names.nd (di_rng1 rfl t.z_range (de_call G__law_any B__law_any_2 hg (hr.mono (by decide)) rfl (da_cons (de_var (pv 0)) (da_cons (de_frz (df_lst (da_cons (de_c pe_int fun _ => .int _) (da_cons (de_c pe_int fun _ => .int _) (da_cons (de_c pe_int fun _ => .int _) (da_cons (de_c pe_int fun _ => .int _) da_nil rfl) rfl) rfl) rfl))) da_nil rfl) rfl) (by decide) rfl rfl rfl) rfl) (blkOk_by (N := N__law_names) (sc := defScope s__law_names) (by decide +kernel)) (fun _ _ _ _ _ => (dg_name (pg_name (i := 4) sc__law_names.nd rfl (by first | exact .inl rfl | exact .inr rfl) (by first | exact .inl rfl | exact .inr rfl)))) (fun _ _ _ _ _ => dts_nil) (fun _ _ _ _ _ => (de_call G__law_any B__law_any_2 hg (hr.mono (by decide)) rfl (da_cons (de_var (pv 0)) (da_cons (de_c pe_str fun _ => .str _) da_nil rfl) rfl) (by decide) rfl rfl rfl)) (by decide) (fun _ => rfl))) rfl rfl rfl rfl rfl)) rfl rfl rfl rfl rfl rfl)) (fun _ => rfl)) (db_one (ds_ret (de_rd (pv 2))))))
theorem ok__law_house (t : T K mg) : ∃ f fd, Fd P w K mg base 4 "_law_house" f fd P__law_house S__law_house ∧ KB K fd P__law_house 4 [] [0, 1, 2, 3] D__law_house := by
  obtain ⟨f, fd, m, F⟩ := t.d__law_house
  obtain ⟨_, _, G__law_names, B__law_names_2⟩ := ok__law_names (P := P) (w := w) (base := base) t
  obtain ⟨_, _, G__law_deal, B__law_deal_2⟩ := ok__law_deal (P := P) (w := w) (base := base) t
  obtain ⟨_, _, G__law_shuffled, B__law_shuffled_2⟩ := ok__law_shuffled (P := P) (w := w) (base := base) t
  refine ⟨f, fd, ⟨m, F.kp, ?_⟩, kb_all F 4 [] [0, 1, 2, 3] fun _ _ _ _ _ _ us ws h1 h2 => match us, h1, ws, h2 with | [_, _, _, _], _, [], _ => rfl⟩
  refine fnG_of (k := 3) (wb := w__law_house) F sc__law_house fun cdv A outer s H hg hr => ?_
  exact (db_cons (ds_par3 (i := 4) (j := 5) (m := 6) rfl sc__law_house.nd rfl rfl rfl (by decide) (by decide) (by decide) rfl rfl rfl (dx_sh (de_frz (df_blt (call_sorted3 hr.units) b_sorted rfl t.z_sorted (by decide +kernel) (da_cons (de_call G__law_names B__law_names_2 hg (hr.mono (by decide)) rfl (da_cons (de_var (pv 0)) (da_cons (de_add (de_c pe_int fun _ => .int _) (de_call G__law_deal B__law_deal_2 hg (hr.mono (by decide)) rfl (da_cons (de_var (pv 0)) (da_cons (de_var (pv 1)) da_nil rfl) rfl) (by decide) rfl rfl rfl)) da_nil rfl) rfl) (by decide) rfl rfl rfl) da_nil rfl) (by decide) (by decide) rfl rfl)) (dx_ow (df_lst da_nil) (dx_sh (de_var (pv 3)) dx_nil rfl) rfl) rfl) rfl rfl) (db_cons (ds_for PassesOwn.never rfl (di_seq (de_call G__law_shuffled B__law_shuffled_2 hg (hr.mono (by decide)) rfl (da_cons (de_var (pv 0)) (da_cons (de_var (pv 4)) da_nil rfl) rfl) (by decide) rfl rfl rfl)) (dg_name (pg_name (i := 7) sc__law_house.nd rfl (by first | exact .inl rfl | exact .inr rfl) (by first | exact .inl rfl | exact .inr rfl))) (db_cons (ds_asg (de_blt (call_max2 rfl) b_max2 rfl t.z_max (by decide +kernel) (da_cons (de_c pe_int fun _ => .int _) (da_cons (de_blt (call_min2 rfl) b_min2 rfl t.z_min (by decide +kernel) (da_cons (de_var (pv 6)) (da_cons (de_add (de_c pe_int fun _ => .int _) (de_call G__law_deal B__law_deal_2 hg (hr.mono (by decide)) rfl (da_cons (de_var (pv 0)) (da_cons (de_var (pv 2)) da_nil rfl) rfl) (by decide) rfl rfl rfl)) da_nil rfl) rfl) (by decide) (by decide) rfl rfl) da_nil rfl) rfl) (by decide) (by decide) rfl rfl) (dg_name (pg_name (i := 8) sc__law_house.nd rfl (by first | exact .inl rfl | exact .inr rfl) (by first | exact .inl rfl | exact .inr rfl))) rfl rfl rfl) (db_cons (ds_appO (pv 5) (de_tup (da_cons (de_var (pv 7)) (da_cons (de_var (pv 8)) da_nil rfl) rfl)) rfl rfl rfl rfl rfl rfl) (db_one (ds_asg (de_op op_fdiv o2_I (de_var (pv 6)) (de_var (pv 8))) (dg_name (pg_name (i := 6) sc__law_house.nd rfl (by first | exact .inl rfl | exact .inr rfl) (by first | exact .inl rfl | exact .inr rfl))) rfl rfl rfl)))) (fun _ => rfl)) (db_one (ds_ret (de_bty call_tuple_of b_tuple rfl t.z_tuple (by decide +kernel) (da_cons (de_frz (df_blt (call_sorted3 hr.units) b_sorted rfl t.z_sorted (by decide +kernel) (da_cons (de_rd (pv 5)) da_nil rfl) (by decide) (by decide) rfl rfl)) da_nil rfl) (by decide) (by decide) rfl rfl)))))
theorem ok__law_limits (t : T K mg) : ∃ f fd, Fd P w K mg base 1 "_law_limits" f fd P__law_limits S__law_limits ∧ KB K fd P__law_limits 1 [] [0] D__law_limits := by
  obtain ⟨f, fd, m, F⟩ := t.d__law_limits
  refine ⟨f, fd, ⟨m, F.kp, ?_⟩, kb_all F 1 [] [0] fun _ _ _ _ _ _ us ws h1 h2 => match us, h1, ws, h2 with | [_], _, [], _ => rfl⟩
  refine fnG_of (k := 0) (wb := w__law_limits) F sc__law_limits fun cdv A outer s H hg hr => ?_
  exact (db_one (ds_ret (de_bty call_tuple_of b_tuple rfl t.z_tuple (by decide +kernel) (da_cons (de_frz (df_lc (own := [("place", 1), ("limit", 2)]) rfl sc__law_limits.nd (di_seq (de_var (pv 0))) (blkOk_by (N := N__law_limits) (sc := defScope s__law_limits) (by decide +kernel)) (fun _ _ _ _ _ => (dg_tup rfl (dgs_cons (dg_name (pg_name (i := 1) sc__law_limits.nd rfl (by first | exact .inl rfl | exact .inr rfl) (by first | exact .inl rfl | exact .inr rfl))) (dgs_cons (dg_name (pg_name (i := 2) sc__law_limits.nd rfl (by first | exact .inl rfl | exact .inr rfl) (by first | exact .inl rfl | exact .inr rfl))) dgs_nil rfl) rfl) rfl rfl)) (fun _ _ _ _ _ => dts_nil) (fun _ _ _ _ _ => (de_var (pv 2))) (by decide) (fun _ => rfl))) da_nil rfl) (by decide) (by decide) rfl rfl)))
theorem ok__law_all_ages (t : T K mg) : ∃ f fd, Fd P w K mg base 1 "_law_all_ages" f fd P__law_all_ages S__law_all_ages ∧ KB K fd P__law_all_ages 1 [] [0] D__law_all_ages := by
  obtain ⟨f, fd, m, F⟩ := t.d__law_all_ages
  refine ⟨f, fd, ⟨m, F.kp, ?_⟩, kb_all F 1 [] [0] fun _ _ _ _ _ _ us ws h1 h2 => match us, h1, ws, h2 with | [_], _, [], _ => rfl⟩
  refine fnG_of (k := 0) (wb := w__law_all_ages) F sc__law_all_ages fun cdv A outer s H hg hr => ?_
  exact (db_cons (ds_setF (i := 1) sc__law_all_ages.nd rfl (by first | exact .inl rfl | exact .inr rfl) (df_lst (da_cons (de_tup da_nil) da_nil rfl)) rfl (by first | exact .inl rfl | exact .inr rfl)) (db_cons (ds_for PassesOwn.never rfl (di_seq (de_var (pv 0))) (dg_name (pg_name (i := 2) sc__law_all_ages.nd rfl (by first | exact .inl rfl | exact .inr rfl) (by first | exact .inl rfl | exact .inr rfl))) (db_cons (ds_setF (i := 3) sc__law_all_ages.nd rfl (by first | exact .inl rfl | exact .inr rfl) (df_lst da_nil) rfl (by first | exact .inl rfl | exact .inr rfl)) (db_cons (ds_for PassesOwn.never rfl (di_seq (de_var (pv 1))) (dg_name (pg_name (i := 4) sc__law_all_ages.nd rfl (by first | exact .inl rfl | exact .inr rfl) (by first | exact .inl rfl | exact .inr rfl))) (db_one (ds_asg (de_add (de_var (pv 3)) (de_frz (df_lc (own := [("age", 5)]) rfl sc__law_all_ages.nd (di_rng1 rfl t.z_range (de_var (pv 2)) rfl) (blkOk_by (N := N__law_all_ages) (sc := defScope s__law_all_ages) (by decide +kernel)) (fun _ _ _ _ _ => (dg_name (pg_name (i := 5) sc__law_all_ages.nd rfl (by first | exact .inl rfl | exact .inr rfl) (by first | exact .inl rfl | exact .inr rfl)))) (fun _ _ _ _ _ => dts_nil) (fun _ _ _ _ _ => (de_add (de_var (pv 4)) (de_tup (da_cons (de_var (pv 5)) da_nil rfl)))) (by decide) (fun _ => rfl)))) (dg_name (pg_name (i := 3) sc__law_all_ages.nd rfl (by first | exact .inl rfl | exact .inr rfl) (by first | exact .inl rfl | exact .inr rfl))) rfl rfl rfl)) (fun _ => rfl)) (db_one (ds_asg (de_var (pv 3)) (dg_name (pg_name (i := 1) sc__law_all_ages.nd rfl (by first | exact .inl rfl | exact .inr rfl) (by first | exact .inl rfl | exact .inr rfl))) rfl rfl rfl)))) (fun _ => rfl)) (db_one (ds_ret (de_var (pv 1))))))
theorem ok__law_common (t : T K mg) : ∃ f fd, Fd P w K mg base 1 "_law_common" f fd P__law_common S__law_common ∧ KB K fd P__law_common 2 [] [0, 1] D__law_common := by
  obtain ⟨f, fd, m, F⟩ := t.d__law_common
  refine ⟨f, fd, ⟨m, F.kp, ?_⟩, kb_all F 2 [] [0, 1] fun _ _ _ _ _ _ us ws h1 h2 => match us, h1, ws, h2 with | [_, _], _, [], _ => rfl⟩
  refine fnG_of (k := 0) (wb := w__law_common) F sc__law_common fun cdv A outer s H hg hr => ?_
  exact (db_cons (ds_while PassesOwn.never (dt_cmp (op_gt.or op_gt_str) o2_gt (de_var (pv 1)) (de_c pe_int fun _ => .int _) (by rfl)) (db_one (ds_par (i := 0) (j := 1) rfl sc__law_common.nd rfl rfl (by decide) rfl rfl (dx_sh (de_var (pv 1)) (dx_sh (de_op op_mod o2_I (de_var (pv 0)) (de_var (pv 1))) dx_nil rfl) rfl) rfl rfl))) (db_one (ds_ret (de_var (pv 0)))))
theorem ok__law_are_offsets (t : T K mg) : ∃ f fd, Fd P w K mg base 2 "_law_are_offsets" f fd P__law_are_offsets S__law_are_offsets ∧ KB K fd P__law_are_offsets 2 [] [0, 1] D__law_are_offsets := by
  obtain ⟨f, fd, m, F⟩ := t.d__law_are_offsets
  obtain ⟨_, _, G__law_common, B__law_common_2⟩ := ok__law_common (P := P) (w := w) (base := base) t
  refine ⟨f, fd, ⟨m, F.kp, ?_⟩, kb_all F 2 [] [0, 1] fun _ _ _ _ _ _ us ws h1 h2 => match us, h1, ws, h2 with | [_, _], _, [], _ => rfl⟩
  refine fnG_of (k := 1) (wb := w__law_are_offsets) F sc__law_are_offsets fun cdv A outer s H hg hr => ?_
  exact (db_cons (ds_for PassesOwn.never rfl (di_rng1 rfl t.z_range (de_blt call_len b_len rfl t.z_len (by decide +kernel) (da_cons (de_var (pv 0)) da_nil rfl) (by decide) (by decide) rfl rfl) rfl) (dg_name (pg_name (i := 2) sc__law_are_offsets.nd rfl (by first | exact .inl rfl | exact .inr rfl) (by first | exact .inl rfl | exact .inr rfl))) (db_one (ds_for PassesOwn.never rfl (di_rng1 rfl t.z_range (de_var (pv 2)) rfl) (dg_name (pg_name (i := 3) sc__law_are_offsets.nd rfl (by first | exact .inl rfl | exact .inr rfl) (by first | exact .inl rfl | exact .inr rfl))) (db_one (ds_if (dt_cmp (op_eqA hr.units) o2_eq (de_op op_mod o2_I (de_op op_sub o2_I0 (de_ix (de_var (pv 1)) (de_var (pv 2)) (fun _ _ => rfl)) (de_ix (de_var (pv 1)) (de_var (pv 3)) (fun _ _ => rfl))) (de_call G__law_common B__law_common_2 hg (hr.mono (by decide)) rfl (da_cons (de_ix (de_var (pv 0)) (de_var (pv 2)) (fun _ _ => rfl)) (da_cons (de_ix (de_var (pv 0)) (de_var (pv 3)) (fun _ _ => rfl)) da_nil rfl) rfl) (by decide) rfl rfl rfl)) (de_c pe_int fun _ => .int _) (by rfl)) (db_one (ds_ret (de_c pe_bl fun _ => .bl _))) db_nil)) (fun _ => rfl))) (fun _ => rfl)) (db_one (ds_ret (de_c pe_bl fun _ => .bl _))))
theorem ok_is_tuple_of (t : T K mg) : ∃ f fd, Fd P w K mg base 1 "is_tuple_of" f fd P_is_tuple_of S_is_tuple_of ∧ KB K fd P_is_tuple_of 2 [] [0, 1] D_is_tuple_of := by
  obtain ⟨f, fd, m, F⟩ := t.d_is_tuple_of
  refine ⟨f, fd, ⟨m, F.kp, ?_⟩, kb_all F 2 [] [0, 1] fun _ _ _ _ _ _ us ws h1 h2 => match us, h1, ws, h2 with | [_, _], _, [], _ => rfl⟩
  refine fnG_of (k := 0) (wb := w_is_tuple_of) F sc_is_tuple_of fun cdv A outer s H hg hr => ?_
  exact (db_one (ds_ret (de_and (de_isi (t := .tuple) (de_var (pv 0)) rfl t.z_isinstance rfl t.z_tuple (by decide +kernel) (by decide) (by decide) rfl rfl rfl) (de_one (de_cmp (op_eqA hr.units) o2_eq (de_blt call_len b_len rfl t.z_len (by decide +kernel) (da_cons (de_var (pv 0)) da_nil rfl) (by decide) (by decide) rfl rfl) (de_var (pv 1)) (by rfl))))))
theorem ok_is_string (t : T K mg) : ∃ f fd, Fd P w K mg base 1 "is_string" f fd P_is_string S_is_string ∧ KB K fd P_is_string 1 [] [0] D_is_string := by
  obtain ⟨f, fd, m, F⟩ := t.d_is_string
  refine ⟨f, fd, ⟨m, F.kp, ?_⟩, kb_all F 1 [] [0] fun _ _ _ _ _ _ us ws h1 h2 => match us, h1, ws, h2 with | [_], _, [], _ => rfl⟩
  refine fnG_of (k := 0) (wb := w_is_string) F sc_is_string fun cdv A outer s H hg hr => ?_
  exact (db_one (ds_ret (de_isi (t := .str) (de_var (pv 0)) rfl t.z_isinstance rfl t.z_str (by decide +kernel) (by decide) (by decide) rfl rfl rfl)))
theorem ok_is_made_of (t : T K mg) : ∃ f fd, Fd P w K mg base 1 "is_made_of" f fd P_is_made_of S_is_made_of ∧ KB K fd P_is_made_of 2 [] [0, 1] D_is_made_of := by
  obtain ⟨f, fd, m, F⟩ := t.d_is_made_of
  refine ⟨f, fd, ⟨m, F.kp, ?_⟩, kb_all F 2 [] [0, 1] fun _ _ _ _ _ _ us ws h1 h2 => match us, h1, ws, h2 with | [_, _], _, [], _ => rfl⟩
  refine fnG_of (k := 0) (wb := w_is_made_of) F sc_is_made_of fun cdv A outer s H hg hr => ?_
  exact (db_one (ds_ret (de_and (de_cmp (op_neA hr.units) o2_ne (de_var (pv 0)) (de_c pe_str fun _ => .str _) (by rfl)) (de_one (de_blt (cr_all rfl) b_all rfl t.z_all (by decide +kernel) (da_cons (de_frz (df_lc (own := [("sign", 2)]) rfl sc_is_made_of.nd (di_seq (de_var (pv 0))) (blkOk_by (N := N_is_made_of) (sc := defScope s_is_made_of) (by decide +kernel)) (fun _ _ _ _ _ => (dg_name (pg_name (i := 2) sc_is_made_of.nd rfl (by first | exact .inl rfl | exact .inr rfl) (by first | exact .inl rfl | exact .inr rfl)))) (fun _ _ _ _ _ => dts_nil) (fun _ _ _ _ _ => (de_cmp (op_in3 (u66 hr)) o2_in (de_var (pv 2)) (de_var (pv 1)) (by rfl))) (by decide) (fun _ => rfl))) da_nil rfl) (by decide) (by decide) rfl rfl)))))
theorem ok_is_word (t : T K mg) : ∃ f fd, Fd P w K mg base 2 "is_word" f fd P_is_word S_is_word ∧ KB K fd P_is_word 1 [] [0] D_is_word := by
  obtain ⟨f, fd, m, F⟩ := t.d_is_word
  obtain ⟨_, _, G_is_string, B_is_string_1⟩ := ok_is_string (P := P) (w := w) (base := base) t
  obtain ⟨_, _, G_is_made_of, B_is_made_of_2⟩ := ok_is_made_of (P := P) (w := w) (base := base) t
  refine ⟨f, fd, ⟨m, F.kp, ?_⟩, kb_all F 1 [] [0] fun _ _ _ _ _ _ us ws h1 h2 => match us, h1, ws, h2 with | [_], _, [], _ => rfl⟩
  refine fnG_of (k := 1) (wb := w_is_word) F sc_is_word fun cdv A outer s H hg hr => ?_
  exact (db_one (ds_ret (de_and (de_call G_is_string B_is_string_1 hg (hr.mono (by decide)) rfl (da_cons (de_var (pv 0)) da_nil rfl) (by decide) rfl rfl rfl) (de_one (de_call G_is_made_of B_is_made_of_2 hg (hr.mono (by decide)) rfl (da_cons (de_var (pv 0)) (da_cons (de_glob t.c_SMALL_LETTERS rfl (by decide)) da_nil rfl) rfl) (by decide) rfl rfl rfl)))))
theorem ok_is_name (t : T K mg) : ∃ f fd, Fd P w K mg base 3 "is_name" f fd P_is_name S_is_name ∧ KB K fd P_is_name 1 [] [0] D_is_name := by
  obtain ⟨f, fd, m, F⟩ := t.d_is_name
  obtain ⟨_, _, G_is_word, B_is_word_1⟩ := ok_is_word (P := P) (w := w) (base := base) t
  refine ⟨f, fd, ⟨m, F.kp, ?_⟩, kb_all F 1 [] [0] fun _ _ _ _ _ _ us ws h1 h2 => match us, h1, ws, h2 with | [_], _, [], _ => rfl⟩
  refine fnG_of (k := 2) (wb := w_is_name) F sc_is_name fun cdv A outer s H hg hr => ?_
  exact (db_one (ds_ret (de_and (de_call G_is_word B_is_word_1 hg (hr.mono (by decide)) rfl (da_cons (de_var (pv 0)) da_nil rfl) (by decide) rfl rfl rfl) (de_and (de_cmp (op_le.or op_le_str) o2_le (de_blt call_len b_len rfl t.z_len (by decide +kernel) (da_cons (de_var (pv 0)) da_nil rfl) (by decide) (by decide) rfl rfl) (de_glob t.c_LONGEST_NAME rfl (by decide)) (by rfl)) (de_one (de_cmp (op_notIn3 (u66 hr)) o2_notIn (de_var (pv 0)) (de_glob t.c_WORDS rfl (by decide)) (by rfl)))))))
theorem ok_is_whole (t : T K mg) : ∃ f fd, Fd P w K mg base 1 "is_whole" f fd P_is_whole S_is_whole ∧ KB K fd P_is_whole 1 [] [0] D_is_whole := by
  obtain ⟨f, fd, m, F⟩ := t.d_is_whole
  refine ⟨f, fd, ⟨m, F.kp, ?_⟩, kb_all F 1 [] [0] fun _ _ _ _ _ _ us ws h1 h2 => match us, h1, ws, h2 with | [_], _, [], _ => rfl⟩
  refine fnG_of (k := 0) (wb := w_is_whole) F sc_is_whole fun cdv A outer s H hg hr => ?_
  exact (db_one (ds_ret (de_and (de_isi (t := .int) (de_var (pv 0)) rfl t.z_isinstance rfl t.z_int (by decide +kernel) (by decide) (by decide) rfl rfl rfl) (de_one (de_not (de_isi (t := .bool) (de_var (pv 0)) rfl t.z_isinstance rfl t.z_bool (by decide +kernel) (by decide) (by decide) rfl rfl rfl))))))
theorem ok_is_number (t : T K mg) : ∃ f fd, Fd P w K mg base 2 "is_number" f fd P_is_number S_is_number ∧ KB K fd P_is_number 3 [] [0, 1, 2] D_is_number := by
  obtain ⟨f, fd, m, F⟩ := t.d_is_number
  obtain ⟨_, _, G_is_whole, B_is_whole_1⟩ := ok_is_whole (P := P) (w := w) (base := base) t
  refine ⟨f, fd, ⟨m, F.kp, ?_⟩, kb_dfl F 3 [] [0, 1, 2] D_is_number (by intro z; cases z) (fun _ => by repeat constructor) fun _ _ _ _ _ _ _ us ws its h1 h2 h3 => match us, h1, ws, h2, its, h3 with | [_, _, _], _, [], _, [_], _ => ⟨_, rfl, rfl⟩⟩
  refine fnG_of (k := 1) (wb := w_is_number) F sc_is_number fun cdv A outer s H hg hr => ?_
  exact (db_one (ds_ret (de_and (de_call G_is_whole B_is_whole_1 hg (hr.mono (by decide)) rfl (da_cons (de_var (pv 0)) da_nil rfl) (by decide) rfl rfl rfl) (de_and (de_cmp (op_le.or op_le_str) o2_le (de_var (pv 1)) (de_var (pv 0)) (by rfl)) (de_one (de_or (de_cmp op_isN o2_isN (de_var (pv 2)) (de_c pe_non fun _ => .non) (by rfl)) (de_one (de_cmp (op_le.or op_le_str) o2_le (de_var (pv 0)) (de_var (pv 2)) (by rfl)))))))))
theorem ok_is_limit (t : T K mg) : ∃ f fd, Fd P w K mg base 3 "is_limit" f fd P_is_limit S_is_limit ∧ KB K fd P_is_limit 1 [] [0] D_is_limit := by
  obtain ⟨f, fd, m, F⟩ := t.d_is_limit
  obtain ⟨_, _, G_is_number, B_is_number_3⟩ := ok_is_number (P := P) (w := w) (base := base) t
  refine ⟨f, fd, ⟨m, F.kp, ?_⟩, kb_all F 1 [] [0] fun _ _ _ _ _ _ us ws h1 h2 => match us, h1, ws, h2 with | [_], _, [], _ => rfl⟩
  refine fnG_of (k := 2) (wb := w_is_limit) F sc_is_limit fun cdv A outer s H hg hr => ?_
  exact (db_one (ds_ret (de_call G_is_number B_is_number_3 hg (hr.mono (by decide)) rfl (da_cons (de_var (pv 0)) (da_cons (de_c pe_int fun _ => .int _) (da_cons (de_glob t.c_MOST_LIMIT rfl (by decide)) da_nil rfl) rfl) rfl) (by decide) rfl rfl rfl)))
theorem ok_is_pair_of_house (t : T K mg) : ∃ f fd, Fd P w K mg base 4 "is_pair_of_house" f fd P_is_pair_of_house S_is_pair_of_house ∧ KB K fd P_is_pair_of_house 1 [] [0] D_is_pair_of_house := by
  obtain ⟨f, fd, m, F⟩ := t.d_is_pair_of_house
  obtain ⟨_, _, G_is_tuple_of, B_is_tuple_of_2⟩ := ok_is_tuple_of (P := P) (w := w) (base := base) t
  obtain ⟨_, _, G_is_name, B_is_name_1⟩ := ok_is_name (P := P) (w := w) (base := base) t
  obtain ⟨_, _, G_is_limit, B_is_limit_1⟩ := ok_is_limit (P := P) (w := w) (base := base) t
  refine ⟨f, fd, ⟨m, F.kp, ?_⟩, kb_all F 1 [] [0] fun _ _ _ _ _ _ us ws h1 h2 => match us, h1, ws, h2 with | [_], _, [], _ => rfl⟩
  refine fnG_of (k := 3) (wb := w_is_pair_of_house) F sc_is_pair_of_house fun cdv A outer s H hg hr => ?_
  exact (db_one (ds_ret (de_and (de_call G_is_tuple_of B_is_tuple_of_2 hg (hr.mono (by decide)) rfl (da_cons (de_var (pv 0)) (da_cons (de_c pe_int fun _ => .int _) da_nil rfl) rfl) (by decide) rfl rfl rfl) (de_and (de_call G_is_name B_is_name_1 hg (hr.mono (by decide)) rfl (da_cons (de_ix (de_var (pv 0)) (de_c pe_int fun _ => .int _) (fun _ _ => rfl)) da_nil rfl) (by decide) rfl rfl rfl) (de_one (de_call G_is_limit B_is_limit_1 hg (hr.mono (by decide)) rfl (da_cons (de_ix (de_var (pv 0)) (de_c pe_int fun _ => .int _) (fun _ _ => rfl)) da_nil rfl) (by decide) rfl rfl rfl))))))
theorem ok_is_ascending (t : T K mg) : ∃ f fd, Fd P w K mg base 1 "is_ascending" f fd P_is_ascending S_is_ascending ∧ KB K fd P_is_ascending 1 [] [0] D_is_ascending := by
  obtain ⟨f, fd, m, F⟩ := t.d_is_ascending
  refine ⟨f, fd, ⟨m, F.kp, ?_⟩, kb_all F 1 [] [0] fun _ _ _ _ _ _ us ws h1 h2 => match us, h1, ws, h2 with | [_], _, [], _ => rfl⟩
  refine fnG_of (k := 0) (wb := w_is_ascending) F sc_is_ascending fun cdv A outer s H hg hr => ?_
  exact (db_one (ds_ret (de_blt (cr_all rfl) b_all rfl t.z_all (by decide +kernel) (da_cons (de_frz (df_lc (own := [("index", 1)]) rfl sc_is_ascending.nd (di_rng2 rfl t.z_range (de_c pe_int fun _ => .int _) (de_blt call_len b_len rfl t.z_len (by decide +kernel) (da_cons (de_var (pv 0)) da_nil rfl) (by decide) (by decide) rfl rfl) rfl rfl) (blkOk_by (N := N_is_ascending) (sc := defScope s_is_ascending) (by decide +kernel)) (fun _ _ _ _ _ => (dg_name (pg_name (i := 1) sc_is_ascending.nd rfl (by first | exact .inl rfl | exact .inr rfl) (by first | exact .inl rfl | exact .inr rfl)))) (fun _ _ _ _ _ => dts_nil) (fun _ _ _ _ _ => (de_cmp (op_lt3 hr.units) o2_lt (de_ix (de_var (pv 0)) (de_op op_sub o2_I0 (de_var (pv 1)) (de_c pe_int fun _ => .int _)) (fun _ _ => rfl)) (de_ix (de_var (pv 0)) (de_var (pv 1)) (fun _ _ => rfl)) (by rfl))) (by decide) (fun _ => rfl))) da_nil rfl) (by decide) (by decide) rfl rfl)))
theorem ok_names_of (t : T K mg) : ∃ f fd, Fd P w K mg base 1 "names_of" f fd P_names_of S_names_of ∧ KB K fd P_names_of 1 [] [0] D_names_of := by
  obtain ⟨f, fd, m, F⟩ := t.d_names_of
  refine ⟨f, fd, ⟨m, F.kp, ?_⟩, kb_all F 1 [] [0] fun _ _ _ _ _ _ us ws h1 h2 => match us, h1, ws, h2 with | [_], _, [], _ => rfl⟩
  refine fnG_of (k := 0) (wb := w_names_of) F sc_names_of fun cdv A outer s H hg hr => ?_
  exact (db_one (ds_ret (de_frz (df_lc (own := [("place", 1), ("_", 2)]) rfl sc_names_of.nd (di_seq (de_var (pv 0))) (blkOk_by (N := N_names_of) (sc := defScope s_names_of) (by decide +kernel)) (fun _ _ _ _ _ => (dg_tup rfl (dgs_cons (dg_name (pg_name (i := 1) sc_names_of.nd rfl (by first | exact .inl rfl | exact .inr rfl) (by first | exact .inl rfl | exact .inr rfl))) (dgs_cons (dg_name (pg_name (i := 2) sc_names_of.nd rfl (by first | exact .inl rfl | exact .inr rfl) (by first | exact .inl rfl | exact .inr rfl))) dgs_nil rfl) rfl) rfl rfl)) (fun _ _ _ _ _ => dts_nil) (fun _ _ _ _ _ => (de_var (pv 1))) (by decide) (fun _ => rfl)))))
theorem ok_product_of (t : T K mg) : ∃ f fd, Fd P w K mg base 1 "product_of" f fd P_product_of S_product_of ∧ KB K fd P_product_of 1 [] [0] D_product_of := by
  obtain ⟨f, fd, m, F⟩ := t.d_product_of
  refine ⟨f, fd, ⟨m, F.kp, ?_⟩, kb_all F 1 [] [0] fun _ _ _ _ _ _ us ws h1 h2 => match us, h1, ws, h2 with | [_], _, [], _ => rfl⟩
  refine fnG_of (k := 0) (wb := w_product_of) F sc_product_of fun cdv A outer s H hg hr => ?_
  exact (db_cons (ds_asg (de_c pe_int fun _ => .int _) (dg_name (pg_name (i := 1) sc_product_of.nd rfl (by first | exact .inl rfl | exact .inr rfl) (by first | exact .inl rfl | exact .inr rfl))) rfl rfl rfl) (db_cons (ds_for PassesOwn.never rfl (di_seq (de_var (pv 0))) (dg_name (pg_name (i := 2) sc_product_of.nd rfl (by first | exact .inl rfl | exact .inr rfl) (by first | exact .inl rfl | exact .inr rfl))) (db_one (ds_asg (de_op op_mul o2_I (de_var (pv 1)) (de_var (pv 2))) (dg_name (pg_name (i := 1) sc_product_of.nd rfl (by first | exact .inl rfl | exact .inr rfl) (by first | exact .inl rfl | exact .inr rfl))) rfl rfl rfl)) (fun _ => rfl)) (db_one (ds_ret (de_var (pv 1))))))
theorem ok_limits_in (t : T K mg) : ∃ f fd, Fd P w K mg base 1 "limits_in" f fd P_limits_in S_limits_in ∧ KB K fd P_limits_in 1 [] [0] D_limits_in := by
  obtain ⟨f, fd, m, F⟩ := t.d_limits_in
  refine ⟨f, fd, ⟨m, F.kp, ?_⟩, kb_all F 1 [] [0] fun _ _ _ _ _ _ us ws h1 h2 => match us, h1, ws, h2 with | [_], _, [], _ => rfl⟩
  refine fnG_of (k := 0) (wb := w_limits_in) F sc_limits_in fun cdv A outer s H hg hr => ?_
  exact (db_one (ds_ret (de_frz (df_lc (own := [("_", 1), ("limit", 2)]) rfl sc_limits_in.nd (di_seq (de_var (pv 0))) (blkOk_by (N := N_limits_in) (sc := defScope s_limits_in) (by decide +kernel)) (fun _ _ _ _ _ => (dg_tup rfl (dgs_cons (dg_name (pg_name (i := 1) sc_limits_in.nd rfl (by first | exact .inl rfl | exact .inr rfl) (by first | exact .inl rfl | exact .inr rfl))) (dgs_cons (dg_name (pg_name (i := 2) sc_limits_in.nd rfl (by first | exact .inl rfl | exact .inr rfl) (by first | exact .inl rfl | exact .inr rfl))) dgs_nil rfl) rfl) rfl rfl)) (fun _ _ _ _ _ => dts_nil) (fun _ _ _ _ _ => (de_var (pv 2))) (by decide) (fun _ => rfl)))))
theorem ok_is_house_form (t : T K mg) : ∃ f fd, Fd P w K mg base 5 "is_house_form" f fd P_is_house_form S_is_house_form ∧ KB K fd P_is_house_form 1 [] [0] D_is_house_form := by
  obtain ⟨f, fd, m, F⟩ := t.d_is_house_form
  obtain ⟨_, _, G_is_pair_of_house, B_is_pair_of_house_1⟩ := ok_is_pair_of_house (P := P) (w := w) (base := base) t
  obtain ⟨_, _, G_is_ascending, B_is_ascending_1⟩ := ok_is_ascending (P := P) (w := w) (base := base) t
  obtain ⟨_, _, G_names_of, B_names_of_1⟩ := ok_names_of (P := P) (w := w) (base := base) t
  obtain ⟨_, _, G_product_of, B_product_of_1⟩ := ok_product_of (P := P) (w := w) (base := base) t
  obtain ⟨_, _, G_limits_in, B_limits_in_1⟩ := ok_limits_in (P := P) (w := w) (base := base) t
  refine ⟨f, fd, ⟨m, F.kp, ?_⟩, kb_all F 1 [] [0] fun _ _ _ _ _ _ us ws h1 h2 => match us, h1, ws, h2 with | [_], _, [], _ => rfl⟩
  refine fnG_of (k := 4) (wb := w_is_house_form) F sc_is_house_form fun cdv A outer s H hg hr => ?_
  exact (db_cons (ds_if (PW.pt (dw_or (dt_not (dt_tru (de_isi (t := .tuple) (de_var (pv 0)) rfl t.z_isinstance rfl t.z_tuple (by decide +kernel) (by decide) (by decide) rfl rfl rfl) (fun _ => rfl))) (dw_or1 (dt_not (dt_chain (op_le.or op_le_str) o2_le (op_le.or op_le_str) o2_le (de_c pe_int fun _ => .int _) (de_blt call_len b_len rfl t.z_len (by decide +kernel) (da_cons (de_var (pv 0)) da_nil rfl) (by decide) (by decide) rfl rfl) (de_glob t.c_MOST_PLACES rfl (by decide)) (by with_unfolding_all rfl)))))) (db_one (ds_ret (de_c pe_bl fun _ => .bl _))) db_nil) (db_cons (ds_if (PW.pt (dw_or (dt_not (dt_tru (de_blt (cr_all rfl) b_all rfl t.z_all (by decide +kernel) (da_cons (de_frz (df_lc (own := [("pair", 1)]) rfl sc_is_house_form.nd (di_seq (de_var (pv 0))) (blkOk_by (N := N_is_house_form) (sc := defScope s_is_house_form) (by decide +kernel)) (fun _ _ _ _ _ => (dg_name (pg_name (i := 1) sc_is_house_form.nd rfl (by first | exact .inl rfl | exact .inr rfl) (by first | exact .inl rfl | exact .inr rfl)))) (fun _ _ _ _ _ => dts_nil) (fun _ _ _ _ _ => (de_call G_is_pair_of_house B_is_pair_of_house_1 hg (hr.mono (by decide)) rfl (da_cons (de_var (pv 1)) da_nil rfl) (by decide) rfl rfl rfl)) (by decide) (fun _ => rfl))) da_nil rfl) (by decide) (by decide) rfl rfl) (fun _ => rfl))) (dw_or1 (dt_not (dt_tru (de_call G_is_ascending B_is_ascending_1 hg (hr.mono (by decide)) rfl (da_cons (de_call G_names_of B_names_of_1 hg (hr.mono (by decide)) rfl (da_cons (de_var (pv 0)) da_nil rfl) (by decide) rfl rfl rfl) da_nil rfl) (by decide) rfl rfl rfl) (fun _ => rfl)))))) (db_one (ds_ret (de_c pe_bl fun _ => .bl _))) db_nil) (db_one (ds_ret (de_cmp (op_le.or op_le_str) o2_le (de_call G_product_of B_product_of_1 hg (hr.mono (by decide)) rfl (da_cons (de_call G_limits_in B_limits_in_1 hg (hr.mono (by decide)) rfl (da_cons (de_var (pv 0)) da_nil rfl) (by decide) rfl rfl rfl) da_nil rfl) (by decide) rfl rfl rfl) (de_glob t.c_MOST_AGES rfl (by decide)) (by rfl))))))
theorem ok_check_house (t : T K mg) : ∃ f fd, Fd P w K mg base 6 "check_house" f fd P_check_house S_check_house ∧ KB K fd P_check_house 1 [] [0] D_check_house := by
  obtain ⟨f, fd, m, F⟩ := t.d_check_house
  obtain ⟨_, _, G_is_house_form, B_is_house_form_1⟩ := ok_is_house_form (P := P) (w := w) (base := base) t
  refine ⟨f, fd, ⟨m, F.kp, ?_⟩, kb_all F 1 [] [0] fun _ _ _ _ _ _ us ws h1 h2 => match us, h1, ws, h2 with | [_], _, [], _ => rfl⟩
  refine fnG_of (k := 5) (wb := w_check_house) F sc_check_house fun cdv A outer s H hg hr => ?_
  exact (db_one (ds_if (dt_not (dt_tru (de_call G_is_house_form B_is_house_form_1 hg (hr.mono (by decide)) rfl (da_cons (de_var (pv 0)) da_nil rfl) (by decide) rfl rfl rfl) (fun _ => rfl))) (db_one ds_never) db_nil))
theorem ok_all_below (t : T K mg) : ∃ f fd, Fd P w K mg base 1 "all_below" f fd P_all_below S_all_below ∧ KB K fd P_all_below 1 [] [0] D_all_below := by
  obtain ⟨f, fd, m, F⟩ := t.d_all_below
  refine ⟨f, fd, ⟨m, F.kp, ?_⟩, kb_all F 1 [] [0] fun _ _ _ _ _ _ us ws h1 h2 => match us, h1, ws, h2 with | [_], _, [], _ => rfl⟩
  refine fnG_of (k := 0) (wb := w_all_below) F sc_all_below fun cdv A outer s H hg hr => ?_
  exact (db_cons (ds_setF (i := 1) sc_all_below.nd rfl (by first | exact .inl rfl | exact .inr rfl) (df_lst (da_cons (de_tup da_nil) da_nil rfl)) rfl (by first | exact .inl rfl | exact .inr rfl)) (db_cons (ds_for PassesOwn.never rfl (di_seq (de_var (pv 0))) (dg_name (pg_name (i := 2) sc_all_below.nd rfl (by first | exact .inl rfl | exact .inr rfl) (by first | exact .inl rfl | exact .inr rfl))) (db_one (ds_setLcF2 (i := 1) (own := [("row", 3), ("number", 4)]) rfl sc_all_below.nd rfl rfl (sw_true rfl rfl rfl (by decide +kernel)) (di_seq (de_var (pv 1))) (blkOk_by (N := N_all_below) (sc := defScope s_all_below) (by decide +kernel)) (vs1 := [4]) (by decide) (fun _ _ _ _ _ => (dg_name (pg_name (i := 3) sc_all_below.nd rfl (by first | exact .inl rfl | exact .inr rfl) (by first | exact .inl rfl | exact .inr rfl)))) (fun _ _ _ _ _ => dts_nil) (fun _ _ _ _ _ => (di_rng1 rfl t.z_range (de_var (pv 2)) rfl)) (fun _ _ _ _ _ => (dg_name (pg_name (i := 4) sc_all_below.nd rfl (by first | exact .inl rfl | exact .inr rfl) (by first | exact .inl rfl | exact .inr rfl)))) (fun _ _ _ _ _ => dts_nil) (fun _ _ _ _ _ => (de_tup (da_star (de_var (pv 3)) (da_cons (de_var (pv 4)) da_nil rfl) rfl))) (by decide) (by decide) (fun _ => rfl) (fun _ _ => rfl))) (fun _ => rfl)) (db_one (ds_ret (de_var (pv 1))))))
theorem ok_all_ages (t : T K mg) : ∃ f fd, Fd P w K mg base 2 "all_ages" f fd P_all_ages S_all_ages ∧ KB K fd P_all_ages 1 [] [0] D_all_ages := by
  obtain ⟨f, fd, m, F⟩ := t.d_all_ages
  obtain ⟨_, _, G_all_below, B_all_below_1⟩ := ok_all_below (P := P) (w := w) (base := base) t
  obtain ⟨_, _, G_limits_in, B_limits_in_1⟩ := ok_limits_in (P := P) (w := w) (base := base) t
  refine ⟨f, fd, ⟨m, F.kp, ?_⟩, kb_all F 1 [] [0] fun _ _ _ _ _ _ us ws h1 h2 => match us, h1, ws, h2 with | [_], _, [], _ => rfl⟩
  refine fnG_of (k := 1) (wb := w_all_ages) F sc_all_ages fun cdv A outer s H hg hr => ?_
  exact (db_one (ds_ret (de_call G_all_below B_all_below_1 hg (hr.mono (by decide)) rfl (da_cons (de_call G_limits_in B_limits_in_1 hg (hr.mono (by decide)) rfl (da_cons (de_var (pv 0)) da_nil rfl) (by decide) rfl rfl rfl) da_nil rfl) (by decide) rfl rfl rfl)))
theorem ok_common_divisor (t : T K mg) : ∃ f fd, Fd P w K mg base 1 "common_divisor" f fd P_common_divisor S_common_divisor ∧ KB K fd P_common_divisor 2 [] [0, 1] D_common_divisor := by
  obtain ⟨f, fd, m, F⟩ := t.d_common_divisor
  refine ⟨f, fd, ⟨m, F.kp, ?_⟩, kb_all F 2 [] [0, 1] fun _ _ _ _ _ _ us ws h1 h2 => match us, h1, ws, h2 with | [_, _], _, [], _ => rfl⟩
  refine fnG_of (k := 0) (wb := w_common_divisor) F sc_common_divisor fun cdv A outer s H hg hr => ?_
  exact (db_cons (ds_while PassesOwn.never (dt_cmp (op_gt.or op_gt_str) o2_gt (de_var (pv 1)) (de_c pe_int fun _ => .int _) (by rfl)) (db_one (ds_par (i := 0) (j := 1) rfl sc_common_divisor.nd rfl rfl (by decide) rfl rfl (dx_sh (de_var (pv 1)) (dx_sh (de_op op_mod o2_I (de_var (pv 0)) (de_var (pv 1))) dx_nil rfl) rfl) rfl rfl))) (db_one (ds_ret (de_var (pv 0)))))
theorem ok_are_apart (t : T K mg) : ∃ f fd, Fd P w K mg base 2 "are_apart" f fd P_are_apart S_are_apart ∧ KB K fd P_are_apart 4 [] [0, 1, 2, 3] D_are_apart := by
  obtain ⟨f, fd, m, F⟩ := t.d_are_apart
  obtain ⟨_, _, G_common_divisor, B_common_divisor_2⟩ := ok_common_divisor (P := P) (w := w) (base := base) t
  refine ⟨f, fd, ⟨m, F.kp, ?_⟩, kb_all F 4 [] [0, 1, 2, 3] fun _ _ _ _ _ _ us ws h1 h2 => match us, h1, ws, h2 with | [_, _, _, _], _, [], _ => rfl⟩
  refine fnG_of (k := 1) (wb := w_are_apart) F sc_are_apart fun cdv A outer s H hg hr => ?_
  exact (db_cons (ds_asg (de_call G_common_divisor B_common_divisor_2 hg (hr.mono (by decide)) rfl (da_cons (de_ix (de_var (pv 0)) (de_var (pv 2)) (fun _ _ => rfl)) (da_cons (de_ix (de_var (pv 0)) (de_var (pv 3)) (fun _ _ => rfl)) da_nil rfl) rfl) (by decide) rfl rfl rfl) (dg_name (pg_name (i := 4) sc_are_apart.nd rfl (by first | exact .inl rfl | exact .inr rfl) (by first | exact .inl rfl | exact .inr rfl))) rfl rfl rfl) (db_one (ds_ret (de_cmp (op_neA hr.units) o2_ne (de_op op_mod o2_I (de_ix (de_var (pv 1)) (de_var (pv 2)) (fun _ _ => rfl)) (de_var (pv 4))) (de_op op_mod o2_I (de_ix (de_var (pv 1)) (de_var (pv 3)) (fun _ _ => rfl)) (de_var (pv 4))) (by rfl)))))
theorem ok_are_offsets (t : T K mg) : ∃ f fd, Fd P w K mg base 3 "are_offsets" f fd P_are_offsets S_are_offsets ∧ KB K fd P_are_offsets 2 [] [0, 1] D_are_offsets := by
  obtain ⟨f, fd, m, F⟩ := t.d_are_offsets
  obtain ⟨_, _, G_limits_in, B_limits_in_1⟩ := ok_limits_in (P := P) (w := w) (base := base) t
  obtain ⟨_, _, G_are_apart, B_are_apart_4⟩ := ok_are_apart (P := P) (w := w) (base := base) t
  refine ⟨f, fd, ⟨m, F.kp, ?_⟩, kb_all F 2 [] [0, 1] fun _ _ _ _ _ _ us ws h1 h2 => match us, h1, ws, h2 with | [_, _], _, [], _ => rfl⟩
  refine fnG_of (k := 2) (wb := w_are_offsets) F sc_are_offsets fun cdv A outer s H hg hr => ?_
  exact (db_cons (ds_asg (de_call G_limits_in B_limits_in_1 hg (hr.mono (by decide)) rfl (da_cons (de_var (pv 0)) da_nil rfl) (by decide) rfl rfl rfl) (dg_name (pg_name (i := 2) sc_are_offsets.nd rfl (by first | exact .inl rfl | exact .inr rfl) (by first | exact .inl rfl | exact .inr rfl))) rfl rfl rfl) (db_cons (ds_setLcF2 (i := 3) (own := [("two", 4), ("one", 5)]) rfl sc_are_offsets.nd rfl rfl (sw_true rfl rfl rfl (by decide +kernel)) (di_rng1 rfl t.z_range (de_blt call_len b_len rfl t.z_len (by decide +kernel) (da_cons (de_var (pv 2)) da_nil rfl) (by decide) (by decide) rfl rfl) rfl) (blkOk_by (N := N_are_offsets) (sc := defScope s_are_offsets) (by decide +kernel)) (vs1 := [5]) (by decide) (fun _ _ _ _ _ => (dg_name (pg_name (i := 4) sc_are_offsets.nd rfl (by first | exact .inl rfl | exact .inr rfl) (by first | exact .inl rfl | exact .inr rfl)))) (fun _ _ _ _ _ => dts_nil) (fun _ _ _ _ _ => (di_rng1 rfl t.z_range (de_var (pv 4)) rfl)) (fun _ _ _ _ _ => (dg_name (pg_name (i := 5) sc_are_offsets.nd rfl (by first | exact .inl rfl | exact .inr rfl) (by first | exact .inl rfl | exact .inr rfl)))) (fun _ _ _ _ _ => dts_nil) (fun _ _ _ _ _ => (de_tup (da_cons (de_var (pv 5)) (da_cons (de_var (pv 4)) da_nil rfl) rfl))) (by decide) (by decide) (fun _ => rfl) (fun _ _ => rfl)) (db_one (ds_ret (de_blt (cr_all rfl) b_all rfl t.z_all (by decide +kernel) (da_cons (de_frz (df_lc (own := [("one", 5), ("two", 4)]) rfl sc_are_offsets.nd (di_seq (de_var (pv 3))) (blkOk_by (N := N_are_offsets) (sc := defScope s_are_offsets) (by decide +kernel)) (fun _ _ _ _ _ => (dg_tup rfl (dgs_cons (dg_name (pg_name (i := 5) sc_are_offsets.nd rfl (by first | exact .inl rfl | exact .inr rfl) (by first | exact .inl rfl | exact .inr rfl))) (dgs_cons (dg_name (pg_name (i := 4) sc_are_offsets.nd rfl (by first | exact .inl rfl | exact .inr rfl) (by first | exact .inl rfl | exact .inr rfl))) dgs_nil rfl) rfl) rfl rfl)) (fun _ _ _ _ _ => dts_nil) (fun _ _ _ _ _ => (de_call G_are_apart B_are_apart_4 hg (hr.mono (by decide)) rfl (da_cons (de_var (pv 2)) (da_cons (de_var (pv 1)) (da_cons (de_var (pv 5)) (da_cons (de_var (pv 4)) da_nil rfl) rfl) rfl) rfl) (by decide) rfl rfl rfl)) (by decide) (fun _ => rfl))) da_nil rfl) (by decide) (by decide) rfl rfl)))))
theorem ok_all_offsets (t : T K mg) : ∃ f fd, Fd P w K mg base 4 "all_offsets" f fd P_all_offsets S_all_offsets ∧ KB K fd P_all_offsets 1 [] [0] D_all_offsets := by
  obtain ⟨f, fd, m, F⟩ := t.d_all_offsets
  obtain ⟨_, _, G_all_ages, B_all_ages_1⟩ := ok_all_ages (P := P) (w := w) (base := base) t
  obtain ⟨_, _, G_are_offsets, B_are_offsets_2⟩ := ok_are_offsets (P := P) (w := w) (base := base) t
  refine ⟨f, fd, ⟨m, F.kp, ?_⟩, kb_all F 1 [] [0] fun _ _ _ _ _ _ us ws h1 h2 => match us, h1, ws, h2 with | [_], _, [], _ => rfl⟩
  refine fnG_of (k := 3) (wb := w_all_offsets) F sc_all_offsets fun cdv A outer s H hg hr => ?_
  exact (db_one (ds_ret (de_frz (df_lc (own := [("numbers", 1)]) rfl sc_all_offsets.nd (di_seq (de_call G_all_ages B_all_ages_1 hg (hr.mono (by decide)) rfl (da_cons (de_var (pv 0)) da_nil rfl) (by decide) rfl rfl rfl)) (blkOk_by (N := N_all_offsets) (sc := defScope s_all_offsets) (by decide +kernel)) (fun _ _ _ _ _ => (dg_name (pg_name (i := 1) sc_all_offsets.nd rfl (by first | exact .inl rfl | exact .inr rfl) (by first | exact .inl rfl | exact .inr rfl)))) (fun _ _ _ _ _ => (dts_one (dt_tru (de_call G_are_offsets B_are_offsets_2 hg (hr.mono (by decide)) rfl (da_cons (de_var (pv 0)) (da_cons (de_var (pv 1)) da_nil rfl) rfl) (by decide) rfl rfl rfl) (fun _ => rfl)))) (fun _ _ _ _ _ => (de_var (pv 1))) (by decide) (fun _ => rfl)))))
theorem ok_offsets (t : T K mg) : ∃ f fd, Fd P w K mg base 7 "offsets" f fd P_offsets S_offsets ∧ KB K fd P_offsets 1 [] [0] D_offsets ∧ KB K fd P_offsets 0 ["house"] [0] D_offsets := by
  obtain ⟨f, fd, m, F⟩ := t.d_offsets
  obtain ⟨_, _, G_check_house, B_check_house_1⟩ := ok_check_house (P := P) (w := w) (base := base) t
  obtain ⟨_, _, G_all_offsets, B_all_offsets_1⟩ := ok_all_offsets (P := P) (w := w) (base := base) t
  refine ⟨f, fd, ⟨m, F.kp, ?_⟩, kb_all F 1 [] [0] fun _ _ _ _ _ _ us ws h1 h2 => match us, h1, ws, h2 with | [_], _, [], _ => rfl, kb_all F 0 ["house"] [0] fun _ _ _ _ _ _ us ws h1 h2 => match us, h1, ws, h2 with | [], _, [_], _ => rfl⟩
  refine fnG_of (k := 6) (wb := w_offsets) F sc_offsets fun cdv A outer s H hg hr => ?_
  exact (db_cons (ds_expr (de_call G_check_house B_check_house_1 hg (hr.mono (by decide)) rfl (da_cons (de_var (pv 0)) da_nil rfl) (by decide) rfl rfl rfl) rfl) (db_cons (ds_asg (de_call G_all_offsets B_all_offsets_1 hg (hr.mono (by decide)) rfl (da_cons (de_var (pv 0)) da_nil rfl) (by decide) rfl rfl rfl) (dg_name (pg_name (i := 1) sc_offsets.nd rfl (by first | exact .inl rfl | exact .inr rfl) (by first | exact .inl rfl | exact .inr rfl))) rfl rfl rfl) (db_one (ds_ret (de_if (dt_tru (de_var (pv 1)) (fun _ => rfl)) (de_ix (de_var (pv 1)) (de_c pe_int fun _ => .int _) (fun _ _ => rfl)) (de_c pe_non fun _ => .non))))))
theorem ok_offsets_number (t : T K mg) : ∃ f fd, Fd P w K mg base 7 "offsets_number" f fd P_offsets_number S_offsets_number ∧ KB K fd P_offsets_number 1 [] [0] D_offsets_number ∧ KB K fd P_offsets_number 0 ["house"] [0] D_offsets_number := by
  obtain ⟨f, fd, m, F⟩ := t.d_offsets_number
  obtain ⟨_, _, G_check_house, B_check_house_1⟩ := ok_check_house (P := P) (w := w) (base := base) t
  obtain ⟨_, _, G_all_offsets, B_all_offsets_1⟩ := ok_all_offsets (P := P) (w := w) (base := base) t
  refine ⟨f, fd, ⟨m, F.kp, ?_⟩, kb_all F 1 [] [0] fun _ _ _ _ _ _ us ws h1 h2 => match us, h1, ws, h2 with | [_], _, [], _ => rfl, kb_all F 0 ["house"] [0] fun _ _ _ _ _ _ us ws h1 h2 => match us, h1, ws, h2 with | [], _, [_], _ => rfl⟩
  refine fnG_of (k := 6) (wb := w_offsets_number) F sc_offsets_number fun cdv A outer s H hg hr => ?_
  exact (db_cons (ds_expr (de_call G_check_house B_check_house_1 hg (hr.mono (by decide)) rfl (da_cons (de_var (pv 0)) da_nil rfl) (by decide) rfl rfl rfl) rfl) (db_one (ds_ret (de_blt call_len b_len rfl t.z_len (by decide +kernel) (da_cons (de_call G_all_offsets B_all_offsets_1 hg (hr.mono (by decide)) rfl (da_cons (de_var (pv 0)) da_nil rfl) (by decide) rfl rfl rfl) da_nil rfl) (by decide) (by decide) rfl rfl))))
theorem ok__law_right (t : T K mg) : ∃ f fd, Fd P w K mg base 8 "_law_right" f fd P__law_right S__law_right ∧ KB K fd P__law_right 1 [] [0] D__law_right := by
  obtain ⟨f, fd, m, F⟩ := t.d__law_right
  obtain ⟨_, _, G__law_house, B__law_house_4⟩ := ok__law_house (P := P) (w := w) (base := base) t
  obtain ⟨_, _, G__law_any, B__law_any_2⟩ := ok__law_any (P := P) (w := w) (base := base) t
  obtain ⟨_, _, G__law_deal, B__law_deal_2⟩ := ok__law_deal (P := P) (w := w) (base := base) t
  obtain ⟨_, _, G__law_limits, B__law_limits_1⟩ := ok__law_limits (P := P) (w := w) (base := base) t
  obtain ⟨_, _, G__law_all_ages, B__law_all_ages_1⟩ := ok__law_all_ages (P := P) (w := w) (base := base) t
  obtain ⟨_, _, G__law_are_offsets, B__law_are_offsets_2⟩ := ok__law_are_offsets (P := P) (w := w) (base := base) t
  obtain ⟨_, _, G_offsets, B_offsets_1, B_offsets_0_house⟩ := ok_offsets (P := P) (w := w) (base := base) t
  obtain ⟨_, _, G_offsets_number, B_offsets_number_1, B_offsets_number_0_house⟩ := ok_offsets_number (P := P) (w := w) (base := base) t
  refine ⟨f, fd, ⟨m, F.kp, ?_⟩, kb_all F 1 [] [0] fun _ _ _ _ _ _ us ws h1 h2 => match us, h1, ws, h2 with | [_], _, [], _ => rfl⟩
  refine fnG_of (k := 7) (wb := w__law_right) F sc__law_right fun cdv A outer s H hg hr => ?_
  exact (db_cons (ds_for PassesOwn.never rfl (di_rng1 rfl t.z_range (de_c pe_int fun _ => .int _) rfl) (dg_name (pg_name (i := 1) sc__law_right.nd rfl (by first | exact .inl rfl | exact .inr rfl) (by first | exact .inl rfl | exact .inr rfl))) (db_cons (ds_asg (de_call G__law_house B__law_house_4 hg (hr.mono (by decide)) rfl (da_cons (de_var (pv 0)) (da_cons (de_c pe_int fun _ => .int _) (da_cons (de_call G__law_any B__law_any_2 hg (hr.mono (by decide)) rfl (da_cons (de_var (pv 0)) (da_cons (de_frz (df_lst (da_cons (de_c pe_int fun _ => .int _) (da_cons (de_c pe_int fun _ => .int _) (da_cons (de_c pe_int fun _ => .int _) da_nil rfl) rfl) rfl))) da_nil rfl) rfl) (by decide) rfl rfl rfl) (da_cons (de_c pe_int fun _ => .int _) da_nil rfl) rfl) rfl) rfl) (by decide) rfl rfl rfl) (dg_name (pg_name (i := 2) sc__law_right.nd rfl (by first | exact .inl rfl | exact .inr rfl) (by first | exact .inl rfl | exact .inr rfl))) rfl rfl rfl) (db_cons (ds_if (dt_cmp (op_eqA hr.units) o2_eq (de_call G__law_deal B__law_deal_2 hg (hr.mono (by decide)) rfl (da_cons (de_var (pv 0)) (da_cons (de_c pe_int fun _ => .int _) da_nil rfl) rfl) (by decide) rfl rfl rfl) (de_c pe_int fun _ => .int _) (by rfl)) (db_one (ds_asg (de_bty call_tuple_of b_tuple rfl t.z_tuple (by decide +kernel) (da_cons (de_frz (df_lc (own := [("k", 7)]) rfl sc__law_right.nd (di_rng1 rfl t.z_range (de_blt (call_min2 rfl) b_min2 rfl t.z_min (by decide +kernel) (da_cons (de_c pe_int fun _ => .int _) (da_cons (de_blt call_len b_len rfl t.z_len (by decide +kernel) (da_cons (de_var (pv 2)) da_nil rfl) (by decide) (by decide) rfl rfl) da_nil rfl) rfl) (by decide) (by decide) rfl rfl) rfl) (blkOk_by (N := N__law_right) (sc := defScope s__law_right) (by decide +kernel)) (fun _ _ _ _ _ => (dg_name (pg_name (i := 7) sc__law_right.nd rfl (by first | exact .inl rfl | exact .inr rfl) (by first | exact .inl rfl | exact .inr rfl)))) (fun _ _ _ _ _ => dts_nil) (fun _ _ _ _ _ => (de_tup (da_cons (de_ix (de_ix (de_var (pv 2)) (de_var (pv 7)) (fun _ _ => rfl)) (de_c pe_int fun _ => .int _) (fun _ _ => rfl)) (da_cons (de_call G__law_any B__law_any_2 hg (hr.mono (by decide)) rfl (da_cons (de_var (pv 0)) (da_cons (de_frz (df_lst (da_cons (de_c pe_int fun _ => .int _) (da_cons (de_c pe_int fun _ => .int _) (da_cons (de_c pe_int fun _ => .int _) (da_cons (de_c pe_int fun _ => .int _) (da_cons (de_c pe_int fun _ => .int _) da_nil rfl) rfl) rfl) rfl) rfl))) da_nil rfl) rfl) (by decide) rfl rfl rfl) da_nil rfl) rfl))) (by decide) (fun _ => rfl))) da_nil rfl) (by decide) (by decide) rfl rfl) (dg_name (pg_name (i := 2) sc__law_right.nd rfl (by first | exact .inl rfl | exact .inr rfl) (by first | exact .inl rfl | exact .inr rfl))) rfl rfl rfl)) db_nil) (db_cons (ds_asg (de_call G__law_limits B__law_limits_1 hg (hr.mono (by decide)) rfl (da_cons (de_var (pv 2)) da_nil rfl) (by decide) rfl rfl rfl) (dg_name (pg_name (i := 3) sc__law_right.nd rfl (by first | exact .inl rfl | exact .inr rfl) (by first | exact .inl rfl | exact .inr rfl))) rfl rfl rfl) (db_cons (ds_setLcF (i := 4) (own := [("row", 8)]) rfl sc__law_right.nd rfl rfl (sw_true rfl rfl rfl (by decide +kernel)) (di_seq (de_call G__law_all_ages B__law_all_ages_1 hg (hr.mono (by decide)) rfl (da_cons (de_var (pv 3)) da_nil rfl) (by decide) rfl rfl rfl)) (blkOk_by (N := N__law_right) (sc := defScope s__law_right) (by decide +kernel)) (fun _ _ _ _ _ => (dg_name (pg_name (i := 8) sc__law_right.nd rfl (by first | exact .inl rfl | exact .inr rfl) (by first | exact .inl rfl | exact .inr rfl)))) (fun _ _ _ _ _ => (dts_one (dt_tru (de_call G__law_are_offsets B__law_are_offsets_2 hg (hr.mono (by decide)) rfl (da_cons (de_var (pv 3)) (da_cons (de_var (pv 8)) da_nil rfl) rfl) (by decide) rfl rfl rfl) (fun _ => rfl)))) (fun _ _ _ _ _ => (de_var (pv 8))) (by decide) (fun _ => rfl)) (db_cons (ds_asg (de_if (dt_cmp (op_neA hr.units) o2_ne (de_var (pv 4)) (de_frz (df_lst da_nil)) (by rfl)) (de_ix (de_var (pv 4)) (de_c pe_int fun _ => .int _) (fun _ _ => rfl)) (de_c pe_non fun _ => .non)) (dg_name (pg_name (i := 5) sc__law_right.nd rfl (by first | exact .inl rfl | exact .inr rfl) (by first | exact .inl rfl | exact .inr rfl))) rfl rfl rfl) (db_cons (ds_setF (i := 6) sc__law_right.nd rfl (by first | exact .inl rfl | exact .inr rfl) (df_lst (da_cons (de_call G_offsets B_offsets_1 hg (hr.mono (by decide)) rfl (da_cons (de_var (pv 2)) da_nil rfl) (by decide) rfl rfl rfl) (da_cons (de_callK0 G_offsets B_offsets_0_house hg (hr.mono (by decide)) rfl (dk_cons (de_var (pv 2)) dk_nil) rfl rfl (by decide) rfl rfl rfl) (da_cons (de_call G_offsets_number B_offsets_number_1 hg (hr.mono (by decide)) rfl (da_cons (de_var (pv 2)) da_nil rfl) (by decide) rfl rfl rfl) (da_cons (de_callK0 G_offsets_number B_offsets_number_0_house hg (hr.mono (by decide)) rfl (dk_cons (de_var (pv 2)) dk_nil) rfl rfl (by decide) rfl rfl rfl) da_nil rfl) rfl) rfl) rfl)) rfl (by first | exact .inl rfl | exact .inr rfl)) (db_one (ds_if (dt_cmp (op_neA hr.units) o2_ne (de_blt (call_repr hg hr.units) b_repr rfl t.z_repr (by decide +kernel) (da_cons (de_var (pv 6)) da_nil rfl) (by decide) (by decide) rfl rfl) (de_blt (call_repr hg hr.units) b_repr rfl t.z_repr (by decide +kernel) (da_cons (de_frz (df_lst (da_cons (de_var (pv 5)) (da_cons (de_var (pv 5)) (da_cons (de_blt call_len b_len rfl t.z_len (by decide +kernel) (da_cons (de_var (pv 4)) da_nil rfl) (by decide) (by decide) rfl rfl) (da_cons (de_blt call_len b_len rfl t.z_len (by decide +kernel) (da_cons (de_var (pv 4)) da_nil rfl) (by decide) (by decide) rfl rfl) da_nil rfl) rfl) rfl) rfl))) da_nil rfl) (by decide) (by decide) rfl rfl) (by rfl)) (db_one (ds_ret (de_c pe_bl fun _ => .bl _))) db_nil)))))))) (fun _ => rfl)) (db_one (ds_ret (de_c pe_bl fun _ => .bl _))))
theorem ok__law_pail (t : T K mg) : ∃ f fd, Fd P w K mg base 1 "_law_pail" f fd P__law_pail S__law_pail ∧ KB K fd P__law_pail 2 [] [0, 1] D__law_pail := by
  obtain ⟨f, fd, m, F⟩ := t.d__law_pail
  refine ⟨f, fd, ⟨m, F.kp, ?_⟩, kb_all F 2 [] [0, 1] fun _ _ _ _ _ _ us ws h1 h2 => match us, h1, ws, h2 with | [_, _], _, [], _ => rfl⟩
  refine fnG_of (k := 0) (wb := w__law_pail) F sc__law_pail fun cdv A outer s H hg hr => ?_
  exact (db_cons (ds_asg (de_add (de_c pe_int fun _ => .int _) (de_op op_mul o2_I (de_c pe_int fun _ => .int _) (de_var (pv 1)))) (dg_name (pg_name (i := 2) sc__law_pail.nd rfl (by first | exact .inl rfl | exact .inr rfl) (by first | exact .inl rfl | exact .inr rfl))) rfl rfl rfl) (db_cons (ds_for PassesOwn.never rfl (di_seq (de_slA (de_var (pv 0)) do_none (do_some (de_c pe_int fun _ => .int _)))) (dg_name (pg_name (i := 3) sc__law_pail.nd rfl (by first | exact .inl rfl | exact .inr rfl) (by first | exact .inl rfl | exact .inr rfl))) (db_one (ds_asg (de_op op_mod o2_I (de_bty call_int1 b_int rfl t.z_int (by decide +kernel) (da_cons (de_add (de_add (de_op op_mul o2_I (de_var (pv 2)) (de_c pe_int fun _ => .int _)) (de_op op_mul o2_I (de_op op_mod o2_I (de_bty call_int1 b_int rfl t.z_int (by decide +kernel) (da_cons (de_var (pv 3)) da_nil rfl) (by decide) (by decide) rfl rfl) (de_c pe_int fun _ => .int _)) (de_c pe_int fun _ => .int _))) (de_c pe_int fun _ => .int _)) da_nil rfl) (by decide) (by decide) rfl rfl) (de_c pe_int fun _ => .int _)) (dg_name (pg_name (i := 2) sc__law_pail.nd rfl (by first | exact .inl rfl | exact .inr rfl) (by first | exact .inl rfl | exact .inr rfl))) rfl rfl rfl)) (fun _ => rfl)) (db_cons (ds_asg (de_if (dt_cmp (op_lt3 hr.units) o2_lt (de_var (pv 1)) (de_blt call_len b_len rfl t.z_len (by decide +kernel) (da_cons (de_var (pv 0)) da_nil rfl) (by decide) (by decide) rfl rfl) (by rfl)) (de_bty call_int1 b_int rfl t.z_int (by decide +kernel) (da_cons (de_ix (de_var (pv 0)) (de_var (pv 1)) (fun _ _ => rfl)) da_nil rfl) (by decide) (by decide) rfl rfl) (de_c pe_int fun _ => .int _)) (dg_name (pg_name (i := 4) sc__law_pail.nd rfl (by first | exact .inl rfl | exact .inr rfl) (by first | exact .inl rfl | exact .inr rfl))) rfl rfl rfl) (db_cons (ds_asg (de_op op_mod o2_I (de_bty call_int1 b_int rfl t.z_int (by decide +kernel) (da_cons (de_add (de_add (de_op op_mul o2_I (de_var (pv 2)) (de_c pe_int fun _ => .int _)) (de_op op_mul o2_I (de_op op_mod o2_I (de_var (pv 4)) (de_c pe_int fun _ => .int _)) (de_c pe_int fun _ => .int _))) (de_c pe_int fun _ => .int _)) da_nil rfl) (by decide) (by decide) rfl rfl) (de_c pe_int fun _ => .int _)) (dg_name (pg_name (i := 2) sc__law_pail.nd rfl (by first | exact .inl rfl | exact .inr rfl) (by first | exact .inl rfl | exact .inr rfl))) rfl rfl rfl) (db_one (ds_retW (df_lst (da_cons (de_if (PW.pt (dw_or (dt_cmp (op_lt3 hr.units) o2_lt (de_var (pv 4)) (de_c pe_int fun _ => .int _) (by rfl)) (dw_or1 (dt_cmp (op_ge.or op_ge_str) o2_ge (de_var (pv 4)) (de_op op_pow o2_I (de_c pe_int fun _ => .int _) (de_c pe_int fun _ => .int _)) (by rfl))))) (de_blt call_abs b_abs rfl t.z_abs (by decide +kernel) (da_cons (de_var (pv 4)) da_nil rfl) (by decide) (by decide) rfl rfl) (de_c pe_int fun _ => .int _)) (da_cons (de_var (pv 2)) (da_cons (de_c pe_int fun _ => .int _) da_nil rfl) rfl) rfl))))))))
theorem ok_law {f : Addr} {fd : FuncData} (t : T K mg) (F : FunD K "law" "law" (defArgs s_law) (defBody s_law) (defScope s_law) [] [] f fd) : FnG P w K mg base 9 f fd P_law (DSp K S_law) := by
  obtain ⟨_, _, G__law_right, B__law_right_1⟩ := ok__law_right (P := P) (w := w) (base := base) t
  obtain ⟨_, _, G__law_pail, B__law_pail_2⟩ := ok__law_pail (P := P) (w := w) (base := base) t
  refine fnG_of (k := 8) (wb := w_law) F sc_law fun cdv A outer s H hg hr => ?_
  exact (db_one (ds_ret (de_blt (cr_all rfl) b_all rfl t.z_all (by decide +kernel) (da_cons (de_frz (df_lc (own := [("turn", 1)]) rfl sc_law.nd (di_rng1 rfl t.z_range (de_blt (call_max2 rfl) b_max2 rfl t.z_max (by decide +kernel) (da_cons (de_c pe_int fun _ => .int _) (da_cons (de_blt (call_min2 rfl) b_min2 rfl t.z_min (by decide +kernel) (da_cons (de_blt call_len b_len rfl t.z_len (by decide +kernel) (da_cons (de_var (pv 0)) da_nil rfl) (by decide) (by decide) rfl rfl) (da_cons (de_c pe_int fun _ => .int _) da_nil rfl) rfl) (by decide) (by decide) rfl rfl) da_nil rfl) rfl) (by decide) (by decide) rfl rfl) rfl) (blkOk_by (N := N_law) (sc := defScope s_law) (by decide +kernel)) (fun _ _ _ _ _ => (dg_name (pg_name (i := 1) sc_law.nd rfl (by first | exact .inl rfl | exact .inr rfl) (by first | exact .inl rfl | exact .inr rfl)))) (fun _ _ _ _ _ => dts_nil) (fun _ _ _ _ _ => (de_call G__law_right B__law_right_1 hg (hr.mono (by decide)) rfl (da_cons (de_call G__law_pail B__law_pail_2 hg (hr.mono (by decide)) rfl (da_cons (de_var (pv 0)) (da_cons (de_var (pv 1)) da_nil rfl) rfl) (by decide) rfl rfl rfl) da_nil rfl) (by decide) rfl rfl rfl)) (by decide) (fun _ => rfl))) da_nil rfl) (by decide) (by decide) rfl rfl)))
end
end DL
namespace DL
open PySem PySem.Spec PyProof.Rows L2
def wholeD : D → Bool
  | .int _ => true
  | _ => false
def plainD (d : D) : Prop := d ≠ .well ∧ ∀ ks vs, d ≠ .dct ks vs
theorem whole_of (d : D) (Q : D → Prop) (h : plainD d) (q : Q (.bl (wholeD d))) : S_is_whole [d] Q := by
  obtain ⟨h1, h2⟩ := h
  simp [S_is_whole, w_is_whole, env0, h1]
  cases d <;> simp_all [isB, wholeD]
theorem number_of (i lo hi : Int) (Q : D → Prop) (q : Q (.bl (decide (lo ≤ i ∧ i ≤ hi)))) : S_is_number [.int i, .int lo, .int hi] Q := by
  simp [S_is_number, w_is_number, env0]
  refine whole_of _ _ ⟨by simp, by simp⟩ ?_
  simp [wholeD, oIsN]
  by_cases h : lo ≤ i
  · simp_all
  · simp only [h, false_and, decide_false] at q ⊢
    simpa using q
def smallB (c : Nat) : Bool := decide (97 ≤ c ∧ c ≤ 122)
theorem small_in (c : Nat) : decide (c ∈ ("abcdefghijklmnopqrstuvwxyz" : Str).cps) = smallB c := by
  have e : ("abcdefghijklmnopqrstuvwxyz" : Str).cps = ((List.range 26).map (· + 97)).toArray := by decide +kernel
  rw [e]
  unfold smallB
  congr 1
  simp only [List.mem_toArray, List.mem_map, List.mem_range, eq_iff_iff]
  constructor
  · rintro ⟨a, h, rfl⟩; omega
  · intro h; exact ⟨c - 97, by omega, by omega⟩
theorem all_true {α : Type} (xs : List α) : (xs.map fun _ => true).all id = true := by
  rw [List.all_eq_true]
  intro b hb
  obtain ⟨_, _, rfl⟩ := List.mem_map.mp hb
  rfl
theorem filter_true {α : Type} (xs : List α) : xs.filter (fun _ => true) = xs := List.filter_eq_self.mpr fun _ _ => rfl
theorem made_of (x : Str) (Q : D → Prop) (h0 : x ≠ "") (hz : x.length ≤ sizeLine) (q : Q (.bl (x.cps.toList.all smallB))) : S_is_made_of [.str x, .str "abcdefghijklmnopqrstuvwxyz"] Q := by
  simp [S_is_made_of, w_is_made_of, env0, h0]
  refine ⟨by simp [noOw], ?_⟩
  unfold signs
  refine compL_map (α := Nat) (fun c => D.str ⟨#[c]⟩) (fun c => D.bl (smallB c)) (fun _ => true) _ _ (by simpa [Str.length] using hz) (fun c hc acc hl K k => ?_) ?_
  · simp [wipeD, oIn]
    exact ⟨hl, by rw [small_in]; simpa using k⟩
  · rw [filter_true]
    simp
    exact ⟨x.cps.toList.map smallB, by simp, by simpa [List.all_map] using q⟩
structure GoodName (x : Str) : Prop where
  ne : x ≠ ""
  len : x.length ≤ 8
  sm : x.cps.toList.all smallB = true
  no : x ∉ W_WORDS
theorem str_of (x : Str) (Q : D → Prop) (q : Q (.bl true)) : S_is_string [.str x] Q := by
  simp [S_is_string, w_is_string, env0, isB]
  exact q
theorem word_of {x : Str} (Q : D → Prop) (h : GoodName x) (q : Q (.bl true)) : S_is_word [.str x] Q := by
  simp [S_is_word, w_is_word, env0]
  refine str_of _ _ ?_
  simp
  refine made_of _ _ h.ne (Nat.le_trans h.len (by decide)) ?_
  rw [h.sm]
  exact q
theorem deq_str (x y : Str) : deq (.str x) (.str y) = decide (x = y) := by
  unfold deq D.py
  rw [Bool.eq_iff_iff]
  simp [PyData.eqv]
theorem good_str {x : Str} (n : Nat) (h : PyData.strOk x = true) : (D.str x).good n = true := by
  cases n <;> exact h
theorem good_strs {xs : List Str} (n : Nat) (h : xs.all PyData.strOk = true) : goodAll n (xs.map D.str) = true := by
  rw [goodAll_iff]
  intro d hd
  obtain ⟨x, hx, rfl⟩ := List.mem_map.mp hd
  exact good_str n (List.all_eq_true.mp h x hx)
theorem GoodName.ok {x : Str} (h : GoodName x) : PyData.strOk x = true := by
  unfold PyData.strOk
  rw [← Array.all_toList, List.all_eq_true]
  intro c hc
  have q := List.all_eq_true.mp h.sm c hc
  unfold smallB at q
  have := of_decide_eq_true q
  exact decide_eq_true (by omega)
theorem name_of {x : Str} (Q : D → Prop) (h : GoodName x) (q : Q (.bl true)) : S_is_name [.str x] Q := by
  simp [S_is_name, w_is_name, env0]
  refine word_of _ h ?_
  have hl := h.len
  have hn : ((W_WORDS.map D.str).any fun z => deq z (.str x)) = false := by
    rw [List.any_eq_false]
    intro z hz
    obtain ⟨y, hy, rfl⟩ := List.mem_map.mp hz
    rw [deq_str]
    intro e
    have e2 := of_decide_eq_true e
    subst e2
    exact h.no hy
  simp
  refine ⟨Nat.le_trans hl (by decide), ?_⟩
  have hl' : (x.length : Int) ≤ 8 := by omega
  have hw : W_WORDS.all PyData.strOk = true := by decide +kernel
  simp [hl', oNotIn, oIn, good_str 7 h.ok, good_strs 7 hw, hn]
  exact q
theorem tuple_of (ds : List D) (k : Int) (Q : D → Prop) (q : Q (.bl (decide ((ds.length : Int) = k)))) : S_is_tuple_of [.tup ds, .int k] Q := by
  simp [S_is_tuple_of, w_is_tuple_of, env0, isB]
  exact q
theorem limit_ok {l : Int} (Q : D → Prop) (h : 1 ≤ l ∧ l ≤ 60) (q : Q (.bl true)) : S_is_limit [.int l] Q := by
  simp [S_is_limit, w_is_limit, env0]
  refine number_of _ _ _ _ ?_
  simp [h]
  exact q
def pairD (p : Str × Int) : D := .tup [.str p.1, .int p.2]
theorem atI0 {α : Type} (a : α) (r : List α) : atI (a :: r) 0 = some a := L2.atI_nat (j := 0) rfl
theorem atI1 {α : Type} (a b : α) (r : List α) : atI (a :: b :: r) 1 = some b := L2.atI_nat (j := 1) rfl
theorem pair_of {p : Str × Int} (Q : D → Prop) (h : GoodName p.1) (hl : 1 ≤ p.2 ∧ p.2 ≤ 60) (q : Q (.bl true)) : S_is_pair_of_house [pairD p] Q := by
  simp [S_is_pair_of_house, w_is_pair_of_house, env0, pairD]
  refine tuple_of _ _ _ ?_
  simp [atI0, atI1]
  refine name_of _ h ?_
  simp [atI0, atI1]
  exact limit_ok _ hl q
def houseD (hs : List (Str × Int)) : D := .tup (hs.map pairD)
theorem names_of_ok (hs : List (Str × Int)) (Q : D → Prop) (hz : hs.length ≤ sizeLine) (q : Q (.lst (hs.map fun p => .str p.1))) : S_names_of [houseD hs] Q := by
  simp [S_names_of, w_names_of, env0, houseD]
  refine ⟨by simp [noOw], ?_⟩
  refine compL_map pairD (fun p => .str p.1) (fun _ => true) _ _ (by simpa using hz) (fun c hc acc hl K k => ?_) ?_
  · simp [wipeD, pairD]
    exact ⟨hl, by simpa using k⟩
  · rw [filter_true]
    simpa using q
theorem limits_in_ok (hs : List (Str × Int)) (Q : D → Prop) (hz : hs.length ≤ sizeLine) (q : Q (.lst (hs.map fun p => .int p.2))) : S_limits_in [houseD hs] Q := by
  simp [S_limits_in, w_limits_in, env0, houseD]
  refine ⟨by simp [noOw], ?_⟩
  refine compL_map pairD (fun p => .int p.2) (fun _ => true) _ _ (by simpa using hz) (fun c hc acc hl K k => ?_) ?_
  · simp [wipeD, pairD]
    exact ⟨hl, by simpa using k⟩
  · rw [filter_true]
    simpa using q
def prodI : List Int → Int
  | [] => 1
  | n :: ns => n * prodI ns
theorem product_ok (ns : List Int) (Q : D → Prop) (hn : ∀ n ∈ ns, 0 ≤ n ∧ n < 1000) (q : Q (.int (prodI ns))) : S_product_of [.lst (ns.map .int)] Q := by
  simp [S_product_of, w_product_of, env0]
  refine forL_ind (fun rest ρ => ∃ (ms : List Int) (a : Int) (v : Option Slot), rest = ms.map D.int ∧ (∀ n ∈ ms, 0 ≤ n ∧ n < 1000) ∧ a * prodI ms = prodI ns ∧ ρ = [some (.sh (.lst (ns.map .int))), some (.sh (.int a)), v]) ?_ ?_ _ _ ⟨ns, 1, none, rfl, hn, by omega, rfl⟩
  · rintro d rest ρ ⟨ms, a, v, e, hm, ha, rfl⟩ K k
    cases ms with
    | nil => cases e
    | cons m ms =>
      cases e
      have hm0 := hm m (List.mem_cons_self ..)
      simp [CMul]
      refine ⟨.inr ⟨by omega, by omega⟩, k _ ⟨ms, a * m, _, rfl, fun n hn => hm n (List.mem_cons_of_mem _ hn), ?_, rfl⟩⟩
      rw [← ha]
      show a * m * prodI ms = a * (m * prodI ms)
      rw [Int.mul_assoc]
  · rintro ρ ⟨ms, a, v, e, hm, ha, rfl⟩
    cases ms with
    | cons m ms => cases e
    | nil =>
      have ha' : a * 1 = prodI ns := ha
      simp
      rw [show a = prodI ns by omega]
      exact q
theorem rngD_map (lo : Int) (n : Nat) : rngD lo n = (List.range n).map fun i : Nat => D.int (lo + (i : Int)) := rfl
theorem strs_up {xs : List Str} (h : xs.Pairwise fun a b => strLt a b = true) {i : Nat} {a b : Str} (h1 : xs[i]? = some a) (h2 : xs[i + 1]? = some b) : strLt a b = true := by
  obtain ⟨l1, e1⟩ := List.getElem?_eq_some_iff.mp h1
  obtain ⟨l2, e2⟩ := List.getElem?_eq_some_iff.mp h2
  rw [← e1, ← e2]
  exact List.pairwise_iff_getElem.mp h i (i + 1) l1 l2 (Nat.lt_succ_self i)
theorem ascending_ok (xs : List Str) (Q : D → Prop) (hz : xs.length ≤ 1000) (h : xs.Pairwise fun a b => strLt a b = true) (q : Q (.bl true)) : S_is_ascending [.lst (xs.map .str)] Q := by
  simp [S_is_ascending, w_is_ascending, env0]
  refine ⟨by omega, by simp [noOw], ?_⟩
  rw [rngD_map]
  refine compL_map (α := Nat) _ (fun _ => .bl true) (fun _ => true) _ _ ?_ (fun c hc acc hl K k => ?_) ?_
  · simp
    exact Nat.le_trans (by omega : _ ≤ 1000) (by decide)
  · have hc' : c < xs.length - 1 := by
      have := List.mem_range.mp hc
      omega
    have e1 : (xs.map D.str)[c]? = some (.str xs[c]) := by simp [List.getElem?_map, List.getElem?_eq_getElem (show c < xs.length by omega)]
    have e2 : (xs.map D.str)[c + 1]? = some (.str (xs[c + 1]'(by omega))) := by simp [List.getElem?_map, List.getElem?_eq_getElem (show c + 1 < xs.length by omega)]
    have z1 : (1 + (c : Int) - 1) = (c : Int) := by omega
    have z2 : (1 + (c : Int)) = ((c + 1 : Nat) : Int) := by omega
    have a2 : atI (xs.map D.str) (1 + (c : Int)) = some (.str (xs[c + 1]'(by omega))) := by rw [z2]; exact atI_ok e2
    simp [wipeD, z1, a2, atI_ok e1]
    rw [strs_up h (List.getElem?_eq_getElem (show c < xs.length by omega)) (List.getElem?_eq_getElem (show c + 1 < xs.length by omega))]
    exact ⟨hl, by simpa using k⟩
  · rw [filter_true]
    simp
    exact ⟨(List.range (xs.length - 1)).map fun _ => true, by simp, by rw [all_true]; exact q⟩
structure HouseOK (hs : List (Str × Int)) : Prop where
  one : 1 ≤ hs.length
  six : hs.length ≤ 6
  nm : ∀ p ∈ hs, GoodName p.1
  lm : ∀ p ∈ hs, 1 ≤ p.2 ∧ p.2 ≤ 60
  up : (hs.map (·.1)).Pairwise fun a b => strLt a b = true
  pr : prodI (hs.map (·.2)) ≤ 600
theorem good_pairs {hs : List (Str × Int)} : True := trivial
theorem form_ok {hs : List (Str × Int)} (Q : D → Prop) (h : HouseOK hs) (q : Q (.bl true)) : S_is_house_form [houseD hs] Q := by
  have h6 := h.six
  have h1 := h.one
  have hz : hs.length ≤ sizeLine := Nat.le_trans h6 (by decide)
  simp [S_is_house_form, w_is_house_form, env0]
  simp [houseD, isB]
  have c1 : (1 : Int) ≤ hs.length := by omega
  have c2 : (hs.length : Int) ≤ 6 := by omega
  simp [c1, c2]
  refine .inr (.inr ⟨by simp [noOw], ?_⟩)
  refine compL_map pairD (fun _ => .bl true) (fun _ => true) _ _ (by simpa using hz) (fun c hc acc hl K k => ?_) ?_
  · simp [wipeD]
    refine pair_of _ (h.nm c hc) (h.lm c hc) ?_
    exact ⟨hl, by simpa using k⟩
  · rw [filter_true]
    simp
    refine ⟨hs.map fun _ => true, by simp, ?_⟩
    simp
    refine names_of_ok hs _ hz ?_
    have e : (hs.map fun p => D.str p.1) = (hs.map (·.1)).map D.str := by simp
    rw [e]
    refine ascending_ok _ _ (by simp; omega) h.up ?_
    simp
    refine limits_in_ok hs _ hz ?_
    have e : (hs.map fun p => D.int p.2) = (hs.map (·.2)).map D.int := by simp
    rw [e]
    refine product_ok _ _ (fun n hn => ?_) ?_
    · obtain ⟨p, hp, rfl⟩ := List.mem_map.mp hn
      have := h.lm p hp
      omega
    · have hp := h.pr
      simp [hp]
      exact q
theorem check_ok {hs : List (Str × Int)} (Q : D → Prop) (h : HouseOK hs) (q : Q .non) : S_check_house [houseD hs] Q := by
  simp [S_check_house, w_check_house, env0]
  refine form_ok _ h ?_
  simp
  exact q
end DL
namespace DL
open PySem PySem.Spec PyProof.Rows L2
def rowD (r : List Int) : D := .tup (r.map .int)
def wider (found : List (List Int)) (l : Int) : List (List Int) := found.flatMap fun row => (List.range l.toNat).map fun n : Nat => row ++ [(n : Int)]
def below : List (List Int) → List Int → List (List Int)
  | found, [] => found
  | found, l :: ls => below (wider found l) ls
theorem wider_length (l : Int) : ∀ found : List (List Int), (wider found l).length = found.length * l.toNat
  | [] => by simp [wider]
  | r :: rs => by
    have ih := wider_length l rs
    unfold wider at ih ⊢
    rw [List.flatMap_cons, List.length_append, ih, List.length_map, List.length_range, List.length_cons, Nat.add_mul, Nat.one_mul, Nat.add_comm]
theorem prod_pos : ∀ {ls : List Int}, (∀ l ∈ ls, 1 ≤ l ∧ l ≤ 60) → 1 ≤ prodI ls
  | [], _ => Int.le_refl 1
  | l :: ls, h => by
    have h1 := (h l (List.mem_cons_self ..)).1
    have h2 := prod_pos (ls := ls) fun m hm => h m (List.mem_cons_of_mem _ hm)
    show 1 ≤ l * prodI ls
    have := Int.mul_le_mul h1 h2 (by omega) (by omega)
    omega
theorem rng_ints (l : Int) : rngD 0 l.toNat = ((List.range l.toNat).map fun n : Nat => (n : Int)).map D.int := by
  rw [rngD_map, List.map_map]
  apply List.map_congr_left
  intro n _
  simp
/-- ages with the size told -/
structure RowsOK (found : List (List Int)) (ms : List Int) (n : Nat) : Prop where
  lm : ∀ l ∈ ms, 1 ≤ l ∧ l ≤ 60
  sz : (found.length : Int) * prodI ms ≤ 600
  wd : ∀ r ∈ found, r.length + ms.length = n
theorem RowsOK.next {found : List (List Int)} {l : Int} {ms : List Int} {n : Nat} (h : RowsOK found (l :: ms) n) : RowsOK (wider found l) ms n where
  lm := fun m hm => h.lm m (List.mem_cons_of_mem _ hm)
  sz := by
    have h1 := (h.lm l (List.mem_cons_self ..)).1
    have e : ((l.toNat : Nat) : Int) = l := by omega
    rw [wider_length, Int.natCast_mul, e, Int.mul_assoc]
    exact h.sz
  wd := fun r hr => by
    obtain ⟨r0, h0, h1⟩ := List.mem_flatMap.mp hr
    obtain ⟨k, _, rfl⟩ := List.mem_map.mp h1
    have := h.wd r0 h0
    rw [List.length_cons] at this
    rw [List.length_append, List.length_singleton]
    omega
theorem RowsOK.few {found : List (List Int)} {ms : List Int} {n : Nat} (h : RowsOK found ms n) : found.length ≤ 600 := by
  have h1 := prod_pos h.lm
  have h2 := h.sz
  have h3 : (found.length : Int) * 1 ≤ (found.length : Int) * prodI ms := Int.mul_le_mul_of_nonneg_left h1 (by omega)
  omega
theorem flat_wider (found rest : List (List Int)) (l : Int) : wider (found ++ rest) l = wider found l ++ wider rest l := by
  unfold wider
  rw [List.flatMap_append]
theorem six_le : (600 : Nat) ≤ sizeLine := by decide
theorem below_ok (ls : List Int) (Q : D → Prop) (hn : ls.length ≤ 10) (h : RowsOK [[]] ls ls.length) (q : Q (.lst ((below [[]] ls).map rowD))) : S_all_below [.lst (ls.map .int)] Q := by
  simp [S_all_below, w_all_below, env0]
  refine ⟨by decide, ?_⟩
  refine forL_ind (fun rest ρ => ∃ (ms : List Int) (found : List (List Int)) (v : Option Slot), rest = ms.map D.int ∧ RowsOK found ms ls.length ∧ below found ms = below [[]] ls ∧ ρ = [some (.sh (.lst (ls.map .int))), some (.sh (.lst (found.map rowD))), v, none, none]) ?_ ?_ _ _ ⟨ls, [[]], none, rfl, h, rfl, rfl⟩
  · rintro d rest ρ ⟨ms, found, v, e, hr, hb, rfl⟩ K k
    cases ms with
    | nil => cases e
    | cons l ms =>
      cases e
      have hl := hr.lm l (List.mem_cons_self ..)
      have few := hr.next.few
      have fin : K [some (.sh (.lst (ls.map .int))), some (.sh (.lst ((wider found l).map rowD))), some (.sh (.int l)), none, none] := k _ ⟨ms, wider found l, _, rfl, hr.next, hb, rfl⟩
      have nar : ∀ r ∈ found, r.length ≤ 10 := fun r hr' => by
        have := hr.wd r hr'
        omega
      simp
      refine ⟨by simp [noOw], ?_⟩
      refine compL2_ind (fun rs acc => ∃ a b : List (List Int), found = a ++ b ∧ rs = b.map rowD ∧ acc = (wider a l).map rowD) ?_ ?_ _ _ ⟨[], found, rfl, rfl, rfl⟩
      · rintro d rs acc ⟨a, b, e1, e2, e3⟩ K' k'
        cases b with
        | nil => cases e2
        | cons r b =>
          cases e2
          subst e3
          have hr10 := nar r (by rw [e1]; exact List.mem_append_right _ (List.mem_cons_self ..))
          simp [wipeD]
          refine ⟨by omega, by omega, by simp [noOw], ?_⟩
          rw [rng_ints]
          have ez : (wider (a ++ [r]) l).length ≤ 600 := by
            have e4 : found = (a ++ [r]) ++ b := by rw [e1]; simp
            rw [e4, flat_wider, List.length_append] at few
            omega
          have e5 : wider (a ++ [r]) l = wider a l ++ (List.range l.toNat).map fun n : Nat => r ++ [(n : Int)] := by
            rw [flat_wider]
            simp [wider]
          rw [e5, List.length_append, List.length_map, List.length_range] at ez
          refine compL_map (α := Int) D.int (fun n => rowD (r ++ [n])) (fun _ => true) _ _ ?_ (fun n hn' acc hl' K2 k2 => ?_) ?_
          · simp
            exact Nat.le_trans ez six_le
          · simp [rowD]
            refine ⟨Nat.le_trans (by omega : _ ≤ 600) six_le, hl', ?_⟩
            simpa [rowD] using k2
          · rw [filter_true]
            refine k' _ ⟨a ++ [r], b, by rw [e1]; simp, rfl, ?_⟩
            rw [e5]
            simp [List.map_map, Function.comp_def]
      · rintro acc ⟨a, b, e1, e2, e3⟩
        cases b with
        | cons _ _ => cases e2
        | nil =>
          rw [List.append_nil] at e1
          subst e1 e3
          exact fin
  · rintro ρ ⟨ms, found, v, e, hr, hb, rfl⟩
    cases ms with
    | cons _ _ => cases e
    | nil =>
      simp
      have hb' : found = below [[]] ls := hb
      rw [hb']
      exact q
def limsOf (hs : List (Str × Int)) : List Int := hs.map (·.2)
theorem HouseOK.rows {hs : List (Str × Int)} (h : HouseOK hs) : RowsOK [[]] (limsOf hs) (limsOf hs).length where
  lm := fun l hl => by
    obtain ⟨p, hp, rfl⟩ := List.mem_map.mp hl
    exact h.lm p hp
  sz := by
    have := h.pr
    show ((1 : Nat) : Int) * prodI (hs.map (·.2)) ≤ 600
    omega
  wd := fun r hr => by
    cases List.mem_singleton.mp hr
    simp
theorem HouseOK.few {hs : List (Str × Int)} (h : HouseOK hs) : hs.length ≤ sizeLine := Nat.le_trans h.six (by decide)
theorem all_ages_ok {hs : List (Str × Int)} (Q : D → Prop) (h : HouseOK hs) (q : Q (.lst ((below [[]] (limsOf hs)).map rowD))) : S_all_ages [houseD hs] Q := by
  simp [S_all_ages, w_all_ages, env0]
  refine limits_in_ok hs _ h.few ?_
  have e : (hs.map fun p => D.int p.2) = (limsOf hs).map D.int := by simp [limsOf]
  rw [e]
  exact below_ok _ _ (by have := h.six; simp [limsOf]; omega) h.rows q
theorem gcd_run {Q : D → Prop} (a b : Nat) (q : Q (.int (Nat.gcd a b))) (S : DSpec) (w : WS) (hS : S = runs 2 2 w)
    (hw : w = wSq (wWhile (wTB (w2 oGt (wVar 1) (wC (.int 0)))) (wPar 0 1 false false (wCons (wVar 1) (wCons (w2 oMod (wVar 0) (wVar 1)) wNil)))) (wRet (wVar 0))) : S [.int a, .int b] Q := by
  subst hS hw
  simp [env0]
  refine ⟨b + 1, whileL_ind (fun n ρ => ∃ x y : Nat, n = y ∧ Nat.gcd x y = Nat.gcd a b ∧ ρ = [some (.sh (.int x)), some (.sh (.int y))]) ?_ (b + 1) b _ (Nat.lt_succ_self b) ⟨a, b, rfl, rfl, rfl⟩⟩
  rintro n ρ ⟨x, y, rfl, e, rfl⟩ K k
  simp
  by_cases h : 0 < n
  · simp [h]
    refine .inr (k (x % n) _ (Nat.mod_lt _ h) ⟨n, x % n, rfl, ?_, ?_⟩)
    · rw [← e, Nat.gcd_comm n, ← Nat.gcd_rec, Nat.gcd_comm]
    · simp
  · have : n = 0 := by omega
    subst this
    rw [Nat.gcd_zero_right] at e
    subst e
    simp
    exact q
def nthI (ls : List Int) (i : Nat) : Int := ls.getD i 0
def gcdAt (ls : List Int) (i j : Nat) : Nat := Nat.gcd (nthI ls i).toNat (nthI ls j).toNat
def apartB (ls ns : List Int) (p : Nat × Nat) : Bool := !decide (nthI ns p.1 % (gcdAt ls p.1 p.2 : Int) = nthI ns p.2 % (gcdAt ls p.1 p.2 : Int))
theorem ints_at {ns : List Int} {i : Nat} (h : i < ns.length) : atI (ns.map D.int) (i : Int) = some (.int (nthI ns i)) := by
  refine atI_ok ?_
  rw [List.getElem?_map, List.getElem?_eq_getElem h]
  simp [nthI, List.getD, List.getElem?_eq_getElem h]
theorem lims_nat {ls : List Int} (h : ∀ l ∈ ls, 1 ≤ l ∧ l ≤ 60) {i : Nat} (hi : i < ls.length) : 1 ≤ nthI ls i := by
  have e : nthI ls i = ls[i] := by simp [nthI, List.getD, List.getElem?_eq_getElem hi]
  rw [e]
  exact (h _ (List.getElem_mem hi)).1
theorem common_ok {x y : Int} (hx : 1 ≤ x) (hy : 1 ≤ y) (Q : D → Prop) (q : Q (.int (Nat.gcd x.toNat y.toNat))) : S_common_divisor [.int x, .int y] Q := by
  have e1 : x = (x.toNat : Int) := by omega
  have e2 : y = (y.toNat : Int) := by omega
  rw [e1, e2]
  exact gcd_run x.toNat y.toNat (by simpa using q) _ _ rfl rfl
theorem lcommon_ok {x y : Int} (hx : 1 ≤ x) (hy : 1 ≤ y) (Q : D → Prop) (q : Q (.int (Nat.gcd x.toNat y.toNat))) : S__law_common [.int x, .int y] Q := by
  have e1 : x = (x.toNat : Int) := by omega
  have e2 : y = (y.toNat : Int) := by omega
  rw [e1, e2]
  exact gcd_run x.toNat y.toNat (by simpa using q) _ _ rfl rfl
theorem gcd_pos {x y : Int} (hx : 1 ≤ x) : (0 : Int) < (Nat.gcd x.toNat y.toNat : Nat) := by
  have : 0 < Nat.gcd x.toNat y.toNat := Nat.gcd_pos_of_pos_left _ (by omega)
  omega
theorem apart_ok {ls ns : List Int} {i j : Nat} (Q : D → Prop) (h : ∀ l ∈ ls, 1 ≤ l ∧ l ≤ 60) (hn : ns.length = ls.length) (hi : i < ls.length) (hj : j < ls.length) (q : Q (.bl (apartB ls ns (i, j)))) :
    S_are_apart [.lst (ls.map .int), rowD ns, .int i, .int j] Q := by
  have hp := gcd_pos (y := nthI ls j) (lims_nat h hi)
  simp [S_are_apart, w_are_apart, env0, rowD, ints_at hi, ints_at hj, ints_at (ns := ns) (hn ▸ hi), ints_at (ns := ns) (hn ▸ hj)]
  refine common_ok (lims_nat h hi) (lims_nat h hj) _ ?_
  exact oI_x.mpr ⟨hp, oI_x.mpr ⟨hp, oNe_i.mpr q⟩⟩
def pairsN (n : Nat) : List (Nat × Nat) := (List.range n).flatMap fun t => (List.range t).map fun o => (o, t)
def pairN (p : Nat × Nat) : D := .tup [.int p.1, .int p.2]
theorem pairs_lt {n : Nat} {p : Nat × Nat} (h : p ∈ pairsN n) : p.1 < n ∧ p.2 < n ∧ p.1 < p.2 := by
  obtain ⟨t, h1, h2⟩ := List.mem_flatMap.mp h
  obtain ⟨o, h3, rfl⟩ := List.mem_map.mp h2
  have := List.mem_range.mp h1
  have := List.mem_range.mp h3
  exact ⟨by show o < n; omega, by show t < n; omega, by show o < t; omega⟩
theorem pairs_few : ∀ {n : Nat}, n ≤ 10 → (pairsN n).length ≤ 100 := by
  intro n h
  have : n = 0 ∨ n = 1 ∨ n = 2 ∨ n = 3 ∨ n = 4 ∨ n = 5 ∨ n = 6 ∨ n = 7 ∨ n = 8 ∨ n = 9 ∨ n = 10 := by omega
  rcases this with h | h | h | h | h | h | h | h | h | h | h <;> subst h <;> decide
theorem rng_nat (n : Nat) : rngD 0 n = (List.range n).map fun i : Nat => D.int (i : Int) := by
  rw [rngD_map]
  apply List.map_congr_left
  intro i _
  simp
theorem are_ok {hs : List (Str × Int)} {ns : List Int} (Q : D → Prop) (h : HouseOK hs) (hn : ns.length = hs.length) (q : Q (.bl ((pairsN hs.length).all (apartB (limsOf hs) ns)))) : S_are_offsets [houseD hs, rowD ns] Q := by
  have hl : (limsOf hs).length = hs.length := by simp [limsOf]
  have h6 := h.six
  simp [S_are_offsets, w_are_offsets, env0]
  refine limits_in_ok hs _ h.few ?_
  have e : (hs.map fun p => D.int p.2) = (limsOf hs).map D.int := by simp [limsOf]
  rw [e]
  simp [hl]
  refine ⟨by omega, by simp [noOw], ?_⟩
  rw [rng_nat]
  refine compL2_map (α := Nat) (β := Nat) _ (fun t => List.range t) (fun o => D.int (o : Int)) (fun t o => pairN (o, t)) _ _ ?_ (fun t ht => ?_) ?_
  · have := pairs_few (n := hs.length) (by omega)
    unfold pairsN at this
    have e2 : ((List.range hs.length).flatMap fun t => (List.range t).map fun o => pairN (o, t)).length = ((List.range hs.length).flatMap fun t => (List.range t).map fun o => (o, t)).length := by simp [List.length_flatMap]
    rw [e2]
    exact Nat.le_trans (by simpa using this) (by decide)
  · have ht' := List.mem_range.mp ht
    refine ⟨_, fun K k => k, fun K k => ?_, ?_, fun o ho acc hz K k => ?_⟩
    · simp [wipeD]
      refine ⟨by omega, ?_⟩
      rw [rng_nat]
      simpa [wipeD] using k
    · simp [noOw, wipeD]
    · simp [wipeD]
      exact ⟨by decide, hz, k⟩
  · have e3 : ((List.range hs.length).flatMap fun t => (List.range t).map fun o => pairN (o, t)) = (pairsN hs.length).map pairN := by
      unfold pairsN
      rw [List.map_flatMap]
      simp [List.map_map, Function.comp_def]
    simp only [List.nil_append]
    rw [e3]
    refine ⟨by simp [noOw], ?_⟩
    refine compL_map pairN (fun p => .bl (apartB (limsOf hs) ns p)) (fun _ => true) _ _ (by simpa using Nat.le_trans (pairs_few (by omega)) (by decide : 100 ≤ sizeLine)) (fun p hp acc hz K k => ?_) ?_
    · obtain ⟨p1, p2, _⟩ := pairs_lt hp
      simp [wipeD, pairN]
      refine apart_ok _ h.rows.lm (by omega) (by omega) (by omega) ?_
      exact ⟨hz, by simpa using k⟩
    · rw [filter_true]
      simp
      exact ⟨(pairsN hs.length).map (apartB (limsOf hs) ns), by simp, by simpa [List.all_map] using q⟩
/-- the rows that are offsets -/
def offs (hs : List (Str × Int)) : List (List Int) := (below [[]] (limsOf hs)).filter fun r => (pairsN hs.length).all (apartB (limsOf hs) r)
theorem below_rows : ∀ {ls : List Int} {found : List (List Int)} {n : Nat}, RowsOK found ls n → (below found ls).length ≤ 600 ∧ ∀ r ∈ below found ls, r.length = n
  | [], found, n, h => ⟨h.few, fun r hr => by have := h.wd r hr; simpa using this⟩
  | l :: ls, found, n, h => below_rows (ls := ls) (found := wider found l) (n := n) h.next
theorem all_offsets_ok {hs : List (Str × Int)} (Q : D → Prop) (h : HouseOK hs) (q : Q (.lst ((offs hs).map rowD))) : S_all_offsets [houseD hs] Q := by
  obtain ⟨b1, b2⟩ := below_rows h.rows
  simp [S_all_offsets, w_all_offsets, env0]
  refine all_ages_ok _ h ?_
  simp
  refine ⟨by simp [noOw], ?_⟩
  refine compL_map rowD rowD (fun r => (pairsN hs.length).all (apartB (limsOf hs) r)) _ _ (by simpa using Nat.le_trans b1 six_le) (fun r hr acc hz K k => ?_) ?_
  · have hr' := b2 r hr
    simp [wipeD]
    refine are_ok _ h (by simpa [limsOf] using hr') ?_
    cases c : (pairsN hs.length).all (apartB (limsOf hs) r) with
    | true =>
      rw [if_pos c] at k
      rw [tru_bl, if_pos rfl]
      exact ⟨hz, k⟩
    | false =>
      rw [if_neg (by rw [c]; decide)] at k
      rw [tru_bl, if_neg (by decide)]
      exact k
  · exact q
def firstD : List (List Int) → D
  | [] => .non
  | r :: _ => rowD r
theorem offsets_ok {hs : List (Str × Int)} (Q : D → Prop) (h : HouseOK hs) (q : Q (firstD (offs hs))) : S_offsets [houseD hs] Q := by
  simp [S_offsets, w_offsets, env0]
  refine check_ok _ h ?_
  refine all_offsets_ok _ h ?_
  cases e : offs hs with
  | nil =>
    rw [e] at q
    simp
    exact q
  | cons r rs =>
    rw [e] at q
    simp [atI0]
    exact q
theorem number_ok {hs : List (Str × Int)} (Q : D → Prop) (h : HouseOK hs) (q : Q (.int (offs hs).length)) : S_offsets_number [houseD hs] Q := by
  simp [S_offsets_number, w_offsets_number, env0]
  refine check_ok _ h ?_
  refine all_offsets_ok _ h ?_
  simp
  exact q
end DL
namespace DL
open PySem PySem.Spec PyProof.Rows L2
theorem llimits_ok {hs : List (Str × Int)} (Q : D → Prop) (hz : hs.length ≤ sizeLine) (q : Q (.tup ((limsOf hs).map .int))) : S__law_limits [houseD hs] Q := by
  simp [S__law_limits, w__law_limits, env0, houseD]
  refine ⟨by simp [noOw], ?_⟩
  refine compL_map pairD (fun p => .int p.2) (fun _ => true) _ _ (by simpa using hz) (fun c hc acc hl K k => ?_) ?_
  · simp [wipeD, pairD]
    exact ⟨hl, by simpa using k⟩
  · rw [filter_true]
    simpa [limsOf, Function.comp_def] using q
theorem lages_ok (ls : List Int) (Q : D → Prop) (hn : ls.length ≤ 10) (h : RowsOK [[]] ls ls.length) (q : Q (.lst ((below [[]] ls).map rowD))) : S__law_all_ages [.tup (ls.map .int)] Q := by
  simp [S__law_all_ages, w__law_all_ages, env0]
  refine ⟨by decide, ?_⟩
  refine forL_ind (fun rest ρ => ∃ (ms : List Int) (found : List (List Int)) (v u x y : Option Slot), rest = ms.map D.int ∧ RowsOK found ms ls.length ∧ below found ms = below [[]] ls ∧ ρ = [some (.sh (.tup (ls.map .int))), some (.sh (.lst (found.map rowD))), v, u, x, y] ∧ (∀ d, y ≠ some (.ow d))) ?_ ?_ _ _ ⟨ls, [[]], none, none, none, none, rfl, h, rfl, rfl, by simp⟩
  · rintro d rest ρ ⟨ms, found, v, u, x, y, e, hr, hb, rfl, hy⟩ K k
    cases ms with
    | nil => cases e
    | cons l ms =>
      cases e
      have hl := hr.lm l (List.mem_cons_self ..)
      have few := hr.next.few
      have nar : ∀ r ∈ found, r.length ≤ 10 := fun r hr' => by
        have := hr.wd r hr'
        omega
      simp
      refine forL_ind (fun rs ρ => ∃ (a b : List (List Int)) (x : Option Slot), found = a ++ b ∧ rs = b.map rowD ∧ ρ = [some (.sh (.tup (ls.map .int))), some (.sh (.lst (found.map rowD))), some (.sh (.int l)), some (.sh (.lst ((wider a l).map rowD))), x, y]) ?_ ?_ _ _ ⟨[], found, x, rfl, rfl, rfl⟩
      · rintro d rs ρ ⟨a, b, x, e1, e2, rfl⟩ K' k'
        cases b with
        | nil => cases e2
        | cons r b =>
          cases e2
          have hr10 := nar r (by rw [e1]; exact List.mem_append_right _ (List.mem_cons_self ..))
          have ez : (wider (a ++ [r]) l).length ≤ 600 := by
            have e4 : found = (a ++ [r]) ++ b := by rw [e1]; simp
            rw [e4, flat_wider, List.length_append] at few
            omega
          have e5 : wider (a ++ [r]) l = wider a l ++ (List.range l.toNat).map fun n : Nat => r ++ [(n : Int)] := by
            rw [flat_wider]
            simp [wider]
          rw [e5, List.length_append, List.length_map, List.length_range] at ez
          simp
          refine ⟨by omega, by omega, by simpa [noOw] using hy, ?_⟩
          rw [rng_ints]
          refine compL_map (α := Int) D.int (fun n => rowD (r ++ [n])) (fun _ => true) _ _ ?_ (fun n hn' acc hl' K2 k2 => ?_) ?_
          · have := Nat.le_trans ez six_le
            simp
            omega
          · simp [wipeD, rowD]
            refine ⟨by decide, Nat.le_trans (by omega : _ ≤ 600) six_le, hl', ?_⟩
            simpa [rowD] using k2
          · rw [filter_true]
            simp
            refine ⟨Nat.le_trans (by omega : _ ≤ 600) six_le, ?_⟩
            refine k' _ ⟨a ++ [r], b, some (.sh (rowD r)), by rw [e1]; simp, rfl, ?_⟩
            rw [e5]
            simp [List.map_map, Function.comp_def]
      · rintro ρ ⟨a, b, x, e1, e2, rfl⟩
        cases b with
        | cons _ _ => cases e2
        | nil =>
          rw [List.append_nil] at e1
          subst e1
          simp
          exact k _ ⟨ms, wider found l, _, _, _, _, rfl, hr.next, hb, rfl, hy⟩
  · rintro ρ ⟨ms, found, v, u, x, y, e, hr, hb, rfl, hy⟩
    cases ms with
    | cons _ _ => cases e
    | nil =>
      simp
      have hb' : found = below [[]] ls := hb
      rw [hb']
      exact q
theorem apart_iff (ls ns : List Int) (o t : Nat) : apartB ls ns (o, t) = !decide ((nthI ns t - nthI ns o) % (Nat.gcd (nthI ls t).toNat (nthI ls o).toNat : Nat) = 0) := by
  unfold apartB gcdAt
  rw [Nat.gcd_comm (nthI ls t).toNat]
  congr 1
  rw [decide_eq_decide, ← Int.emod_eq_emod_iff_emod_sub_eq_zero]
  exact eq_comm
theorem range_split {n : Nat} {a b : List Nat} {t : Nat} (h : List.range n = a ++ t :: b) : t = a.length ∧ t < n := by
  have l : (List.range n).length = n := List.length_range
  rw [h, List.length_append, List.length_cons] at l
  have e : (List.range n)[a.length]? = some t := by rw [h, List.getElem?_append_right (Nat.le_refl _), Nat.sub_self]; rfl
  rw [List.getElem?_range (by omega)] at e
  cases e
  exact ⟨rfl, by omega⟩
theorem lare_ok {ls ns : List Int} (Q : D → Prop) (h : ∀ l ∈ ls, 1 ≤ l ∧ l ≤ 60) (h6 : ls.length ≤ 10) (hn : ns.length = ls.length) (q : Q (.bl ((pairsN ls.length).all (apartB ls ns)))) : S__law_are_offsets [.tup (ls.map .int), rowD ns] Q := by
  simp [S__law_are_offsets, w__law_are_offsets, env0]
  refine ⟨by omega, ?_⟩
  rw [rng_nat]
  refine forL_ind (fun rest ρ => ∃ (a b : List Nat) (v u : Option Slot), List.range ls.length = a ++ b ∧ rest = b.map (fun i : Nat => D.int (i : Int)) ∧ (∀ t ∈ a, ∀ o, o < t → apartB ls ns (o, t) = true) ∧ ρ = [some (.sh (.tup (ls.map .int))), some (.sh (rowD ns)), v, u]) ?_ ?_ _ _ ⟨[], _, none, none, rfl, rfl, by simp, rfl⟩
  · rintro d rest ρ ⟨a, b, v, u, e1, e2, e3, rfl⟩ K k
    cases b with
    | nil => cases e2
    | cons t b =>
      cases e2
      obtain ⟨ta, tn⟩ := range_split e1
      simp
      refine ⟨by omega, ?_⟩
      rw [rng_nat]
      refine forL_ind (fun rest ρ => ∃ (c d : List Nat) (u : Option Slot), List.range t = c ++ d ∧ rest = d.map (fun i : Nat => D.int (i : Int)) ∧ (∀ o ∈ c, apartB ls ns (o, t) = true) ∧ ρ = [some (.sh (.tup (ls.map .int))), some (.sh (rowD ns)), some (.sh (.int t)), u]) ?_ ?_ _ _ ⟨[], _, u, rfl, rfl, by simp, rfl⟩
      · rintro dd rest' ρ ⟨c, d, u, f1, f2, f3, rfl⟩ K' k'
        cases d with
        | nil => cases f2
        | cons o d =>
          cases f2
          obtain ⟨oc, ot⟩ := range_split f1
          have hg := gcd_pos (y := nthI ls o) (lims_nat h tn)
          simp [rowD, ints_at (ns := ns) (show t < ns.length by omega), ints_at (ns := ns) (show o < ns.length by omega), ints_at tn, ints_at (show o < ls.length by omega)]
          refine lcommon_ok (lims_nat h tn) (lims_nat h (by omega)) _ ?_
          refine oI_x.mpr ⟨hg, ?_⟩
          rw [oEq_i]
          have ai := apart_iff ls ns o t
          by_cases z : (nthI ns t - nthI ns o) % (Nat.gcd (nthI ls t).toNat (nthI ls o).toNat : Nat) = 0
          · rw [decide_eq_true z] at ai
            refine .inr ⟨by rw [decide_eq_true z], ?_⟩
            have e5 : (pairsN ls.length).all (apartB ls ns) = false := by
              rw [List.all_eq_false]
              refine ⟨(o, t), ?_, by rw [ai]; decide⟩
              exact List.mem_flatMap.mpr ⟨t, List.mem_range.mpr tn, List.mem_map.mpr ⟨o, List.mem_range.mpr ot, rfl⟩⟩
            rw [e5] at q
            exact q
          · rw [decide_eq_false z] at ai
            refine .inl ⟨by rw [decide_eq_false z], ?_⟩
            exact k' _ ⟨c ++ [o], d, _, by rw [f1]; simp, rfl, fun p hp => by
              rcases List.mem_append.mp hp with hp | hp
              · exact f3 p hp
              · cases List.mem_singleton.mp hp
                exact ai, rfl⟩
      · rintro ρ ⟨c, d, u, f1, f2, f3, rfl⟩
        cases d with
        | cons _ _ => cases f2
        | nil =>
          rw [List.append_nil] at f1
          exact k _ ⟨a ++ [t], b, _, _, by rw [e1]; simp, rfl, fun s hs o ho => by
            rcases List.mem_append.mp hs with hs | hs
            · exact e3 s hs o ho
            · cases List.mem_singleton.mp hs
              exact f3 o (by rw [← f1]; exact List.mem_range.mpr ho), rfl⟩
  · rintro ρ ⟨a, b, v, u, e1, e2, e3, rfl⟩
    cases b with
    | cons _ _ => cases e2
    | nil =>
      rw [List.append_nil] at e1
      have e5 : (pairsN ls.length).all (apartB ls ns) = true := by
        rw [List.all_eq_true]
        intro p hp
        obtain ⟨p1, p2, p3⟩ := pairs_lt hp
        exact e3 p.2 (by rw [← e1]; exact List.mem_range.mpr p2) p.1 p3
      rw [e5] at q
      simp
      exact q
end DL
namespace DL
open PySem PySem.Spec PyProof.Rows L2
theorem deal_ok {n : Nat} (Q : D → Prop) (h : 0 < n) (h2 : n < 1073741824) (q : ∀ k : Nat, k < n → Q (.int k)) : S__law_deal [.well, .int n] Q :=
  ⟨n, rfl, by omega, by omega, fun k h0 h1 => by
    have e : k = (k.toNat : Int) := by omega
    rw [e]
    exact q _ (by omega)⟩
theorem any_ok (ds : List D) (Q : D → Prop) (h : ds ≠ []) (h2 : ds.length ≤ 1000) (q : ∀ d ∈ ds, Q d) : S__law_any [.well, .lst ds] Q := by
  simp [S__law_any, w__law_any, env0]
  refine deal_ok _ (List.length_pos_iff.mpr h) (by omega) fun k hk => ?_
  simp [atI_ok (List.getElem?_eq_getElem hk)]
  exact q _ (List.getElem_mem hk)
theorem sign_ok (Q : D → Prop) (q : ∀ c ∈ [98, 118, 120, 122], Q (.str ⟨#[c]⟩)) : S__law_any [.well, .str "bvxz"] Q := by
  have el : ("bvxz" : Str).length = 4 := by decide +kernel
  have ec : ("bvxz" : Str).cps.toList = [98, 118, 120, 122] := by decide +kernel
  simp [S__law_any, w__law_any, env0]
  rw [el]
  refine ⟨by decide, ?_⟩
  refine deal_ok (n := 4) _ (by decide) (by decide) fun k hk => ?_
  have hk' : k < [98, 118, 120, 122].length := hk
  rw [oIx_s, el, ec]
  refine ⟨by decide, _, atI_ok (List.getElem?_eq_getElem hk'), ?_⟩
  exact q _ (List.getElem_mem hk')
theorem seqIndex_nat {k n : Nat} (h : k < n) : seqIndex? (k : Int) n = some k := by
  have : ¬ (k : Int) < 0 := by omega
  unfold seqIndex?
  simp [this, h]
theorem out_perm {α : Type} : ∀ (l : List α) (j : Nat) (h : j < l.length), ([l[j]] ++ l.eraseIdx j).Perm l
  | x :: l, 0, _ => .refl _
  | x :: l, j + 1, h => (List.Perm.swap x (l[j]'(Nat.lt_of_succ_lt_succ h)) (l.eraseIdx j)).trans ((out_perm l j (Nat.lt_of_succ_lt_succ h)).cons x)
theorem shuffled_ok (ds : List D) (Q : D → Prop) (h2 : ds.length ≤ 1000) (q : ∀ es : List D, es.Perm ds → Q (.lst es)) : S__law_shuffled [.well, .lst ds] Q := by
  simp [S__law_shuffled, w__law_shuffled, env0]
  refine ⟨by omega, ?_⟩
  refine forL_ind (fun rest ρ => ∃ (left found : List D) (v : Option Slot), left.length = rest.length ∧ (found ++ left).Perm ds ∧ ρ = [some (.sh .well), some (.sh (.lst ds)), some (.ow (.lst left)), some (.ow (.lst found)), v]) ?_ ?_ _ _ ⟨ds, [], none, by rw [rngD_length], .refl _, rfl⟩
  · rintro d rest ρ ⟨left, found, v, e1, e2, rfl⟩ K k
    have hl : (found ++ left).length = ds.length := e2.length_eq
    rw [List.length_append] at hl
    rw [List.length_cons] at e1
    simp
    refine deal_ok _ (by omega) (by omega) fun j hj => ?_
    have nar : found.length < sizeLine := Nat.lt_of_lt_of_le (by omega : _ < 1001) (by decide)
    simp
    refine ⟨by omega, j, seqIndex_nat hj, left[j], List.getElem?_eq_getElem hj, nar, ?_⟩
    refine k _ ⟨left.eraseIdx j, found ++ [left[j]], _, by rw [List.length_eraseIdx]; simp [hj]; omega, ?_, rfl⟩
    refine .trans ?_ e2
    rw [List.append_assoc]
    refine List.Perm.append_left _ ?_
    exact out_perm left j hj
  · rintro ρ ⟨left, found, v, e1, e2, rfl⟩
    simp at e1
    subst e1
    simp at e2 ⊢
    exact q _ e2
def tails : List Nat := [98, 118, 120, 122]
structure NameP (x : Str) : Prop where
  ex : ∃ c t, 97 ≤ c ∧ c ≤ 122 ∧ t.length ≤ 7 ∧ (∀ y ∈ t, y ∈ tails) ∧ x.cps.toList = c :: t
def firstOf (x : Str) : Nat := x.cps.toList.headD 0
theorem words_no : W_WORDS.all (fun w => w.cps.toList.tail.any fun y => !tails.contains y) = true := by decide +kernel
theorem NameP.good {x : Str} (h : NameP x) : GoodName x := by
  obtain ⟨c, t, h1, h2, h3, h4, h5⟩ := h.ex
  have hl : x.length = t.length + 1 := by
    show x.cps.size = _
    rw [← Array.length_toList, h5]
    rfl
  refine ⟨fun e => ?_, by omega, ?_, fun hw => ?_⟩
  · rw [e] at hl
    exact absurd hl (by show (0 : Nat) ≠ _; omega)
  · rw [h5, List.all_eq_true]
    intro y hy
    unfold smallB
    rcases List.mem_cons.mp hy with hy | hy
    · exact decide_eq_true (by omega)
    · have := h4 y hy
      simp [tails] at this
      exact decide_eq_true (by omega)
  · have q := List.all_eq_true.mp words_no x hw
    rw [h5] at q
    obtain ⟨y, hy, n⟩ := List.any_eq_true.mp q
    have := h4 y hy
    rw [List.contains_iff_mem.mpr this] at n
    cases n
theorem joinL_ones : ∀ ts : List Nat, TL.joinL [] (ts.map fun t => [t]) = ts
  | [] => rfl
  | [_] => rfl
  | t :: u :: r => by
    show [t] ++ ([] ++ TL.joinL [] ((u :: r).map fun t => [t])) = t :: u :: r
    rw [joinL_ones (u :: r)]
    rfl
theorem join_cps (ts : List Nat) : (Txt.join "" (ts.map fun t => (⟨#[t]⟩ : Str))).cps.toList = ts := by
  rw [TL.join_eq]
  have q := TL.tl_join "" (ts.map fun t => (⟨#[t]⟩ : Str))
  have e : ((ts.map fun t => (⟨#[t]⟩ : Str)).map TL.tl) = ts.map fun t => [t] := by
    rw [List.map_map]
    rfl
  rw [e] at q
  exact q.trans (joinL_ones ts)
theorem perm_map_inv {α β : Type} {f : α → β} : ∀ {es fs : List β}, es.Perm fs → ∀ {l : List α}, fs = l.map f → ∃ l' : List α, es = l'.map f ∧ l'.Perm l := by
  intro es fs h
  induction h with
  | nil => exact fun {l} e => ⟨l, e, .refl _⟩
  | cons x _ ih =>
    intro l e
    cases l with
    | nil => cases e
    | cons a l =>
      cases e
      obtain ⟨l', e1, e2⟩ := ih rfl
      exact ⟨a :: l', by rw [e1]; rfl, e2.cons a⟩
  | swap x y r =>
    intro l e
    match l, e with
    | a :: b :: l, e =>
      cases e
      exact ⟨b :: a :: l, rfl, .swap a b l⟩
  | trans _ _ ih1 ih2 =>
    intro l e
    obtain ⟨l1, e1, p1⟩ := ih2 e
    obtain ⟨l2, e2, p2⟩ := ih1 e1
    exact ⟨l2, e2, p2.trans p1⟩
def signD (c : Nat) : D := .str ⟨#[c]⟩
def letters : List Nat := (List.range 26).map (· + 97)
theorem letters_signs : signs "abcdefghijklmnopqrstuvwxyz" = letters.map signD := by
  have e : ("abcdefghijklmnopqrstuvwxyz" : Str).cps.toList = letters := by decide +kernel
  unfold signs
  rw [e]
  rfl
theorem cut_none {α : Type} (xs : List α) {m : Nat} (h : m ≤ xs.length) : cutD xs none (some (m : Int)) = xs.take m := by
  unfold cutD
  have e1 : HT.sIx xs.length 0 none = 0 := rfl
  have e2 : HT.sIx xs.length xs.length (some (m : Int)) = m := by
    have nn : ¬ (m : Int) < 0 := by omega
    unfold HT.sIx
    simp [nn]
    omega
  rw [e1, e2]
  simp
theorem names_ok {m : Nat} (Q : D → Prop) (h1 : 1 ≤ m) (h2 : m ≤ 26) (q : ∀ xs : List Str, (∀ x ∈ xs, NameP x) → (xs.map firstOf).Nodup → xs.length = m → Q (.lst (xs.map .str))) : S__law_names [.well, .int m] Q := by
  have ll : ("abcdefghijklmnopqrstuvwxyz" : Str).length = 26 := by decide +kernel
  simp [S__law_names, w__law_names, env0]
  rw [ll]
  refine ⟨by decide, ?_⟩
  rw [letters_signs]
  refine shuffled_ok _ _ (by simp [letters]) fun es pe => ?_
  obtain ⟨cs, rfl, pc⟩ := perm_map_inv pe rfl
  have lc : cs.length = 26 := pc.length_eq.trans (by simp [letters])
  simp
  rw [cut_none _ (by rw [List.length_map]; omega), ← List.map_take]
  have nd : (cs.take m).Nodup := by
    have : cs.Nodup := pc.nodup_iff.mpr (by decide)
    exact this.sublist (List.take_sublist m cs)
  have rg : ∀ c ∈ cs.take m, 97 ≤ c ∧ c ≤ 122 := fun c hc => by
    have := pc.mem_iff.mp (List.mem_of_mem_take hc)
    simp [letters] at this
    omega
  have lt : (cs.take m).length = m := by rw [List.length_take]; omega
  refine forL_ind (fun rest ρ => ∃ (ds : List Nat) (xs : List Str) (v u : Option Slot), rest = ds.map signD ∧ (∀ x ∈ xs, NameP x) ∧ xs.map firstOf ++ ds = cs.take m ∧ ρ = [some (.sh .well), some (.sh (.int m)), some (.ow (.lst (xs.map .str))), v, u] ∧ (∀ d, u ≠ some (.ow d))) ?_ ?_ _ _ ⟨cs.take m, [], none, none, rfl, by simp, rfl, rfl, by simp⟩
  · rintro d rest ρ ⟨ds, xs, v, u, e1, e2, e3, rfl, hu⟩ K k
    cases ds with
    | nil => cases e1
    | cons c ds =>
      cases e1
      have hc := rg c (by rw [← e3]; exact List.mem_append_right _ (List.mem_cons_self ..))
      have hlen : xs.length + (ds.length + 1) = m := by rw [← lt, ← e3]; simp
      simp [signD]
      refine ⟨by decide, ?_⟩
      refine any_ok _ _ (by simp) (by simp) fun n hn => ?_
      have hn' : ∃ j : Nat, n = .int j ∧ j ≤ 7 := by
        simp at hn
        rcases hn with rfl | rfl | rfl | rfl
        · exact ⟨0, rfl, by omega⟩
        · exact ⟨1, rfl, by omega⟩
        · exact ⟨2, rfl, by omega⟩
        · exact ⟨7, rfl, by omega⟩
      obtain ⟨j, rfl, hj⟩ := hn'
      simp
      refine ⟨by omega, by simpa [noOw] using hu, ?_⟩
      refine compL_ind (fun rest acc => ∃ ts : List Nat, acc = ts.map signD ∧ rest.length + ts.length = j ∧ ∀ y ∈ ts, y ∈ tails) ?_ ?_ _ _ ⟨[], rfl, by rw [rngD_length]; simp, by simp⟩
      · rintro d' rest' acc ⟨ts, rfl, f2, f3⟩ K' k'
        rw [List.length_cons] at f2
        simp [wipeD]
        refine sign_ok _ fun y hy => ?_
        refine ⟨Nat.lt_of_lt_of_le (by omega : _ < 100) (by decide), k' _ ⟨ts ++ [y], by simp [signD], by simp; omega, fun z hz => ?_⟩⟩
        rcases List.mem_append.mp hz with hz | hz
        · exact f3 z hz
        · cases List.mem_singleton.mp hz
          exact hy
      · rintro acc ⟨ts, rfl, f2, f3⟩
        have ft : ts.length = j := by simpa using f2
        have etx : ∀ ts : List Nat, textsD (ts.map signD) = some (ts.map fun t => (⟨#[t]⟩ : Str)) := by
          intro ts
          induction ts with
          | nil => rfl
          | cons t ts ih =>
            show (textsD (ts.map signD)).map (_ :: ·) = _
            rw [ih]
            rfl
        have one : ∀ ts : List Nat, (ts.map fun t => ((⟨#[t]⟩ : Str).length)).sum = ts.length := by
          intro ts
          induction ts with
          | nil => rfl
          | cons t ts ih =>
            rw [List.map_cons, List.sum_cons, ih, List.length_cons]
            show 1 + ts.length = _
            omega
        have z0 : ("" : Str).length = 0 := by decide +kernel
        have jl : (Txt.join "" (ts.map fun t => (⟨#[t]⟩ : Str))).length = ts.length := by
          show (Txt.join "" (ts.map fun t => (⟨#[t]⟩ : Str))).cps.size = _
          rw [← Array.length_toList, join_cps]
        refine ⟨_, etx ts, ?_, ?_⟩
        · rw [List.map_map]
          have := one ts
          simp only [Function.comp_def]
          rw [this, z0]
          omega
        · have l1 : (⟨#[c]⟩ : Str).length = 1 := rfl
          rw [jl, l1]
          refine ⟨Nat.le_trans (by omega : _ ≤ 100) (by decide), Nat.lt_of_lt_of_le (by omega : _ < 100) (by decide), ?_⟩
          have ec : ((⟨#[c]⟩ : Str) ++ Txt.join "" (ts.map fun t => (⟨#[t]⟩ : Str))).cps.toList = c :: ts := by
            have e0 : ∀ a b : Str, (a ++ b).cps.toList = a.cps.toList ++ b.cps.toList := fun a b => by
              show (a.cps ++ b.cps).toList = _
              rw [Array.toList_append]
            rw [e0, join_cps]
            rfl
          refine k _ ⟨ds, xs ++ [(⟨#[c]⟩ : Str) ++ Txt.join "" (ts.map fun t => (⟨#[t]⟩ : Str))], some (.sh (.str ⟨#[c]⟩)), u, rfl, fun x hx => ?_, ?_, by simp, hu⟩
          · rcases List.mem_append.mp hx with hx | hx
            · exact e2 x hx
            · cases List.mem_singleton.mp hx
              exact ⟨⟨c, ts, hc.1, hc.2, by omega, f3, ec⟩⟩
          · rw [← e3]
            simp [firstOf, ec]
  · rintro ρ ⟨ds, xs, v, u, e1, e2, e3, rfl, hu⟩
    cases ds with
    | cons _ _ => cases e1
    | nil =>
      rw [List.append_nil] at e3
      simp
      refine q xs e2 (by rw [e3]; exact nd) ?_
      rw [← lt, ← e3, List.length_map]
end DL
namespace DL
open PySem PySem.Spec PyProof.Rows PySem.W L2
theorem sort_map {α : Type} (f : α → D) (xs : List α) : ∃ ys : List α, ys.Perm xs ∧ sortD (xs.map f) = ys.map f ∧ ys.Pairwise fun a b => dle (f a) (f b) = true := by
  have tt := sortLe_total (listOrd itemOrd) false fun b : D => keyToks b.py
  have tt1 : ∀ a b c : D, dle a b = true → dle b c = true → dle a c = true := tt.trans
  have tt2 : ∀ a b : D, dle a b = true ∨ dle b a = true := tt.total
  refine ⟨xs.mergeSort fun a b => dle (f a) (f b), List.mergeSort_perm _ _, ?_, ?_⟩
  · unfold sortD
    rw [← List.map_mergeSort (r := fun a b => dle (f a) (f b)) fun _ _ _ _ => rfl]
  · refine List.pairwise_mergeSort (le := fun a b => dle (f a) (f b)) (fun a b c => tt1 (f a) (f b) (f c)) (fun a b => ?_) xs
    rcases tt2 (f a) (f b) with h | h
    · rw [h]; rfl
    · rw [h, Bool.or_true]
theorem dle_pair {p r : Str × Int} (h : dle (pairD p) (pairD r) = true) (n : p.1 ≠ r.1) : strLt p.1 r.1 = true := by
  have e : dle (pairD p) (pairD r) = !dataLt (.tuple [.str r.1, .int r.2]) (.tuple [.str p.1, .int p.2]) := rfl
  rw [e, dataLt_pair (by simp [alike]) (by simp [alike])] at h
  have ne : PyData.eqv (.str r.1) (.str p.1) = false := by
    rw [Bool.eq_false_iff]
    intro z
    simp [PyData.eqv] at z
    exact n z.symm
  rw [ne, if_neg (by decide), dataLt_str] at h
  unfold strLt
  have h2 : ¬ r.1.cps.toList < p.1.cps.toList := by
    intro z
    rw [decide_eq_true z] at h
    cases h
  have h3 : p.1.cps.toList ≤ r.1.cps.toList := List.not_lt.mp h2
  refine decide_eq_true ?_
  rcases List.le_iff_lt_or_eq.mp h3 with z | z
  · exact z
  · exfalso
    apply n
    have : p.1.cps = r.1.cps := by
      rw [← Array.toArray_toList (xs := p.1.cps), z, Array.toArray_toList]
    cases p with | mk a b => cases r with | mk c d => cases a; cases c; cases this; rfl
theorem can_strs {xs : List Str} (h : xs.all PyData.strOk = true) : canSort (xs.map .str) := by
  refine ⟨good_strs 7 h, ?_, ?_⟩
  · rw [pyAll_map, List.map_map]
    intro d hd d' hd'
    obtain ⟨x, _, rfl⟩ := List.mem_map.mp hd
    obtain ⟨y, _, rfl⟩ := List.mem_map.mp hd'
    rfl
  · rw [pyAll_map, List.map_map]
    refine .inr fun d hd => ?_
    obtain ⟨x, _, rfl⟩ := List.mem_map.mp hd
    exact ⟨(by intro z; cases z), (by intro ys z; cases z)⟩
theorem can_pairs {hs : List (Str × Int)} (h : ∀ p ∈ hs, PyData.strOk p.1 = true) : canSort (hs.map pairD) := by
  refine ⟨?_, ?_, ?_⟩
  · rw [goodAll_iff]
    intro d hd
    obtain ⟨p, hp, rfl⟩ := List.mem_map.mp hd
    show ((D.str p.1).good 6 && ((D.int p.2).good 6 && true)) = true
    rw [good_str 6 (h p hp)]
    rfl
  · rw [pyAll_map, List.map_map]
    intro d hd d' hd'
    obtain ⟨x, _, rfl⟩ := List.mem_map.mp hd
    obtain ⟨y, _, rfl⟩ := List.mem_map.mp hd'
    rfl
  · rw [pyAll_map, List.map_map]
    refine .inl fun d hd => ?_
    obtain ⟨x, _, rfl⟩ := List.mem_map.mp hd
    exact ⟨_, _, rfl⟩
theorem prod_perm {xs ys : List Int} (h : xs.Perm ys) : prodI xs = prodI ys := by
  induction h with
  | nil => rfl
  | cons x _ ih => show x * _ = x * _; rw [ih]
  | swap x y r =>
    show y * (x * prodI r) = x * (y * prodI r)
    rw [← Int.mul_assoc, ← Int.mul_assoc, Int.mul_comm y x]
  | trans _ _ a b => exact a.trans b
theorem prod_app (xs : List Int) (x : Int) : prodI (xs ++ [x]) = prodI xs * x := by
  have p : (xs ++ [x]).Perm (x :: xs) := List.perm_append_comm
  rw [prod_perm p]
  show x * prodI xs = _
  rw [Int.mul_comm]
/-- rows in the order of their names -/
theorem sort_rows {hs : List (Str × Int)} (h : (hs.map fun p => firstOf p.1).Nodup) : ∃ ys : List (Str × Int), ys.Perm hs ∧ sortD (hs.map pairD) = ys.map pairD ∧ (ys.map (·.1)).Pairwise fun a b => strLt a b = true := by
  obtain ⟨ys, p, e, s⟩ := sort_map pairD hs
  refine ⟨ys, p, e, ?_⟩
  have nd : (ys.map fun p => firstOf p.1).Nodup := (p.map _).nodup_iff.mpr h
  rw [List.pairwise_map]
  have nd2 : ys.Pairwise fun a b => firstOf a.1 ≠ firstOf b.1 := List.pairwise_map.mp nd
  exact (s.and nd2).imp fun ⟨h1, h2⟩ => dle_pair h1 fun z => h2 (by rw [z])
theorem house_ok {g : Nat} (Q : D → Prop) (hg : 1 ≤ g ∧ g ≤ 12) (q : ∀ hs : List (Str × Int), HouseOK hs → hs.length ≤ 5 → Q (houseD hs)) : S__law_house [.well, .int 5, .int g, .int 400] Q := by
  simp [S__law_house, w__law_house, env0]
  refine deal_ok (n := 5) _ (by decide) (by decide) fun k hk => ?_
  have e1 : (1 : Int) + k = ((k + 1 : Nat) : Int) := by omega
  simp [e1]
  refine names_ok (m := k + 1) _ (by omega) (by omega) fun xs hx nd hl => ?_
  obtain ⟨ys, py, ey, _⟩ := sort_map D.str xs
  have okx : xs.all PyData.strOk = true := List.all_eq_true.mpr fun x h => (hx x h).good.ok
  refine ⟨can_strs okx, ?_⟩
  rw [ey]
  refine shuffled_ok _ _ (by rw [List.length_map, py.length_eq]; omega) fun es pe => ?_
  obtain ⟨zs, rfl, pz⟩ := perm_map_inv pe rfl
  have pzx : zs.Perm xs := pz.trans py
  simp
  refine forL_ind (fun rest ρ => ∃ (ds : List Str) (hs : List (Str × Int)) (left : Int) (v u : Option Slot), rest = ds.map .str ∧ hs.map (·.1) ++ ds = zs ∧ (∀ p ∈ hs, 1 ≤ p.2 ∧ p.2 ≤ 12) ∧ 1 ≤ left ∧ prodI (hs.map (·.2)) * left ≤ 400 ∧
    ρ = [some (.sh .well), some (.sh (.int 5)), some (.sh (.int g)), some (.sh (.int 400)), some (.sh (.lst (ys.map .str))), some (.ow (.lst (hs.map pairD))), some (.sh (.int left)), v, u]) ?_ ?_ _ _ ⟨zs, [], 400, none, none, rfl, rfl, by simp, by decide, by decide, rfl⟩
  · rintro d rest ρ ⟨ds, hs, left, v, u, f1, f2, f3, f4, f5, rfl⟩ K kk
    cases ds with
    | nil => cases f1
    | cons x ds =>
      cases f1
      simp
      refine deal_ok (n := g) _ (by omega) (by omega) fun j hj => ?_
      simp
      obtain ⟨L, hL⟩ : ∃ L : Int, L = (if 1 < if 1 + (j : Int) < left then 1 + (j : Int) else left then if 1 + (j : Int) < left then 1 + (j : Int) else left else 1) := ⟨_, rfl⟩
      have bL : 1 ≤ L ∧ L ≤ 12 ∧ L ≤ left := by
        rw [hL]
        split <;> split <;> omega
      rw [← hL]
      have hlen : hs.length + (ds.length + 1) = k + 1 := by
        rw [← hl, ← pzx.length_eq, ← f2]
        simp
      refine ⟨by decide, Nat.lt_of_lt_of_le (by omega : _ < 100) (by decide), ⟨by omega, by omega⟩, ?_⟩
      have pp : 1 ≤ prodI (hs.map (·.2)) := prod_pos fun l hl' => by
        obtain ⟨p, hp, rfl⟩ := List.mem_map.mp hl'
        have := f3 p hp
        omega
      refine kk _ ⟨ds, hs ++ [(x, L)], left / L, _, _, rfl, by rw [← f2]; simp, fun p hp => ?_, ?_, ?_, by simp [pairD]; exact ⟨rfl, rfl⟩⟩
      · rcases List.mem_append.mp hp with hp | hp
        · exact f3 p hp
        · cases List.mem_singleton.mp hp
          exact ⟨bL.1, bL.2.1⟩
      · exact Int.le_ediv_of_mul_le (by omega) (by omega)
      · rw [List.map_append, List.map_cons, List.map_nil, prod_app, Int.mul_assoc]
        have h1 : L * (left / L) ≤ left := Int.mul_ediv_self_le (by omega)
        have h2 := Int.mul_le_mul_of_nonneg_left h1 (show 0 ≤ prodI (hs.map (·.2)) by omega)
        exact Int.le_trans h2 f5
  · rintro ρ ⟨ds, hs, left, v, u, f1, f2, f3, f4, f5, rfl⟩
    cases ds with
    | cons _ _ => cases f1
    | nil =>
      simp
      rw [List.append_nil] at f2
      have pp : 1 ≤ prodI (hs.map (·.2)) := prod_pos fun l hl' => by
        obtain ⟨p, hp, rfl⟩ := List.mem_map.mp hl'
        have := f3 p hp
        omega
      have nm : ∀ p ∈ hs, NameP p.1 := fun p hp => hx p.1 (pzx.mem_iff.mp (by rw [← f2]; exact List.mem_map_of_mem hp))
      have hlen : hs.length = k + 1 := by
        rw [← hl, ← pzx.length_eq, ← f2, List.length_map]
      have nd3 : (hs.map fun p => firstOf p.1).Nodup := by
        have e : (hs.map fun p => firstOf p.1) = zs.map firstOf := by rw [← f2, List.map_map]; rfl
        rw [e]
        exact (pzx.map firstOf).nodup_iff.mpr nd
      obtain ⟨rs, pr, er, up⟩ := sort_rows nd3
      refine ⟨can_pairs fun p hp => (nm p hp).good.ok, ?_⟩
      rw [er]
      refine q rs ⟨by rw [pr.length_eq]; omega, by rw [pr.length_eq]; omega, fun p hp => (nm p (pr.mem_iff.mp hp)).good, fun p hp => ?_, up, ?_⟩ (by rw [pr.length_eq]; omega)
      · have := f3 p (pr.mem_iff.mp hp)
        omega
      · rw [prod_perm (pr.map (·.2))]
        have h2 := Int.mul_le_mul_of_nonneg_left f4 (show 0 ≤ prodI (hs.map (·.2)) by omega)
        have h3 := Int.le_trans h2 f5
        show prodI (hs.map (·.2)) ≤ 600
        omega
end DL
namespace DL
open PySem PySem.Spec PyProof.Rows L2
/-- what is asked of each house -/
def w_rest : WS := (wSq (wAsg (wCall S__law_limits 1 1 0 [0] D__law_limits (wCons (wVar 2) wNil) wNil) (gNm 3)) (wSq (wSetF 4 (wComp (wSeq (wCall S__law_all_ages 1 1 0 [0] D__law_all_ages (wCons (wVar 3) wNil) wNil)) (([("row", 8)] : List (Str × Nat)).map (·.2)) (gNm 8) (wTru (wCall S__law_are_offsets 2 2 0 [0, 1] D__law_are_offsets (wCons (wVar 3) (wCons (wVar 8) wNil)) wNil)) (wVar 8))) (wSq (wAsg (wIf (wTB (w2 oNe (wVar 4) (wLst wNil))) (w2 oIx (wVar 4) (wC (.int 0))) (wC .non)) (gNm 5)) (wSq (wSetF 6 (wLst (wCons (wCall S_offsets 1 1 0 [0] D_offsets (wCons (wVar 2) wNil) wNil) (wCons (wCall S_offsets 1 0 1 [0] D_offsets wNil (wCons (wVar 2) wNil)) (wCons (wCall S_offsets_number 1 1 0 [0] D_offsets_number (wCons (wVar 2) wNil) wNil) (wCons (wCall S_offsets_number 1 0 1 [0] D_offsets_number wNil (wCons (wVar 2) wNil)) wNil)))))) (wIfS (wTB (w2 oNe (wB bRepr (wCons (wVar 6) wNil)) (wB bRepr (wCons (wLst (wCons (wVar 5) (wCons (wVar 5) (wCons (wB bLen (wCons (wVar 4) wNil)) (wCons (wB bLen (wCons (wVar 4) wNil)) wNil))))) wNil)))) (wRet (wC (.bl false))) wNext)))))
theorem good_rows (rs : List (List Int)) (n : Nat) : goodAll (n + 1) (rs.map rowD) = true := by
  rw [goodAll_iff]
  intro d hd
  obtain ⟨r, _, rfl⟩ := List.mem_map.mp hd
  show goodAll n (r.map D.int) = true
  rw [goodAll_iff]
  intro d hd
  obtain ⟨i, _, rfl⟩ := List.mem_map.mp hd
  cases n <;> rfl
theorem below_small : ∀ {ls : List Int} {found : List (List Int)}, (∀ l ∈ ls, 1 ≤ l ∧ l ≤ 60) → (∀ r ∈ found, ∀ i ∈ r, 0 ≤ i ∧ i < 60) → ∀ r ∈ below found ls, ∀ i ∈ r, 0 ≤ i ∧ i < 60
  | [], found, _, h => h
  | l :: ls, found, hl, h => below_small (ls := ls) (found := wider found l) (fun m hm => hl m (List.mem_cons_of_mem _ hm)) fun r hr i hi => by
    obtain ⟨r0, h0, h1⟩ := List.mem_flatMap.mp hr
    obtain ⟨k, hk, rfl⟩ := List.mem_map.mp h1
    rcases List.mem_append.mp hi with hi | hi
    · exact h r0 h0 i hi
    · cases List.mem_singleton.mp hi
      have := List.mem_range.mp hk
      have := (hl l (List.mem_cons_self ..)).2
      omega
theorem offs_facts {hs : List (Str × Int)} (h : HouseOK hs) : (offs hs).length ≤ 600 ∧ ∀ r ∈ offs hs, r.length ≤ 6 ∧ ∀ i ∈ r, 0 ≤ i ∧ i < 60 := by
  obtain ⟨b1, b2⟩ := below_rows h.rows
  refine ⟨Nat.le_trans (List.length_filter_le _ _) b1, fun r hr => ?_⟩
  have hm := (List.mem_filter.mp hr).1
  refine ⟨?_, below_small h.rows.lm (by simp) r hm⟩
  rw [b2 r hm]
  have := h.six
  simp [limsOf]
  omega
theorem neat_row {r : List Int} (h : r.length ≤ 6) (hi : ∀ i ∈ r, 0 ≤ i ∧ i < 60) : (rowD r).neat = true ∧ (rowD r).wt ≤ 252 := by
  constructor
  · show neatAll (r.map D.int) = true
    rw [neatAll_iff]
    intro d hd
    obtain ⟨i, m, rfl⟩ := List.mem_map.mp hd
    have := hi i m
    exact decide_eq_true (by omega)
  · have := wtAll_le (k := 42) (ds := r.map D.int) fun d hd => by
      obtain ⟨i, m, rfl⟩ := List.mem_map.mp hd
      exact Nat.le_refl _
    rw [List.length_map] at this
    show wtAll (r.map D.int) ≤ 252
    omega
theorem good_row (r : List Int) (n : Nat) : (rowD r).good (n + 1) = true := by
  show goodAll n (r.map D.int) = true
  rw [goodAll_iff]
  intro d hd
  obtain ⟨i, _, rfl⟩ := List.mem_map.mp hd
  cases n <;> rfl
/-- what is told shows as it should -/
theorem told_ok {f : D} {n : Nat} {Q : D → Prop} (hf : f.neat = true ∧ f.wt ≤ 252 ∧ f.good 59 = true) (hn : n ≤ 600) (q : Q (.str (D.lst [f, f, .int n, .int n]).py.shown)) : bRepr [.lst [f, f, .int n, .int n]] Q := by
  have hi : (D.int n).neat = true := decide_eq_true (by omega)
  refine repr_l ?_ ?_ ?_ q
  · show (f.good 59 && (f.good 59 && ((D.int n).good 59 && ((D.int n).good 59 && true)))) = true
    rw [hf.2.2]
    rfl
  · show (f.neat && (f.neat && ((D.int n).neat && ((D.int n).neat && true)))) = true
    rw [hf.1, hi]
    rfl
  · show f.wt + 1 + (f.wt + 1 + (41 + 1 + (41 + 1 + 0))) ≤ _
    have := hf.2.1
    omega
theorem rest_ok {hs : List (Str × Int)} {v a3 a4 a5 a6 a7 a8 : Option Slot} (n7 : ∀ d, a7 ≠ some (.ow d)) (n8 : ∀ d, a8 ≠ some (.ow d)) (E : EndsD) (h : HouseOK hs) (h5 : hs.length ≤ 5)
    (q : ∀ b3 b4 b5 b6, E.nx [some (.sh .well), v, some (.sh (houseD hs)), b3, b4, b5, b6, a7, a8]) : w_rest [some (.sh .well), v, some (.sh (houseD hs)), a3, a4, a5, a6, a7, a8] E := by
  obtain ⟨b1, b2⟩ := below_rows h.rows
  simp [w_rest]
  refine llimits_ok _ h.few ?_
  refine lages_ok _ _ (by have := h.six; simp [limsOf]; omega) h.rows ?_
  simp
  refine ⟨by simpa [noOw] using n8, ?_⟩
  refine compL_map rowD rowD (fun r => (pairsN hs.length).all (apartB (limsOf hs) r)) _ _ (by simpa using Nat.le_trans b1 six_le) (fun r hr acc hz K k => ?_) ?_
  · have hr' := b2 r hr
    simp [wipeD]
    have ll : (limsOf hs).length = hs.length := by simp [limsOf]
    refine lare_ok _ h.rows.lm (by omega) hr' ?_
    rw [ll]
    cases c : (pairsN hs.length).all (apartB (limsOf hs) r) with
    | true =>
      rw [if_pos c] at k
      rw [tru_bl, if_pos rfl]
      exact ⟨hz, k⟩
    | false =>
      rw [if_neg (by rw [c]; decide)] at k
      rw [tru_bl, if_neg (by decide)]
      exact k
  · show _
    have eo : ([] : List D) ++ ((below [[]] (limsOf hs)).filter fun r => (pairsN hs.length).all (apartB (limsOf hs) r)).map rowD = (offs hs).map rowD := rfl
    rw [eo]
    obtain ⟨o1, o2⟩ := offs_facts h
    refine ne_nil (good_rows _ 6) ?_
    cases eo2 : offs hs with
    | nil =>
      refine .inl ⟨rfl, ?_⟩
      refine offsets_ok _ h (offsets_ok _ h (number_ok _ h (number_ok _ h ⟨by decide, ?_⟩)))
      rw [eo2]
      have tk : D.neat .non = true ∧ D.wt .non ≤ 252 ∧ D.good 59 .non = true := ⟨rfl, by decide, rfl⟩
      refine told_ok (f := .non) (n := 0) tk (by omega) ⟨by decide, ?_⟩
      refine told_ok (f := .non) (n := 0) tk (by omega) (oNe_self _ ?_)
      exact .inl ⟨rfl, q _ _ _ _⟩
    | cons r rs =>
      refine .inr ⟨rfl, _, atI0 _ _, ?_⟩
      refine offsets_ok _ h (offsets_ok _ h (number_ok _ h (number_ok _ h ⟨by decide, ?_⟩)))
      rw [eo2] at o1 o2
      rw [eo2]
      obtain ⟨c1, c2⟩ := o2 r (List.mem_cons_self ..)
      obtain ⟨m1, m2⟩ := neat_row c1 c2
      have tk : D.neat (rowD r) = true ∧ D.wt (rowD r) ≤ 252 ∧ D.good 59 (rowD r) = true := ⟨m1, m2, good_row r 58⟩
      refine told_ok (f := rowD r) (n := (r :: rs).length) tk o1 ⟨by decide, ?_⟩
      rw [List.length_map]
      refine told_ok (f := rowD r) (n := (r :: rs).length) tk o1 (oNe_self _ ?_)
      exact .inl ⟨rfl, q _ _ _ _⟩
end DL
namespace DL
open PySem PySem.Spec PyProof.Rows L2
theorem prod_le : ∀ {ls : List Int}, (∀ l ∈ ls, 1 ≤ l ∧ l ≤ 8) → 1 ≤ prodI ls ∧ prodI ls ≤ 8 ^ ls.length
  | [], _ => ⟨Int.le_refl 1, Int.le_refl 1⟩
  | l :: ls, h => by
    have h1 := h l (List.mem_cons_self ..)
    obtain ⟨h2, h3⟩ := prod_le (ls := ls) fun m hm => h m (List.mem_cons_of_mem _ hm)
    have e : (8 : Int) ^ (l :: ls).length = 8 * 8 ^ ls.length := by rw [List.length_cons, Int.pow_succ, Int.mul_comm]
    rw [e]
    refine ⟨?_, Int.mul_le_mul h1.2 h3 (by omega) (by omega)⟩
    have := Int.mul_le_mul h1.1 h2 (by omega) (by omega)
    show 1 ≤ l * prodI ls
    omega
theorem zip_fst : ∀ (xs : List Str) (ls : List Int), ls.length ≤ xs.length → (xs.zip ls).map (·.1) = xs.take ls.length
  | xs, [], _ => by simp
  | [], l :: ls, h => by simp at h
  | x :: xs, l :: ls, h => by
    rw [List.zip_cons_cons, List.map_cons, zip_fst xs ls (Nat.le_of_succ_le_succ h)]
    rfl
theorem zip_snd : ∀ (xs : List Str) (ls : List Int), ls.length ≤ xs.length → (xs.zip ls).map (·.2) = ls
  | xs, [], _ => by simp
  | [], l :: ls, h => by simp at h
  | x :: xs, l :: ls, h => by
    rw [List.zip_cons_cons, List.map_cons, zip_snd xs ls (Nat.le_of_succ_le_succ h)]
theorem zip_snoc : ∀ (xs : List Str) (ls : List Int) (l : Int) (h : ls.length < xs.length), xs.zip (ls ++ [l]) = xs.zip ls ++ [(xs[ls.length], l)]
  | [], ls, l, h => absurd h (Nat.not_lt_zero _)
  | x :: xs, [], l, h => by simp
  | x :: xs, m :: ls, l, h => by
    have := zip_snoc xs ls l (Nat.lt_of_succ_lt_succ h)
    simp [this]
theorem first_three {hs : List (Str × Int)} (h : HouseOK hs) (ls : List Int) (hl : ls.length = min 3 hs.length) (hb : ∀ l ∈ ls, 1 ≤ l ∧ l ≤ 8) : HouseOK ((hs.map (·.1)).zip ls) := by
  have h1 := h.one
  have le : ls.length ≤ (hs.map (·.1)).length := by rw [List.length_map]; omega
  have ln : ((hs.map (·.1)).zip ls).length = ls.length := by rw [List.length_zip]; omega
  refine ⟨by omega, by omega, fun p hp => ?_, fun p hp => ?_, ?_, ?_⟩
  · obtain ⟨q, hq, e⟩ := List.mem_map.mp (List.of_mem_zip hp).1
    rw [← e]
    exact h.nm q hq
  · have := hb p.2 (List.of_mem_zip hp).2
    omega
  · rw [zip_fst _ _ le]
    exact h.up.sublist (List.take_sublist _ _)
  · rw [zip_snd _ _ le]
    obtain ⟨p1, p2⟩ := prod_le hb
    have : ls.length ≤ 3 := by omega
    have hc : ls.length = 0 ∨ ls.length = 1 ∨ ls.length = 2 ∨ ls.length = 3 := by omega
    rcases hc with hc | hc | hc | hc <;> rw [hc] at p2 <;> exact Int.le_trans p2 (by decide)
theorem right_eq : w__law_right = (wSq (wFor (wRng1 (wC (.int 10))) (gNm 1) (wSq (wAsg (wCall S__law_house 4 4 0 [0, 1, 2, 3] D__law_house (wCons (wVar 0) (wCons (wC (.int 5)) (wCons (wCall S__law_any 2 2 0 [0, 1] D__law_any (wCons (wVar 0) (wCons (wLst (wCons (wC (.int 4)) (wCons (wC (.int 8)) (wCons (wC (.int 12)) wNil)))) wNil)) wNil) (wCons (wC (.int 400)) wNil)))) wNil) (gNm 2)) (wSq (wIfS (wTB (w2 oEq (wCall S__law_deal 2 2 0 [0, 1] D__law_deal (wCons (wVar 0) (wCons (wC (.int 2)) wNil)) wNil) (wC (.int 0)))) (wAsg (wB bTuple (wCons (wComp (wRng1 (wB bMin2 (wCons (wC (.int 3)) (wCons (wB bLen (wCons (wVar 2) wNil)) wNil)))) (([("k", 7)] : List (Str × Nat)).map (·.2)) (gNm 7) wYes (wTup (wCons (w2 oIx (w2 oIx (wVar 2) (wVar 7)) (wC (.int 0))) (wCons (wCall S__law_any 2 2 0 [0, 1] D__law_any (wCons (wVar 0) (wCons (wLst (wCons (wC (.int 2)) (wCons (wC (.int 4)) (wCons (wC (.int 8)) (wCons (wC (.int 6)) (wCons (wC (.int 3)) wNil)))))) wNil)) wNil) wNil)))) wNil)) (gNm 2)) wNext) w_rest))) (wRet (wC (.bl true)))) := rfl
theorem right_ok (Q : D → Prop) (q : Q (.bl true)) : S__law_right [.well] Q := by
  unfold S__law_right
  rw [right_eq]
  simp [env0]
  refine forL_ind (fun rest ρ => ∃ v a2 a3 a4 a5 a6 a7 a8, ρ = [some (.sh .well), v, a2, a3, a4, a5, a6, a7, a8] ∧ (∀ d, a7 ≠ some (.ow d)) ∧ (∀ d, a8 ≠ some (.ow d))) ?_ ?_ _ _ ⟨_, _, _, _, _, _, _, _, rfl, by simp, by simp⟩
  · rintro d rest ρ ⟨v, a2, a3, a4, a5, a6, a7, a8, rfl, n7, n8⟩ K k
    simp
    refine ⟨by decide, ?_⟩
    refine any_ok _ _ (by simp) (by simp) fun g hg => ?_
    obtain ⟨g, rfl, hg1, hg2⟩ : ∃ n : Nat, g = .int n ∧ 1 ≤ n ∧ n ≤ 12 := by
      simp at hg
      rcases hg with rfl | rfl | rfl
      · exact ⟨4, rfl, by omega, by omega⟩
      · exact ⟨8, rfl, by omega, by omega⟩
      · exact ⟨12, rfl, by omega, by omega⟩
    refine house_ok _ ⟨hg1, hg2⟩ fun hs h h5 => ?_
    refine deal_ok (n := 2) _ (by decide) (by decide) fun j hj => ?_
    have fin : ∀ (hs : List (Str × Int)) (a7 : Option Slot), (∀ d, a7 ≠ some (.ow d)) → HouseOK hs → hs.length ≤ 5 → w_rest [some (.sh .well), some (.sh d), some (.sh (houseD hs)), a3, a4, a5, a6, a7, a8] { nx := K, rt := Q, bk := fun ρ' => Q (.bl true), ct := K } := fun hs a7 n7 h h5 =>
      rest_ok n7 n8 _ h h5 fun b3 b4 b5 b6 => k _ ⟨_, _, _, _, _, _, a7, a8, rfl, n7, n8⟩
    have h1 := h.one
    rw [oEq_i]
    by_cases hj0 : j = 0
    · refine .inr ⟨by rw [hj0]; rfl, ?_⟩
      unfold houseD
      rw [bLen_t, bMin2_x, List.length_map]
      have e3 : (if (hs.length : Int) < 3 then (hs.length : Int) else 3) = ((min 3 hs.length : Nat) : Int) := by
        split <;> omega
      rw [e3]
      refine ⟨_, rfl, by omega, by omega, by simpa [noOw] using n7, ?_⟩
      rw [Int.toNat_natCast, rng_nat]
      refine compL_ind (fun rest acc => ∃ (a b : List Nat) (ls : List Int), List.range (min 3 hs.length) = a ++ b ∧ rest = b.map (fun i : Nat => D.int (i : Int)) ∧ ls.length = a.length ∧ (∀ l ∈ ls, 1 ≤ l ∧ l ≤ 8) ∧ acc = ((hs.map (·.1)).zip ls).map pairD) ?_ ?_ _ _ ⟨[], _, [], rfl, rfl, rfl, by simp, by simp⟩
      · rintro dd rest' acc ⟨a, b, ls, f1, f2, f3, f4, rfl⟩ K' k'
        cases b with
        | nil => cases f2
        | cons t b =>
          cases f2
          obtain ⟨ta, tn⟩ := range_split f1
          have hk : t < hs.length := by omega
          have e4 : (hs.map pairD)[t]? = some (pairD hs[t]) := by rw [List.getElem?_map, List.getElem?_eq_getElem hk]; rfl
          simp [wipeD, atI_ok e4]
          simp [pairD, atI0]
          refine ⟨by decide, ?_⟩
          refine any_ok _ _ (by simp) (by simp) fun l hl => ?_
          obtain ⟨l, rfl, hl1, hl2⟩ : ∃ n : Int, l = .int n ∧ 1 ≤ n ∧ n ≤ 8 := by
            simp at hl
            rcases hl with rfl | rfl | rfl | rfl | rfl
            · exact ⟨2, rfl, by omega, by omega⟩
            · exact ⟨4, rfl, by omega, by omega⟩
            · exact ⟨8, rfl, by omega, by omega⟩
            · exact ⟨6, rfl, by omega, by omega⟩
            · exact ⟨3, rfl, by omega, by omega⟩
          refine ⟨by decide, ?_, ?_⟩
          · exact Nat.lt_of_le_of_lt (by omega : _ ≤ 10) (by decide)
          · refine k' _ ⟨a ++ [t], b, ls ++ [l], by rw [f1]; simp, rfl, by simp [f3], fun m hm => ?_, ?_⟩
            · rcases List.mem_append.mp hm with hm | hm
              · exact f4 m hm
              · cases List.mem_singleton.mp hm
                exact ⟨hl1, hl2⟩
            · have hz : ls.length < (hs.map (·.1)).length := by rw [List.length_map]; omega
              rw [zip_snoc _ _ _ hz, List.map_append]
              have ei : ls.length = t := by omega
              simp [pairD, ei]
      · rintro acc ⟨a, b, ls, f1, f2, f3, f4, rfl⟩
        cases b with
        | cons _ _ => cases f2
        | nil =>
          rw [List.append_nil] at f1
          have ll : ls.length = min 3 hs.length := by rw [f3, ← f1, List.length_range]
          have hh := first_three h ls ll f4
          refine fin _ a7 n7 hh ?_
          rw [List.length_zip, List.length_map]
          omega
    · refine .inl ⟨by rw [decide_eq_false (by omega)], fin hs a7 n7 h h5⟩
  · rintro ρ ⟨v, a2, a3, a4, a5, a6, a7, a8, rfl, n7, n8⟩
    simp
    exact q
end DL
namespace DL
open PySem PySem.Spec PyProof.Rows L2
theorem cmul_c {i j : Int} (h : -(2 ^ 64) < j ∧ j < 2 ^ 64) : CMul i j := .inr h
theorem cmul_l {i j : Int} (h : -(2 ^ 64) < i ∧ i < 2 ^ 64) : CMul i j := .inl h
theorem pail_ok (ns : List Int) (t : Nat) (Q : D → Prop) (hl : ns.length ≤ 63) (q : Q .well) : S__law_pail [.lst (ns.map .int), .int t] Q := by
  simp [S__law_pail, w__law_pail, env0]
  refine ⟨cmul_l ⟨by decide, by decide⟩, ?_⟩
  have ec : ∃ ms : List Int, cutD (ns.map D.int) none (some 12) = ms.map D.int := by
    unfold cutD
    rw [← List.map_drop, ← List.map_take]
    exact ⟨_, rfl⟩
  obtain ⟨ms, em⟩ := ec
  rw [em]
  refine forL_ind (fun rest ρ => ∃ (ks : List Int) (m : Int) (v : Option Slot), rest = ks.map .int ∧ ρ = [some (.sh (.lst (ns.map .int))), some (.sh (.int t)), some (.sh (.int m)), v, none]) ?_ ?_ _ _ ⟨ms, _, none, rfl, rfl⟩
  · rintro d rest ρ ⟨ks, m, v, f1, rfl⟩ K k
    cases ks with
    | nil => cases f1
    | cons x ks =>
      cases f1
      simp
      exact ⟨cmul_c ⟨by decide, by decide⟩, cmul_c ⟨by decide, by decide⟩, k _ ⟨ks, _, _, rfl, rfl⟩⟩
  · rintro ρ ⟨ks, m, v, f1, rfl⟩
    by_cases h : t < ns.length
    · have h' : (t : Int) < ns.length := by omega
      simp [h, ints_at h]
      refine ⟨cmul_c ⟨by decide, by decide⟩, cmul_c ⟨by decide, by decide⟩, ?_⟩
      by_cases hn : 0 ≤ nthI ns t
      · refine .inl ⟨hn, ⟨by decide, by decide, by decide⟩, ?_⟩
        by_cases hb : nthI ns t < 1000000000000000
        · exact .inl ⟨hb, by decide, q⟩
        · exact .inr ⟨by omega, by decide, q⟩
      · exact .inr ⟨by omega, by decide, q⟩
    · have h' : ¬ (t : Int) < ns.length := by omega
      simp [h]
      exact ⟨cmul_c ⟨by decide, by decide⟩, cmul_c ⟨by decide, by decide⟩, ⟨by decide, by decide, by decide⟩, by decide, q⟩
theorem law_true (ns : List Int) (h : ns.length ≤ 63) : S_law [.lst (ns.map D.int)] fun d => d = .bl true := by
  simp [S_law, w_law, env0]
  obtain ⟨m, hm⟩ : ∃ m : Nat, (m : Int) = (if 2 < if 3 < (ns.length : Int) then 3 else (ns.length : Int) then if 3 < (ns.length : Int) then 3 else (ns.length : Int) else 2) ∧ m ≤ 3 := by
    by_cases h3 : 2 < ns.length
    · refine ⟨3, ?_, by omega⟩
      split <;> split <;> omega
    · refine ⟨2, ?_, by omega⟩
      split <;> split <;> omega
  rw [← hm.1]
  refine ⟨by omega, by omega, by simp [noOw], ?_⟩
  rw [Int.toNat_natCast, rng_nat]
  refine compL_map (α := Nat) _ (fun _ => .bl true) (fun _ => true) _ _ ?_ (fun t ht acc hl K k => ?_) ?_
  · rw [List.length_nil, List.length_range]
    exact Nat.le_trans (by omega : _ ≤ 10) (by decide)
  · simp [wipeD]
    refine pail_ok ns t _ h ?_
    refine right_ok _ ?_
    exact ⟨hl, by simpa using k⟩
  · rw [filter_true]
    exact ⟨(List.range m).map fun _ => true, by simp, by simp⟩
end DL
namespace DL
open PySem PySem.Spec PyProof.Rows L2
/-! the head -/
def fnH : List He.DefD := [⟨("_law_deal", none), "_law_deal", "_law_deal", defArgs s__law_deal, defBody s__law_deal, defScope s__law_deal, [], []⟩,
  ⟨("_law_shuffled", none), "_law_shuffled", "_law_shuffled", defArgs s__law_shuffled, defBody s__law_shuffled, defScope s__law_shuffled, [], []⟩,
  ⟨("_law_any", none), "_law_any", "_law_any", defArgs s__law_any, defBody s__law_any, defScope s__law_any, [], []⟩,
  ⟨("_law_names", none), "_law_names", "_law_names", defArgs s__law_names, defBody s__law_names, defScope s__law_names, [], []⟩,
  ⟨("_law_house", none), "_law_house", "_law_house", defArgs s__law_house, defBody s__law_house, defScope s__law_house, [], []⟩,
  ⟨("_law_limits", none), "_law_limits", "_law_limits", defArgs s__law_limits, defBody s__law_limits, defScope s__law_limits, [], []⟩,
  ⟨("_law_all_ages", none), "_law_all_ages", "_law_all_ages", defArgs s__law_all_ages, defBody s__law_all_ages, defScope s__law_all_ages, [], []⟩,
  ⟨("_law_common", none), "_law_common", "_law_common", defArgs s__law_common, defBody s__law_common, defScope s__law_common, [], []⟩,
  ⟨("_law_are_offsets", none), "_law_are_offsets", "_law_are_offsets", defArgs s__law_are_offsets, defBody s__law_are_offsets, defScope s__law_are_offsets, [], []⟩,
  ⟨("is_tuple_of", none), "is_tuple_of", "is_tuple_of", defArgs s_is_tuple_of, defBody s_is_tuple_of, defScope s_is_tuple_of, [], []⟩,
  ⟨("is_string", none), "is_string", "is_string", defArgs s_is_string, defBody s_is_string, defScope s_is_string, [], []⟩,
  ⟨("is_made_of", none), "is_made_of", "is_made_of", defArgs s_is_made_of, defBody s_is_made_of, defScope s_is_made_of, [], []⟩,
  ⟨("is_word", none), "is_word", "is_word", defArgs s_is_word, defBody s_is_word, defScope s_is_word, [], []⟩,
  ⟨("is_name", none), "is_name", "is_name", defArgs s_is_name, defBody s_is_name, defScope s_is_name, [], []⟩,
  ⟨("is_whole", none), "is_whole", "is_whole", defArgs s_is_whole, defBody s_is_whole, defScope s_is_whole, [], []⟩,
  ⟨("is_number", none), "is_number", "is_number", defArgs s_is_number, defBody s_is_number, defScope s_is_number, [.non], []⟩,
  ⟨("is_limit", none), "is_limit", "is_limit", defArgs s_is_limit, defBody s_is_limit, defScope s_is_limit, [], []⟩,
  ⟨("is_pair_of_house", none), "is_pair_of_house", "is_pair_of_house", defArgs s_is_pair_of_house, defBody s_is_pair_of_house, defScope s_is_pair_of_house, [], []⟩,
  ⟨("is_ascending", none), "is_ascending", "is_ascending", defArgs s_is_ascending, defBody s_is_ascending, defScope s_is_ascending, [], []⟩,
  ⟨("names_of", none), "names_of", "names_of", defArgs s_names_of, defBody s_names_of, defScope s_names_of, [], []⟩,
  ⟨("product_of", none), "product_of", "product_of", defArgs s_product_of, defBody s_product_of, defScope s_product_of, [], []⟩,
  ⟨("limits_in", none), "limits_in", "limits_in", defArgs s_limits_in, defBody s_limits_in, defScope s_limits_in, [], []⟩,
  ⟨("is_house_form", none), "is_house_form", "is_house_form", defArgs s_is_house_form, defBody s_is_house_form, defScope s_is_house_form, [], []⟩,
  ⟨("check_house", none), "check_house", "check_house", defArgs s_check_house, defBody s_check_house, defScope s_check_house, [], []⟩,
  ⟨("all_below", none), "all_below", "all_below", defArgs s_all_below, defBody s_all_below, defScope s_all_below, [], []⟩,
  ⟨("all_ages", none), "all_ages", "all_ages", defArgs s_all_ages, defBody s_all_ages, defScope s_all_ages, [], []⟩,
  ⟨("common_divisor", none), "common_divisor", "common_divisor", defArgs s_common_divisor, defBody s_common_divisor, defScope s_common_divisor, [], []⟩,
  ⟨("are_apart", none), "are_apart", "are_apart", defArgs s_are_apart, defBody s_are_apart, defScope s_are_apart, [], []⟩,
  ⟨("are_offsets", none), "are_offsets", "are_offsets", defArgs s_are_offsets, defBody s_are_offsets, defScope s_are_offsets, [], []⟩,
  ⟨("all_offsets", none), "all_offsets", "all_offsets", defArgs s_all_offsets, defBody s_all_offsets, defScope s_all_offsets, [], []⟩,
  ⟨("offsets", none), "offsets", "offsets", defArgs s_offsets, defBody s_offsets, defScope s_offsets, [], []⟩,
  ⟨("offsets_number", none), "offsets_number", "offsets_number", defArgs s_offsets_number, defBody s_offsets_number, defScope s_offsets_number, [], []⟩,
  ⟨("_law_right", none), "_law_right", "_law_right", defArgs s__law_right, defBody s__law_right, defScope s__law_right, [], []⟩,
  ⟨("_law_pail", none), "_law_pail", "_law_pail", defArgs s__law_pail, defBody s__law_pail, defScope s__law_pail, [], []⟩,
  ⟨("law", none), "law", "law", defArgs s_law, defBody s_law, defScope s_law, [], []⟩]
def faH : List He.Fa := [.glo "_law_deal", .glo "_law_shuffled", .glo "_law_any", .glo "_law_names", .glo "_law_house", .glo "_law_limits", .glo "_law_all_ages", .glo "_law_common", .glo "_law_are_offsets", .glo "is_tuple_of", .glo "is_string", .glo "is_made_of", .glo "is_word", .glo "is_name", .glo "is_whole", .glo "is_number", .glo "is_limit", .glo "is_pair_of_house", .glo "is_ascending", .glo "names_of", .glo "product_of", .glo "limits_in", .glo "is_house_form", .glo "check_house", .glo "all_below", .glo "all_ages", .glo "common_divisor", .glo "are_apart", .glo "are_offsets", .glo "all_offsets", .glo "offsets", .glo "offsets_number", .glo "_law_right", .glo "_law_pail", .glo "law", .free "abs", .free "all", .free "bool", .free "divmod", .free "int", .free "isinstance", .free "len", .free "list", .free "max", .free "min", .free "range", .free "repr", .free "sorted", .free "str", .free "tuple", .int "LONGEST_NAME" 8, .int "MOST_AGES" 600, .int "MOST_LIMIT" 60, .int "MOST_PLACES" 6, .str "SMALL_LETTERS" "abcdefghijklmnopqrstuvwxyz", .glo "WORDS"]
def exH (K : Frg) : Bool := He.tupB K "WORDS" (W_WORDS.map He.Dv.str)
def looseH0 : List PySem.Str := ["LookError", "InvalidHouse", "SMALL_LETTERS", "LONGEST_NAME", "WORDS", "is_whole", "is_number", "is_string", "is_made_of", "is_word", "is_name", "is_tuple_of", "is_ascending", "common_divisor", "MOST_PLACES", "MOST_LIMIT", "MOST_AGES", "product_of", "is_limit", "is_pair_of_house", "is_house_form", "names_of", "limits_in", "all_below", "all_ages", "check_house", "are_apart", "are_offsets", "all_offsets", "offsets"]
def looseH1 : List PySem.Str := ["offsets_number", "_law_pail", "_law_deal", "_law_any", "_law_shuffled", "_law_names", "_law_common", "_law_house", "_law_limits", "_law_all_ages", "_law_are_offsets", "_law_right"]
def looseH : List PySem.Str := looseH0 ++ looseH1
abbrev RH : PySem.W.OpenRow := PySem.W.OpenLaw.row PySem.Challenge.rw_lookturns_k32_whole_offsets
abbrev hkH : PySem.W.Hook := He.hookX 4 faH fnH [] [] exH
def obH (s : PySem.W.SharedT) : He.AlX := He.obsX 4 faH fnH [] [] exH (HandSHeadRun.getT s)
theorem obH_eq (s : PySem.W.SharedT) : obH s = hkH.obs s.abs := He.obsX_eq (HandSHeadRun.getT_eq s)
theorem runH (w : World) : HandSHeadRun.RunEq RH (PySem.W.view RH.prog [48]) hkH obH 4000 looseH w := by
  intro os
  kernel_rfl
theorem factsH {K : Frg} {w : World} {h : Heap} {mg : Str → Option Value} (X : K.In h) (G : h.Ns mainGlobals mg) (c : He.SaysX faH fnH [] [] exH w h K) : T K mg where
  z_abs := He.free_ok X G (c.t.d.fact 35 rfl)
  z_all := He.free_ok X G (c.t.d.fact 36 rfl)
  z_bool := He.free_ok X G (c.t.d.fact 37 rfl)
  z_divmod := He.free_ok X G (c.t.d.fact 38 rfl)
  z_int := He.free_ok X G (c.t.d.fact 39 rfl)
  z_isinstance := He.free_ok X G (c.t.d.fact 40 rfl)
  z_len := He.free_ok X G (c.t.d.fact 41 rfl)
  z_list := He.free_ok X G (c.t.d.fact 42 rfl)
  z_max := He.free_ok X G (c.t.d.fact 43 rfl)
  z_min := He.free_ok X G (c.t.d.fact 44 rfl)
  z_range := He.free_ok X G (c.t.d.fact 45 rfl)
  z_repr := He.free_ok X G (c.t.d.fact 46 rfl)
  z_sorted := He.free_ok X G (c.t.d.fact 47 rfl)
  z_str := He.free_ok X G (c.t.d.fact 48 rfl)
  z_tuple := He.free_ok X G (c.t.d.fact 49 rfl)
  c_LONGEST_NAME := let ⟨_, e⟩ := He.int_ok X G (x := "LONGEST_NAME") (i := 8) (c.t.d.fact 50 rfl); gc_int e
  c_MOST_AGES := let ⟨_, e⟩ := He.int_ok X G (x := "MOST_AGES") (i := 600) (c.t.d.fact 51 rfl); gc_int e
  c_MOST_LIMIT := let ⟨_, e⟩ := He.int_ok X G (x := "MOST_LIMIT") (i := 60) (c.t.d.fact 52 rfl); gc_int e
  c_MOST_PLACES := let ⟨_, e⟩ := He.int_ok X G (x := "MOST_PLACES") (i := 6) (c.t.d.fact 53 rfl); gc_int e
  c_SMALL_LETTERS := let ⟨_, e⟩ := He.str_ok X G (x := "SMALL_LETTERS") (z := "abcdefghijklmnopqrstuvwxyz") (c.t.d.fact 54 rfl); gc_str e
  c_WORDS := gc_tup (He.glo_ok X G (c.t.d.fact 55 rfl)) (vs := W_WORDS.map V.str) (fun H => (List.map_map (f := He.Dv.str) (g := He.Dv.v K) (l := W_WORDS)) ▸ He.tupB_ok c.more H) (fun H => Reps.of_strs W_WORDS)
  d__law_deal := let ⟨fd, F⟩ := c.t.d.def_ 0 rfl; ⟨_, fd, He.glo_ok X G (c.t.d.fact 0 rfl), F⟩
  d__law_shuffled := let ⟨fd, F⟩ := c.t.d.def_ 1 rfl; ⟨_, fd, He.glo_ok X G (c.t.d.fact 1 rfl), F⟩
  d__law_any := let ⟨fd, F⟩ := c.t.d.def_ 2 rfl; ⟨_, fd, He.glo_ok X G (c.t.d.fact 2 rfl), F⟩
  d__law_names := let ⟨fd, F⟩ := c.t.d.def_ 3 rfl; ⟨_, fd, He.glo_ok X G (c.t.d.fact 3 rfl), F⟩
  d__law_house := let ⟨fd, F⟩ := c.t.d.def_ 4 rfl; ⟨_, fd, He.glo_ok X G (c.t.d.fact 4 rfl), F⟩
  d__law_limits := let ⟨fd, F⟩ := c.t.d.def_ 5 rfl; ⟨_, fd, He.glo_ok X G (c.t.d.fact 5 rfl), F⟩
  d__law_all_ages := let ⟨fd, F⟩ := c.t.d.def_ 6 rfl; ⟨_, fd, He.glo_ok X G (c.t.d.fact 6 rfl), F⟩
  d__law_common := let ⟨fd, F⟩ := c.t.d.def_ 7 rfl; ⟨_, fd, He.glo_ok X G (c.t.d.fact 7 rfl), F⟩
  d__law_are_offsets := let ⟨fd, F⟩ := c.t.d.def_ 8 rfl; ⟨_, fd, He.glo_ok X G (c.t.d.fact 8 rfl), F⟩
  d_is_tuple_of := let ⟨fd, F⟩ := c.t.d.def_ 9 rfl; ⟨_, fd, He.glo_ok X G (c.t.d.fact 9 rfl), F⟩
  d_is_string := let ⟨fd, F⟩ := c.t.d.def_ 10 rfl; ⟨_, fd, He.glo_ok X G (c.t.d.fact 10 rfl), F⟩
  d_is_made_of := let ⟨fd, F⟩ := c.t.d.def_ 11 rfl; ⟨_, fd, He.glo_ok X G (c.t.d.fact 11 rfl), F⟩
  d_is_word := let ⟨fd, F⟩ := c.t.d.def_ 12 rfl; ⟨_, fd, He.glo_ok X G (c.t.d.fact 12 rfl), F⟩
  d_is_name := let ⟨fd, F⟩ := c.t.d.def_ 13 rfl; ⟨_, fd, He.glo_ok X G (c.t.d.fact 13 rfl), F⟩
  d_is_whole := let ⟨fd, F⟩ := c.t.d.def_ 14 rfl; ⟨_, fd, He.glo_ok X G (c.t.d.fact 14 rfl), F⟩
  d_is_number := let ⟨fd, F⟩ := c.t.d.def_ 15 rfl; ⟨_, fd, He.glo_ok X G (c.t.d.fact 15 rfl), F⟩
  d_is_limit := let ⟨fd, F⟩ := c.t.d.def_ 16 rfl; ⟨_, fd, He.glo_ok X G (c.t.d.fact 16 rfl), F⟩
  d_is_pair_of_house := let ⟨fd, F⟩ := c.t.d.def_ 17 rfl; ⟨_, fd, He.glo_ok X G (c.t.d.fact 17 rfl), F⟩
  d_is_ascending := let ⟨fd, F⟩ := c.t.d.def_ 18 rfl; ⟨_, fd, He.glo_ok X G (c.t.d.fact 18 rfl), F⟩
  d_names_of := let ⟨fd, F⟩ := c.t.d.def_ 19 rfl; ⟨_, fd, He.glo_ok X G (c.t.d.fact 19 rfl), F⟩
  d_product_of := let ⟨fd, F⟩ := c.t.d.def_ 20 rfl; ⟨_, fd, He.glo_ok X G (c.t.d.fact 20 rfl), F⟩
  d_limits_in := let ⟨fd, F⟩ := c.t.d.def_ 21 rfl; ⟨_, fd, He.glo_ok X G (c.t.d.fact 21 rfl), F⟩
  d_is_house_form := let ⟨fd, F⟩ := c.t.d.def_ 22 rfl; ⟨_, fd, He.glo_ok X G (c.t.d.fact 22 rfl), F⟩
  d_check_house := let ⟨fd, F⟩ := c.t.d.def_ 23 rfl; ⟨_, fd, He.glo_ok X G (c.t.d.fact 23 rfl), F⟩
  d_all_below := let ⟨fd, F⟩ := c.t.d.def_ 24 rfl; ⟨_, fd, He.glo_ok X G (c.t.d.fact 24 rfl), F⟩
  d_all_ages := let ⟨fd, F⟩ := c.t.d.def_ 25 rfl; ⟨_, fd, He.glo_ok X G (c.t.d.fact 25 rfl), F⟩
  d_common_divisor := let ⟨fd, F⟩ := c.t.d.def_ 26 rfl; ⟨_, fd, He.glo_ok X G (c.t.d.fact 26 rfl), F⟩
  d_are_apart := let ⟨fd, F⟩ := c.t.d.def_ 27 rfl; ⟨_, fd, He.glo_ok X G (c.t.d.fact 27 rfl), F⟩
  d_are_offsets := let ⟨fd, F⟩ := c.t.d.def_ 28 rfl; ⟨_, fd, He.glo_ok X G (c.t.d.fact 28 rfl), F⟩
  d_all_offsets := let ⟨fd, F⟩ := c.t.d.def_ 29 rfl; ⟨_, fd, He.glo_ok X G (c.t.d.fact 29 rfl), F⟩
  d_offsets := let ⟨fd, F⟩ := c.t.d.def_ 30 rfl; ⟨_, fd, He.glo_ok X G (c.t.d.fact 30 rfl), F⟩
  d_offsets_number := let ⟨fd, F⟩ := c.t.d.def_ 31 rfl; ⟨_, fd, He.glo_ok X G (c.t.d.fact 31 rfl), F⟩
  d__law_right := let ⟨fd, F⟩ := c.t.d.def_ 32 rfl; ⟨_, fd, He.glo_ok X G (c.t.d.fact 32 rfl), F⟩
  d__law_pail := let ⟨fd, F⟩ := c.t.d.def_ 33 rfl; ⟨_, fd, He.glo_ok X G (c.t.d.fact 33 rfl), F⟩
  d_law := let ⟨fd, F⟩ := c.t.d.def_ 34 rfl; ⟨_, fd, He.glo_ok X G (c.t.d.fact 34 rfl), F⟩
end DL
open PySem PySem.W PySem.Calls PyProof.Rows
set_option maxHeartbeats 0 in
theorem PySem.Challenge.cw_lookturns_k32_whole_offsets_holds : PySem.Challenge.rw_lookturns_k32_whole_offsets.Holds := by
  w_on; o_law
  refine HandSHeadRun.head_any (r := OpenLaw.row PySem.Challenge.rw_lookturns_k32_whole_offsets) (q := view (OpenLaw.row PySem.Challenge.rw_lookturns_k32_whole_offsets).prog [48]) (H := DL.hkH) (ob := DL.obH) (M := 4000) (loose := DL.looseH) (d := HandSHeadRun.topDef (OpenLaw.row PySem.Challenge.rw_lookturns_k32_whole_offsets).prog 48) (kwd := []) DL.obH_eq
    (by kernel_rfl) (fun s => by kernel_rfl) DL.runH (by kernel_rfl) (by kernel_rfl) (by kernel_rfl) (by rfl) (by first | assumption | decide +kernel) (by decide +kernel) ⟨rfl, rfl, rfl, rfl, rfl, by decide +kernel⟩ ?hw ?hc
  case hw => w_witness2
  case hc =>
    refine DL.endG (l := PySem.Challenge.rw_lookturns_k32_whole_offsets) (k := 9) (x := "script") (S := DL.S_law) rfl (by kernel_rfl) ⟨rfl, by decide, by decide⟩ ?F DL.law_true
    intro w mg fa h Y G hmg0
    obtain ⟨K, KX, c⟩ := Y
    have hmg : mg ("law" : PySem.Str) = some (.ref fa) := by
      have e : (HandSHeadRun.topDef (OpenLaw.row PySem.Challenge.rw_lookturns_k32_whole_offsets).prog 48).name = ("law" : PySem.Str) := by kernel_rfl
      rw [← e]
      exact hmg0
    have t := DL.factsH KX G c
    obtain ⟨f, fd, m, F⟩ := t.d_law
    rw [m] at hmg
    cases hmg
    exact ⟨K, fd, KX, fun s v => L2.FunD.bindsA (ps := ["script"]) F (fun _ _ _ _ _ _ us hl => match us, hl with | [_], _ => rfl) s [v] rfl, fun base _ _ => DL.ok_law t F⟩
