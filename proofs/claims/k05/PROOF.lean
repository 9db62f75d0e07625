import PyProof.Rows.All
import HandS.ForMost
import HandS.ForExc
import HandS.Walk
import HandS.Zip
import HandS.IsInst
import HandS.Deep
import HandS.TupLe
import HandS.TupAny
import HandS.SortOrd
import HandS.SortInts
import HandS.Flow
import KE.SortData
import KE.DataMinMax
import KE.KTupSum
import HandS.SetFor
import HandS.RaiseMore
import HandS.Defaults
import KE.GoesMore
import KE.GoesEnum
import HandS.HeadHook1
import HandS.Style
import HandS.ExcIs
import HandS.Ends
import HandS.More
import HandS.Words
import HandS.WordsExc
import HandS.Head0
import HandS.Head1
import HandS.Head2
import HandS.HeadEnd
import HandS.HeadHook2
import HandS.HeadHook4
import HandS.TupMul
import KE.KRevSl
import KE.KDictZip
import PyProof.ListRange
import HandS.Set
import PyProof.Rows.SetFrom
import PySem.Challenge.RW_stepheights_k05_whole_extremes
set_option Elab.async false
set_option linter.all false
set_option autoImplicit false
set_option maxRecDepth 100000
set_option maxHeartbeats 4000000
/-! VL1: a value layer over HandS. Data D, results R, slots A, what a state is worth (Rep), growth of heaps. -/
namespace VL
open PySem PySem.Spec PyProof.Rows L2

/-- plain data: what a Python value is worth -/
inductive D where
  | non | bl (b : Bool) | int (i : Int) | str (x : Str) | tup (xs : List D) | lst (xs : List D)
  | dic (ks : List Int) (vs : List D) | scr (ns : List Int)

/-- a result: a value, an own exception by its class's name, or nothing said -/
inductive R (α : Type) where
  | ok (a : α) | ex (c : Str) | bad
def R.bind {α β : Type} : R α → (α → R β) → R β
  | .ok a, f => f a
  | .ex c, _ => .ex c
  | .bad, _ => .bad
instance : Monad R where
  pure := R.ok
  bind := R.bind
@[simp] theorem R.bind_ok {α β : Type} (a : α) (f : α → R β) : (R.ok a).bind f = f a := rfl
@[simp] theorem R.bind_ex {α β : Type} (c : Str) (f : α → R β) : (R.ex c : R α).bind f = .ex c := rfl
@[simp] theorem R.bind_bad {α β : Type} (f : α → R β) : (R.bad : R α).bind f = .bad := rfl
@[simp] theorem R.pure_eq {α : Type} (a : α) : (pure a : R α) = .ok a := rfl
@[simp] theorem R.bind_eq {α β : Type} (r : R α) (f : α → R β) : (r >>= f) = r.bind f := rfl

mutual
/-- the value v, in the frozen heap F, is worth d -/
inductive Rp (K : PySem.W.Frag) (F : Hp) : V → D → Prop
  | non : Rp K F .non .non
  | bl (b : Bool) : Rp K F (.bl b) (.bl b)
  | int (i : Int) : Rp K F (.int i) (.int i)
  | str (x : Str) : Rp K F (.str x) (.str x)
  | tup {a : Addr} {xs : List V} {ds : List D} : F a = some (.tup xs) → RpAll K F xs ds → Rp K F (.ref a) (.tup ds)
  | lst {a : Addr} {xs : List V} {ds : List D} : F a = some (.lst xs) → RpAll K F xs ds → Rp K F (.ref a) (.lst ds)
  | dic {a : Addr} {kvs : List (Key × V)} {ks : List Int} {ds : List D} : F a = some (.dK kvs) → kvs.map (·.1) = ks.map Sum.inl → RpAll K F (kvs.map (·.2)) ds → Rp K F (.ref a) (.dic ks ds)
  | scr {a : Addr} {ns : List Int} : SqL K F a (ns.map V.int) → Rp K F (.ref a) (.scr ns)
inductive RpAll (K : PySem.W.Frag) (F : Hp) : List V → List D → Prop
  | nil : RpAll K F [] []
  | cons {v : V} {vs : List V} {d : D} {ds : List D} : Rp K F v d → RpAll K F vs ds → RpAll K F (v :: vs) (d :: ds)
end

section
variable {K : PySem.W.Frag} {F F' : Hp}
mutual
theorem Rp.mono (s : Same F F') : ∀ {v : V} {d : D}, Rp K F v d → Rp K F' v d
  | _, _, .non => .non
  | _, _, .bl b => .bl b
  | _, _, .int i => .int i
  | _, _, .str x => .str x
  | _, _, .tup h r => .tup (s _ _ h) (RpAll.mono s r)
  | _, _, .lst h r => .lst (s _ _ h) (RpAll.mono s r)
  | _, _, .dic h e r => .dic (s _ _ h) e (RpAll.mono s r)
  | _, _, .scr h => .scr (s.seq h)
theorem RpAll.mono (s : Same F F') : ∀ {vs : List V} {ds : List D}, RpAll K F vs ds → RpAll K F' vs ds
  | _, _, .nil => .nil
  | _, _, .cons h r => .cons (Rp.mono s h) (RpAll.mono s r)
end
theorem RpAll.length : ∀ {vs : List V} {ds : List D}, RpAll K F vs ds → vs.length = ds.length
  | _, _, .nil => rfl
  | _, _, .cons _ r => by rw [List.length_cons, List.length_cons, RpAll.length r]
theorem RpAll.get : ∀ {vs : List V} {ds : List D} {i : Nat} {d : D}, RpAll K F vs ds → ds[i]? = some d → ∃ v, vs[i]? = some v ∧ Rp K F v d
  | _, _, _, _, .nil, h => by simp at h
  | _, _, 0, _, .cons h _, e => by simp at e; subst e; exact ⟨_, rfl, h⟩
  | _, _, i + 1, d, .cons _ r, e => by
    obtain ⟨v, h1, h2⟩ := RpAll.get (i := i) (d := d) r (by simpa using e)
    exact ⟨v, by simpa using h1, h2⟩
theorem RpAll.get' : ∀ {vs : List V} {ds : List D} {i : Nat} {v : V}, RpAll K F vs ds → vs[i]? = some v → ∃ d, ds[i]? = some d ∧ Rp K F v d
  | _, _, _, _, .nil, h => by simp at h
  | _, _, 0, _, .cons h _, e => by simp at e; subst e; exact ⟨_, rfl, h⟩
  | _, _, i + 1, v, .cons _ r, e => by
    obtain ⟨d, h1, h2⟩ := RpAll.get' (i := i) (v := v) r (by simpa using e)
    exact ⟨d, by simpa using h1, h2⟩
theorem RpAll.append : ∀ {vs ws : List V} {ds es : List D}, RpAll K F vs ds → RpAll K F ws es → RpAll K F (vs ++ ws) (ds ++ es)
  | _, _, _, _, .nil, q => q
  | _, _, _, _, .cons h r, q => .cons h (RpAll.append r q)
theorem RpAll.one {v : V} {d : D} (h : Rp K F v d) : RpAll K F [v] [d] := .cons h .nil
theorem RpAll.take : ∀ {vs : List V} {ds : List D} (n : Nat), RpAll K F vs ds → RpAll K F (vs.take n) (ds.take n)
  | _, _, 0, _ => .nil
  | _, _, _ + 1, .nil => .nil
  | _, _, n + 1, .cons h r => .cons h (RpAll.take n r)
theorem RpAll.drop : ∀ {vs : List V} {ds : List D} (n : Nat), RpAll K F vs ds → RpAll K F (vs.drop n) (ds.drop n)
  | _, _, 0, r => r
  | _, _, _ + 1, .nil => .nil
  | _, _, n + 1, .cons _ r => RpAll.drop n r
theorem RpAll.set : ∀ {vs : List V} {ds : List D} (i : Nat) {v : V} {d : D}, RpAll K F vs ds → Rp K F v d → RpAll K F (vs.set i v) (ds.set i d)
  | _, _, _, _, _, .nil, _ => .nil
  | _, _, 0, _, _, .cons _ r, q => .cons q r
  | _, _, i + 1, _, _, .cons h r, q => .cons h (RpAll.set i r q)
theorem RpAll.eraseIdx : ∀ {vs : List V} {ds : List D} (i : Nat), RpAll K F vs ds → RpAll K F (vs.eraseIdx i) (ds.eraseIdx i)
  | _, _, _, .nil => .nil
  | _, _, 0, .cons _ r => r
  | _, _, i + 1, .cons h r => .cons h (RpAll.eraseIdx i r)
theorem RpAll.reverse {vs : List V} {ds : List D} (h : RpAll K F vs ds) : RpAll K F vs.reverse ds.reverse := by
  have go : ∀ {vs ws : List V} {ds es : List D}, RpAll K F vs ds → RpAll K F ws es → RpAll K F (vs.reverseAux ws) (ds.reverseAux es) := by
    intro vs
    induction vs with
    | nil =>
      intro ws ds es h q
      cases h
      exact q
    | cons v vs ih =>
      intro ws ds es h q
      cases h with
      | cons a b => exact ih (es := _ :: es) b (.cons a q)
  exact go h .nil
theorem RpAll.rep {vs : List V} {ds : List D} (h : RpAll K F vs ds) : ∀ k : Nat, RpAll K F (List.replicate k vs).flatten (List.replicate k ds).flatten
  | 0 => .nil
  | k + 1 => by rw [List.replicate_succ, List.replicate_succ, List.flatten_cons, List.flatten_cons]; exact h.append (RpAll.rep h k)
theorem RpAll.ints : ∀ {vs : List V} {ns : List Int}, RpAll K F vs (ns.map D.int) → vs = ns.map V.int
  | _, [], .nil => rfl
  | _, n :: ns, .cons h r => by cases h; rw [RpAll.ints r]; rfl
theorem rp_ints : ∀ (ns : List Int), RpAll K F (ns.map V.int) (ns.map D.int)
  | [] => .nil
  | n :: ns => .cons (.int n) (rp_ints ns)
theorem RpAll.strs : ∀ {vs : List V} {ns : List Str}, RpAll K F vs (ns.map D.str) → vs = ns.map V.str
  | _, [], .nil => rfl
  | _, n :: ns, .cons h r => by cases h; rw [RpAll.strs r]; rfl
theorem rp_strs : ∀ (ns : List Str), RpAll K F (ns.map V.str) (ns.map D.str)
  | [] => .nil
  | n :: ns => .cons (.str n) (rp_strs ns)
end

/-- a piece of code has run: the heap H has grown to H', the frozen heap F to F' by new things alone -/
structure Grow (F H F' H' : Hp) : Prop where
  hh : Same H H'
  ff : Same F F'
  fh : Same F' H'
  new : ∀ p, H p ≠ none → F p = none → F' p = none
theorem Grow.refl {F H : Hp} (s : Same F H) : Grow F H F H := ⟨Same.refl H, Same.refl F, s, fun _ _ h => h⟩
theorem _root_.L2.Same.some_ne {H H' : Hp} (s : Same H H') {p : Addr} (h : H p ≠ none) : H' p ≠ none := by
  cases e : H p with
  | none => exact absurd e h
  | some o => rw [s p o e]; exact Option.some_ne_none o
theorem Grow.trans {F H F1 H1 F2 H2 : Hp} (a : Grow F H F1 H1) (b : Grow F1 H1 F2 H2) : Grow F H F2 H2 :=
  ⟨a.hh.trans b.hh, a.ff.trans b.ff, b.fh, fun p h1 h2 => b.new p (a.hh.some_ne h1) (a.new p h1 h2)⟩
theorem upd_new {H : Hp} {p : Addr} {o : HO} (h : H p = none) : Same H (upd H p o) := fun b x e => by
  rw [upd_ne (ne_of_none e h)]
  exact e
theorem _root_.L2.Same.upd2 {F H : Hp} {p : Addr} {o : HO} (s : Same F H) : Same (upd F p o) (upd H p o) := fun b x e => by
  by_cases hb : b = p
  · subst hb; rw [upd_same] at e ⊢; exact e
  · rw [upd_ne hb] at e ⊢; exact s b x e
theorem _root_.L2.Same.skip {F H : Hp} {p : Addr} {o : HO} (s : Same F H) (h : F p = none) : Same F (upd H p o) := fun b x e => by
  rw [upd_ne (ne_of_none e h)]
  exact s b x e
theorem _root_.L2.Same.none_of {F H : Hp} (s : Same F H) {p : Addr} (h : H p = none) : F p = none := s.free h
/-- a new frozen object -/
theorem Grow.frozen {F H : Hp} {p : Addr} {o : HO} (s : Same F H) (h : H p = none) : Grow F H (upd F p o) (upd H p o) :=
  ⟨upd_new h, upd_new (s.free h), s.upd2, fun q h1 h2 => by
    rw [upd_ne (show q ≠ p from fun e => h1 (by rw [e]; exact h))]
    exact h2⟩
/-- a new object that is not frozen -/
theorem Grow.loose {F H : Hp} {p : Addr} {o : HO} (s : Same F H) (h : H p = none) : Grow F H F (upd H p o) :=
  ⟨upd_new h, Same.refl F, s.skip (s.free h), fun _ _ h2 => h2⟩

/-- what a slot holds: nothing known, data, a list of one's own, a dict of one's own -/
inductive A where
  | un | d (x : D) | m (xs : List D) | md (ks : List Int) (vs : List D)
def A.own : A → Bool
  | .m _ => true
  | .md _ _ => true
  | _ => false
abbrev Rho := List A
def Slot (K : PySem.W.Frag) (H0 F H : Hp) (o : Option (Option V)) : A → Prop
  | .un => True
  | .d x => ∃ v, o = some (some v) ∧ Rp K F v x
  | .m xs => ∃ p vs, o = some (some (.ref p)) ∧ H p = some (.lst vs) ∧ F p = none ∧ H0 p = none ∧ RpAll K F vs xs
  | .md ks xs => ∃ p kvs, o = some (some (.ref p)) ∧ H p = some (.dK kvs) ∧ F p = none ∧ H0 p = none ∧ kvs.map (·.1) = ks.map Sum.inl ∧ RpAll K F (kvs.map (·.2)) xs
/-- the slots σ and the heap H are worth ρ; F: the frozen part; F0, H0: at the def's entry -/
structure Rep (K : PySem.W.Frag) (F0 H0 F H : Hp) (σ : L2.St) (ρ : Rho) : Prop where
  sub : Same F H
  aH : Same H0 H
  aF : Same F0 F
  an : ∀ p, H0 p ≠ none → F0 p = none → F p = none
  len : ρ.length = σ.length
  slot : ∀ (i : Nat) (a : A), ρ[i]? = some a → Slot K H0 F H σ[i]? a
  sep : ∀ (i j : Nat) (p : Addr) (a b : A), i ≠ j → ρ[i]? = some a → ρ[j]? = some b → a.own = true → b.own = true → σ[i]? = some (some (.ref p)) → σ[j]? = some (some (.ref p)) → False
section
variable {K : PySem.W.Frag} {F0 H0 F H F' H' : Hp} {σ : L2.St} {ρ : Rho}
theorem Slot.grow {o : Option (Option V)} {a : A} (g : Grow F H F' H') (s : Slot K H0 F H o a) : Slot K H0 F' H' o a := by
  cases a with
  | un => trivial
  | d x => obtain ⟨v, e, r⟩ := s; exact ⟨v, e, r.mono g.ff⟩
  | m xs => obtain ⟨p, vs, e, h, f, h0, r⟩ := s; exact ⟨p, vs, e, g.hh _ _ h, g.new p (by rw [h]; exact Option.some_ne_none _) f, h0, r.mono g.ff⟩
  | md ks xs => obtain ⟨p, vs, e, h, f, h0, q, r⟩ := s; exact ⟨p, vs, e, g.hh _ _ h, g.new p (by rw [h]; exact Option.some_ne_none _) f, h0, q, r.mono g.ff⟩
theorem Rep.grow (r : Rep K F0 H0 F H σ ρ) (g : Grow F H F' H') : Rep K F0 H0 F' H' σ ρ :=
  ⟨g.fh, r.aH.trans g.hh, r.aF.trans g.ff, fun p h1 h2 => g.new p (r.aH.some_ne h1) (r.an p h1 h2), r.len, fun i a e => (r.slot i a e).grow g, r.sep⟩
theorem Rep.anchor (r : Rep K F0 H0 F H σ ρ) : Grow F0 H0 F H := ⟨r.aH, r.aF, r.sub, r.an⟩
/-- a slot is given data -/
theorem Rep.setD (r : Rep K F0 H0 F H σ ρ) {i : Nat} {v : V} {x : D} (h : Rp K F v x) : Rep K F0 H0 F H (σ.set i (some v)) (ρ.set i (.d x)) := by
  refine ⟨r.sub, r.aH, r.aF, r.an, by rw [List.length_set, List.length_set]; exact r.len, fun j a e => ?_, fun j k p a b hjk ea eb ha hb ej ek => ?_⟩
  · by_cases hj : i = j
    · subst hj
      obtain ⟨h1, e1⟩ := List.getElem?_eq_some_iff.mp e
      rw [List.length_set] at h1
      rw [List.getElem?_set_self h1] at e
      cases e
      rw [List.getElem?_set_self (by rw [← r.len]; exact h1)]
      exact ⟨v, rfl, h⟩
    · rw [List.getElem?_set_ne hj] at e ⊢
      exact r.slot j a e
  · have nj : ∀ {j : Nat} {a : A}, (ρ.set i (.d x))[j]? = some a → a.own = true → i ≠ j := fun {j a} e ha z => by
      subst z
      obtain ⟨h1, e1⟩ := List.getElem?_eq_some_iff.mp e
      rw [List.length_set] at h1
      rw [List.getElem?_set_self h1] at e
      cases e; cases ha
    have n1 := nj ea ha
    have n2 := nj eb hb
    rw [List.getElem?_set_ne n1] at ea ej
    rw [List.getElem?_set_ne n2] at eb ek
    exact r.sep j k p a b hjk ea eb ha hb ej ek
/-- an own slot's address, one of the slots' own -/
theorem Rep.setOwn (r : Rep K F0 H0 F H σ ρ) {i : Nat} {p : Addr} {a : A} (ho : a.own = true) (hs : Slot K H0 F H (some (some (.ref p))) a)
    (hn : ∀ (j : Nat) (b : A), j ≠ i → ρ[j]? = some b → b.own = true → σ[j]? = some (some (.ref p)) → False) : Rep K F0 H0 F H (σ.set i (some (.ref p))) (ρ.set i a) := by
  have at_ : ∀ {j : Nat} {b : A}, (ρ.set i a)[j]? = some b → i = j → b = a := fun {j b} e z => by
    subst z
    obtain ⟨h1, e1⟩ := List.getElem?_eq_some_iff.mp e
    rw [List.length_set] at h1
    rw [List.getElem?_set_self h1] at e
    exact (Option.some.inj e).symm
  have val : ∀ {j : Nat} {b : A}, (ρ.set i a)[j]? = some b → i = j → (σ.set i (some (V.ref p)))[j]? = some (some (.ref p)) := fun {j b} e z => by
    subst z
    obtain ⟨h1, e1⟩ := List.getElem?_eq_some_iff.mp e
    rw [List.length_set] at h1
    exact List.getElem?_set_self (by rw [← r.len]; exact h1)
  refine ⟨r.sub, r.aH, r.aF, r.an, by rw [List.length_set, List.length_set]; exact r.len, fun j b e => ?_, fun j k q b c hjk eb ec hb hc ej ek => ?_⟩
  · by_cases hj : i = j
    · rw [at_ e hj, val e hj]; exact hs
    · rw [List.getElem?_set_ne hj] at e ⊢
      exact r.slot j b e
  · by_cases hj : i = j
    · by_cases hk : i = k
      · exact hjk (hj.symm.trans hk)
      · have e1 := val eb hj
        rw [ej] at e1
        cases e1
        rw [List.getElem?_set_ne hk] at ec ek
        exact hn k c (Ne.symm hk) ec hc ek
    · by_cases hk : i = k
      · have e1 := val ec hk
        rw [ek] at e1
        cases e1
        rw [List.getElem?_set_ne hj] at eb ej
        exact hn j b (Ne.symm hj) eb hb ej
      · rw [List.getElem?_set_ne hj] at eb ej
        rw [List.getElem?_set_ne hk] at ec ek
        exact r.sep j k q b c hjk eb ec hb hc ej ek
/-- an own object at p is changed; only the slot i holds p -/
theorem Rep.write (r : Rep K F0 H0 F H σ ρ) {i : Nat} {p : Addr} {a b : A} {o : HO} (ea : ρ[i]? = some a) (ha : a.own = true) (hb : b.own = true) (ep : σ[i]? = some (some (.ref p))) (hs : Slot K H0 F (upd H p o) (some (some (.ref p))) b)
    (hf : F p = none) (h0 : H0 p = none) : Rep K F0 H0 F (upd H p o) σ (ρ.set i b) := by
  have hi : i < ρ.length := (List.getElem?_eq_some_iff.mp ea).1
  refine ⟨r.sub.skip hf, fun q x e => ?_, r.aF, r.an, by rw [List.length_set]; exact r.len, fun j c e => ?_, fun j k q c d hjk ec ed hc hd ej ek => ?_⟩
  · rw [upd_ne (ne_of_none e h0)]; exact r.aH q x e
  · by_cases hj : i = j
    · subst hj
      rw [List.getElem?_set_self hi] at e
      cases e
      rw [ep]; exact hs
    · rw [List.getElem?_set_ne hj] at e
      have s := r.slot j c e
      cases c with
      | un => trivial
      | d x => exact s
      | m xs =>
        obtain ⟨q, vs, e1, h, f, h0', rr⟩ := s
        refine ⟨q, vs, e1, ?_, f, h0', rr⟩
        rw [upd_ne (show q ≠ p from fun z => r.sep i j p a (.m xs) hj ea e ha rfl ep (by rw [← z]; exact e1))]
        exact h
      | md ks xs =>
        obtain ⟨q, vs, e1, h, f, h0', q1, rr⟩ := s
        refine ⟨q, vs, e1, ?_, f, h0', q1, rr⟩
        rw [upd_ne (show q ≠ p from fun z => r.sep i j p a (.md ks xs) hj ea e ha rfl ep (by rw [← z]; exact e1))]
        exact h
  · have go : ∀ {j : Nat} {c : A}, (ρ.set i b)[j]? = some c → c.own = true → ∃ c', ρ[j]? = some c' ∧ c'.own = true := fun {j c} e hc => by
      by_cases hj : i = j
      · exact ⟨a, hj ▸ ea, ha⟩
      · rw [List.getElem?_set_ne hj] at e; exact ⟨c, e, hc⟩
    obtain ⟨c', e1, o1⟩ := go ec hc
    obtain ⟨d', e2, o2⟩ := go ed hd
    exact r.sep j k q c' d' hjk e1 e2 o1 o2 ej ek
/-- a list or dict of one's own is frozen: from now on it is data -/
theorem Rep.freeze (r : Rep K F0 H0 F H σ ρ) {i : Nat} {xs : List D} (ea : ρ[i]? = some (.m xs)) :
    ∃ p vs, σ[i]? = some (some (.ref p)) ∧ H p = some (.lst vs) ∧ F p = none ∧ Rp K (upd F p (.lst vs)) (.ref p) (.lst xs) ∧ Rep K F0 H0 (upd F p (.lst vs)) H σ (ρ.set i (.d (.lst xs))) := by
  obtain ⟨p, vs, ep, h, f, h0, rr⟩ := r.slot i _ ea
  have hi : i < ρ.length := (List.getElem?_eq_some_iff.mp ea).1
  have ff : Same F (upd F p (.lst vs)) := upd_new f
  have rp : Rp K (upd F p (.lst vs)) (.ref p) (.lst xs) := .lst upd_same (rr.mono ff)
  refine ⟨p, vs, ep, h, f, rp, ⟨fun q x e => ?_, r.aH, r.aF.trans ff, fun q h1 h2 => ?_, by rw [List.length_set]; exact r.len, fun j c e => ?_, fun j k q c d hjk ec ed hc hd ej ek => ?_⟩⟩
  · by_cases hq : q = p
    · subst hq; rw [upd_same] at e; cases e; exact h
    · rw [upd_ne hq] at e; exact r.sub q x e
  · rw [upd_ne (show q ≠ p from fun z => h1 (by rw [z]; exact h0))]; exact r.an q h1 h2
  · by_cases hj : i = j
    · subst hj
      rw [List.getElem?_set_self hi] at e
      cases e
      exact ⟨_, ep, rp⟩
    · rw [List.getElem?_set_ne hj] at e
      have s := r.slot j c e
      cases c with
      | un => trivial
      | d x => obtain ⟨v, e1, r1⟩ := s; exact ⟨v, e1, r1.mono ff⟩
      | m ys =>
        obtain ⟨q, ws, e1, h', f', h0', r'⟩ := s
        refine ⟨q, ws, e1, h', ?_, h0', r'.mono ff⟩
        rw [upd_ne (show q ≠ p from fun z => r.sep i j p _ _ hj ea e rfl rfl ep (by rw [← z]; exact e1))]
        exact f'
      | md ks ys =>
        obtain ⟨q, ws, e1, h', f', h0', q1, r'⟩ := s
        refine ⟨q, ws, e1, h', ?_, h0', q1, r'.mono ff⟩
        rw [upd_ne (show q ≠ p from fun z => r.sep i j p _ _ hj ea e rfl rfl ep (by rw [← z]; exact e1))]
        exact f'
  · have go : ∀ {j : Nat} {c : A}, (ρ.set i (.d (.lst xs)))[j]? = some c → c.own = true → ρ[j]? = some c := fun {j c} e hc => by
      by_cases hj : i = j
      · subst hj
        rw [List.getElem?_set_self hi] at e
        cases e; cases hc
      · rw [List.getElem?_set_ne hj] at e; exact e
    exact r.sep j k q c d hjk (go ec hc) (go ed hd) hc hd ej ek
end
end VL

/-! VL2: readings by mirrors; expressions, tests, argument lists. -/
namespace VL
open PySem PySem.Spec PyProof.Rows L2

/-- where a body stands: the written part, the globals, the wish about exceptions, the heaps at the entry -/
structure Lv where
  K : PySem.W.Frag
  mg : Str → Option Value
  W : WX
  F0 : Hp
  H0 : Hp
def exOk (L : Lv) (σ : L2.St) (H : Hp) (c : Str) : Prop := ∀ H', Same H H' → ∀ C, L.mg c = some C → L.W C none σ H'
theorem exOk.mono {L : Lv} {σ : L2.St} {H H' : Hp} {c : Str} (h : exOk L σ H c) (s : Same H H') : exOk L σ H' c := fun H2 s2 C e => h H2 (s.trans s2) C e
/-- what is wanted of a result -/
def Post {α : Type} (L : Lv) (σ : L2.St) (H : Hp) (r : R α) (C : α → Prop) : Prop := match r with
  | .ok a => C a
  | .ex c => exOk L σ H c
  | .bad => False
section
variable {α β : Type} {L : Lv} {σ : L2.St} {H H' : Hp}
theorem Post.mono {r : R α} {C C' : α → Prop} (h : Post L σ H r C) (s : Same H H') (k : ∀ a, r = .ok a → C a → C' a) : Post L σ H' r C' := by
  cases r with
  | ok a => exact k a rfl h
  | ex c => exact exOk.mono h s
  | bad => exact h
theorem Post.bind {r : R α} {f : α → R β} {C : β → Prop} (h : Post L σ H (r.bind f) C) : Post L σ H r fun a => Post L σ H (f a) C := by
  cases r with
  | ok a => exact h
  | ex c => exact h
  | bad => exact h
end
abbrev Rel (α : Type) := Hp → Hp → Hp → Hp → V → α → Prop
/-- the reading of an expression whose mirror is m -/
def TM {α : Type} (L : Lv) (rel : Rel α) (m : Rho → R α) : TE := fun σ H Q => ∃ F ρ, Rep L.K L.F0 L.H0 F H σ ρ ∧ Post L σ H (m ρ) fun a => ∀ v F' H', Grow F H F' H' → rel F H F' H' v a → Q v H'
/-- of a test, of arguments -/
def TB (L : Lv) (m : Rho → R Bool) : TT := fun σ H Q => ∃ F ρ, Rep L.K L.F0 L.H0 F H σ ρ ∧ Post L σ H (m ρ) fun b => ∀ F' H', Grow F H F' H' → Q b H'
abbrev RelA := Hp → Hp → List V → List D → Prop
def TL (L : Lv) (rel : RelA) (m : Rho → R (List D)) : TA := fun σ H Q => ∃ F ρ, Rep L.K L.F0 L.H0 F H σ ρ ∧ Post L σ H (m ρ) fun ds => ∀ vs F' H', Grow F H F' H' → rel F' H' vs ds → Q vs H'

/-- v is worth d: frozen, or a list (a dict) of one's own that is only looked at -/
def Rb (K : PySem.W.Frag) (F H : Hp) (v : V) (d : D) : Prop := Rp K F v d ∨ (∃ p vs xs, v = .ref p ∧ d = .lst xs ∧ H p = some (.lst vs) ∧ RpAll K F vs xs) ∨
  ∃ p kvs ks xs, v = .ref p ∧ d = .dic ks xs ∧ H p = some (.dK kvs) ∧ kvs.map (·.1) = ks.map Sum.inl ∧ RpAll K F (kvs.map (·.2)) xs
section
variable {K : PySem.W.Frag} {F H F' H' : Hp} {v : V}
theorem Rb.grow {d : D} (r : Rb K F H v d) (g : Grow F H F' H') : Rb K F' H' v d := by
  rcases r with r | ⟨p, vs, xs, e1, e2, h, r⟩ | ⟨p, vs, ks, xs, e1, e2, h, e3, r⟩
  · exact .inl (r.mono g.ff)
  · exact .inr (.inl ⟨p, vs, xs, e1, e2, g.hh _ _ h, r.mono g.ff⟩)
  · exact .inr (.inr ⟨p, vs, ks, xs, e1, e2, g.hh _ _ h, e3, r.mono g.ff⟩)
theorem Rb.lst {xs : List D} (r : Rb K F H v (.lst xs)) (s : Same F H) : ∃ p vs, v = .ref p ∧ H p = some (.lst vs) ∧ RpAll K F vs xs := by
  rcases r with r | ⟨p, vs, ys, e1, e2, h, r⟩ | ⟨p, vs, ks, ys, e1, e2, h, e3, r⟩
  · cases r with | lst h q => exact ⟨_, _, rfl, s _ _ h, q⟩
  · cases e2; exact ⟨p, vs, e1, h, r⟩
  · cases e2
theorem Rb.dic {ks : List Int} {xs : List D} (r : Rb K F H v (.dic ks xs)) (s : Same F H) : ∃ p kvs, v = .ref p ∧ H p = some (.dK kvs) ∧ kvs.map (·.1) = ks.map Sum.inl ∧ RpAll K F (kvs.map (·.2)) xs := by
  rcases r with r | ⟨p, vs, ys, e1, e2, h, r⟩ | ⟨p, vs, ks, ys, e1, e2, h, e3, r⟩
  · cases r with | dic h e q => exact ⟨_, _, rfl, s _ _ h, e, q⟩
  · cases e2
  · cases e2; exact ⟨p, vs, e1, h, e3, r⟩
theorem Rb.int {i : Int} (r : Rb K F H v (.int i)) : v = .int i := by
  rcases r with r | ⟨p, vs, ys, e1, e2, h, r⟩ | ⟨p, vs, ks, ys, e1, e2, h, e3, r⟩
  · cases r; rfl
  · cases e2
  · cases e2
theorem Rb.bl {i : Bool} (r : Rb K F H v (.bl i)) : v = .bl i := by
  rcases r with r | ⟨p, vs, ys, e1, e2, h, r⟩ | ⟨p, vs, ks, ys, e1, e2, h, e3, r⟩
  · cases r; rfl
  · cases e2
  · cases e2
theorem Rb.str {i : Str} (r : Rb K F H v (.str i)) : v = .str i := by
  rcases r with r | ⟨p, vs, ys, e1, e2, h, r⟩ | ⟨p, vs, ks, ys, e1, e2, h, e3, r⟩
  · cases r; rfl
  · cases e2
  · cases e2
theorem Rb.non (r : Rb K F H v .non) : v = .non := by
  rcases r with r | ⟨p, vs, ys, e1, e2, h, r⟩ | ⟨p, vs, ks, ys, e1, e2, h, e3, r⟩
  · cases r; rfl
  · cases e2
  · cases e2
theorem Rb.tup {xs : List D} (r : Rb K F H v (.tup xs)) : ∃ p vs, v = .ref p ∧ F p = some (.tup vs) ∧ RpAll K F vs xs := by
  rcases r with r | ⟨p, vs, ys, e1, e2, h, r⟩ | ⟨p, vs, ks, ys, e1, e2, h, e3, r⟩
  · cases r with | tup h q => exact ⟨_, _, rfl, h, q⟩
  · cases e2
  · cases e2
theorem Rb.scr {ns : List Int} (r : Rb K F H v (.scr ns)) (s : Same F H) : ∃ p, v = .ref p ∧ SqL K H p (ns.map V.int) := by
  rcases r with r | ⟨p, vs, ys, e1, e2, h, r⟩ | ⟨p, vs, ks, ys, e1, e2, h, e3, r⟩
  · cases r with | scr h => exact ⟨_, rfl, s.seq h⟩
  · cases e2
  · cases e2
end
inductive RbAll (K : PySem.W.Frag) (F H : Hp) : List V → List D → Prop
  | nil : RbAll K F H [] []
  | cons {v : V} {vs : List V} {d : D} {ds : List D} : Rb K F H v d → RbAll K F H vs ds → RbAll K F H (v :: vs) (d :: ds)
theorem RbAll.grow {K : PySem.W.Frag} {F H F' H' : Hp} (g : Grow F H F' H') : ∀ {vs : List V} {ds : List D}, RbAll K F H vs ds → RbAll K F' H' vs ds
  | _, _, .nil => .nil
  | _, _, .cons h r => .cons (h.grow g) (RbAll.grow g r)
abbrev relV (L : Lv) : Rel D := fun _ _ F' _ v d => Rp L.K F' v d
abbrev relB (L : Lv) : Rel D := fun _ _ F' H' v d => Rb L.K F' H' v d
/-- a new list, of one's own -/
abbrev relN (L : Lv) : Rel (List D) := fun _ H F' H' v xs => ∃ p vs, v = .ref p ∧ H p = none ∧ H' p = some (.lst vs) ∧ F' p = none ∧ RpAll L.K F' vs xs
abbrev PV (X : Cx) (L : Lv) (e : Expr) (m : Rho → R D) : Prop := PE X e (TM L (relV L) m)
abbrev PB (X : Cx) (L : Lv) (e : Expr) (m : Rho → R D) : Prop := PE X e (TM L (relB L) m)
abbrev PN (X : Cx) (L : Lv) (e : Expr) (m : Rho → R (List D)) : Prop := PE X e (TM L (relN L) m)
abbrev PQ (X : Cx) (L : Lv) (e : Expr) (m : Rho → R Bool) : Prop := PT X e (TB L m)
abbrev PQw (X : Cx) (L : Lv) (e : Expr) (m : Rho → R Bool) : Prop := PW X e (TB L m)
abbrev PAV (X : Cx) (L : Lv) (es : List Expr) (m : Rho → R (List D)) : Prop := PA X es (TL L (fun F _ vs ds => RpAll L.K F vs ds) m)
abbrev PAB (X : Cx) (L : Lv) (es : List Expr) (m : Rho → R (List D)) : Prop := PA X es (TL L (fun F H vs ds => RbAll L.K F H vs ds) m)

theorem _root_.L2.PE.imp {X : Cx} {e : Expr} {t t' : TE} (h : PE X e t) (k : ∀ σ H Q, t' σ H Q → t σ H Q) : PE X e t' := ⟨fun pins s σ H Q I q => h.run pins s σ H Q I (k σ H Q q)⟩
theorem _root_.L2.PT.imp {X : Cx} {e : Expr} {t t' : TT} (h : PT X e t) (k : ∀ σ H Q, t' σ H Q → t σ H Q) : PT X e t' := ⟨fun pins s σ H Q I q => h.run pins s σ H Q I (k σ H Q q)⟩
theorem _root_.L2.PW.imp {X : Cx} {e : Expr} {t t' : TT} (h : PW X e t) (k : ∀ σ H Q, t' σ H Q → t σ H Q) : PW X e t' := ⟨fun wh pins s σ H Q I q => h.run wh pins s σ H Q I (k σ H Q q)⟩
theorem _root_.L2.PA.imp {X : Cx} {e : List Expr} {t t' : TA} (h : PA X e t) (k : ∀ σ H Q, t' σ H Q → t σ H Q) : PA X e t' := ⟨fun pos pins s σ H Q I q => h.run pos pins s σ H Q I (k σ H Q q)⟩
theorem _root_.L2.PS.imp {X : Cx} {e : Stmt} {t t' : TS} (h : PS X e t) (k : ∀ D σ H, t' D σ H → t D σ H) : PS X e t' := ⟨fun pins s σ H D I q => h.run pins s σ H D I (k D σ H q)⟩
theorem _root_.L2.PSs.imp {X : Cx} {e : List Stmt} {t t' : TS} (h : PSs X e t) (k : ∀ D σ H, t' D σ H → t D σ H) : PSs X e t' := ⟨fun pins s σ H D I q => h.run pins s σ H D I (k D σ H q)⟩

section
variable {α β : Type} {L : Lv} {σ : L2.St} {H F : Hp} {ρ : Rho}
/-- a part is evaluated, then the rest -/
theorem TM.go {rel : Rel α} {m : Rho → R α} {f : α → R β} {C : β → Prop} {Q : VK} (r : Rep L.K L.F0 L.H0 F H σ ρ) (h : Post L σ H ((m ρ).bind f) C)
    (k : ∀ a v F' H', Grow F H F' H' → rel F H F' H' v a → Post L σ H' (f a) C → Q v H') : TM L rel m σ H Q :=
  ⟨F, ρ, r, h.bind.mono (Same.refl H) fun a _ q v F' H' g hv => k a v F' H' g hv (q.mono g.hh fun _ _ z => z)⟩
theorem TB.go {m : Rho → R Bool} {f : Bool → R β} {C : β → Prop} {Q : Bool → Hp → Prop} (r : Rep L.K L.F0 L.H0 F H σ ρ) (h : Post L σ H ((m ρ).bind f) C)
    (k : ∀ a F' H', Grow F H F' H' → Post L σ H' (f a) C → Q a H') : TB L m σ H Q :=
  ⟨F, ρ, r, h.bind.mono (Same.refl H) fun a _ q F' H' g => k a F' H' g (q.mono g.hh fun _ _ z => z)⟩
theorem TL.go {rel : RelA} {m : Rho → R (List D)} {f : List D → R β} {C : β → Prop} {Q : List V → Hp → Prop} (r : Rep L.K L.F0 L.H0 F H σ ρ) (h : Post L σ H ((m ρ).bind f) C)
    (k : ∀ a vs F' H', Grow F H F' H' → rel F' H' vs a → Post L σ H' (f a) C → Q vs H') : TL L rel m σ H Q :=
  ⟨F, ρ, r, h.bind.mono (Same.refl H) fun a _ q v F' H' g hv => k a v F' H' g hv (q.mono g.hh fun _ _ z => z)⟩
end

/-! ### names, constants -/
def mV (i : Nat) : Rho → R D := fun ρ => match ρ[i]? with
  | some (.d x) => .ok x
  | _ => .bad
def mB (i : Nat) : Rho → R D := fun ρ => match ρ[i]? with
  | some (.d x) => .ok x
  | some (.m xs) => .ok (.lst xs)
  | some (.md ks xs) => .ok (.dic ks xs)
  | _ => .bad
def mC (d : D) : Rho → R D := fun _ => .ok d
section
variable {X : Cx} {L : Lv} {pos : Pos}
theorem v_name (i : Nat) {x : Str} (hN : X.N[i]? = some x := by rfl) (hv : Vis X.env.scope x := by first | exact Or.inl rfl | exact Or.inr (Or.inl rfl) | exact Or.inr (Or.inr rfl)) (hd : (x == ("__debug__" : Str)) = false := by decide)
    (hcd : (x == ("__classdict__" : Str)) = false := by decide) : PV X L (.Name x pos) (mV i) := (pe_var hN hv hd hcd).imp fun σ H Q ⟨F, ρ, r, h⟩ => by
  unfold mV at h
  cases e : ρ[i]? with
  | none => rw [e] at h; exact h.elim
  | some a =>
    rw [e] at h
    cases a with
    | d x =>
      obtain ⟨v, e1, rp⟩ := r.slot i _ e
      exact ⟨v, e1, h v F H (Grow.refl r.sub) rp⟩
    | un => exact h.elim
    | m xs => exact h.elim
    | md ks xs => exact h.elim
theorem b_name (i : Nat) {x : Str} (hN : X.N[i]? = some x := by rfl) (hv : Vis X.env.scope x := by first | exact Or.inl rfl | exact Or.inr (Or.inl rfl) | exact Or.inr (Or.inr rfl)) (hd : (x == ("__debug__" : Str)) = false := by decide)
    (hcd : (x == ("__classdict__" : Str)) = false := by decide) : PB X L (.Name x pos) (mB i) := (pe_var hN hv hd hcd).imp fun σ H Q ⟨F, ρ, r, h⟩ => by
  unfold mB at h
  cases e : ρ[i]? with
  | none => rw [e] at h; exact h.elim
  | some a =>
    rw [e] at h
    cases a with
    | d x =>
      obtain ⟨v, e1, rp⟩ := r.slot i _ e
      exact ⟨v, e1, h v F H (Grow.refl r.sub) (.inl rp)⟩
    | un => exact h.elim
    | m xs =>
      obtain ⟨p, vs, e1, hp, f, h0, rr⟩ := r.slot i _ e
      exact ⟨_, e1, h _ F H (Grow.refl r.sub) (.inr (.inl ⟨p, vs, xs, rfl, rfl, hp, rr⟩))⟩
    | md ks xs =>
      obtain ⟨p, vs, e1, hp, f, h0, q, rr⟩ := r.slot i _ e
      exact ⟨_, e1, h _ F H (Grow.refl r.sub) (.inr (.inr ⟨p, vs, ks, xs, rfl, rfl, hp, q, rr⟩))⟩
theorem v_const {e : Expr} {v : V} {d : D} (h : PE X e (tC v)) (r : ∀ F, Rp L.K F v d) : PV X L e (mC d) := h.imp fun σ H Q ⟨F, ρ, rr, q⟩ => q v F H (Grow.refl rr.sub) (r F)
theorem v_int {i : Int} {j : Nat} : PV X L (.Constant (.int i) j pos) (mC (.int i)) := v_const pe_int fun _ => .int i
theorem v_bl {b : Bool} {j : Nat} : PV X L (.Constant (.bool b) j pos) (mC (.bl b)) := v_const pe_bl fun _ => .bl b
theorem v_non {j : Nat} : PV X L (.Constant .none j pos) (mC .non) := v_const pe_non fun _ => .non
theorem v_str {x : Str} {j : Nat} : PV X L (.Constant (.str x) j pos) (mC (.str x)) := v_const pe_str fun _ => .str x
theorem v_globI {x : Str} {i : Int} (hm : ∃ t, X.mg x = some (.int i t)) (hg : Gl X x := by rfl) (hd : (x == ("__debug__" : Str)) = false := by decide) : PV X L (.Name x pos) (mC (.int i)) := by
  obtain ⟨t, hm⟩ := hm
  exact v_const (v := .int i) (pe_glob hg hm ⟨t, rfl⟩ hd) fun _ => .int i
theorem v_globS {x z : Str} (hm : ∃ t, X.mg x = some (.str z t)) (hg : Gl X x := by rfl) (hd : (x == ("__debug__" : Str)) = false := by decide) : PV X L (.Name x pos) (mC (.str z)) := by
  obtain ⟨t, hm⟩ := hm
  exact v_const (v := .str z) (pe_glob hg hm ⟨t, rfl⟩ hd) fun _ => .str z
/-- data may be looked at -/
theorem b_of {e : Expr} {m : Rho → R D} (h : PV X L e m) : PB X L e m := h.imp fun σ H Q ⟨F, ρ, r, q⟩ => ⟨F, ρ, r, q.mono (Same.refl H) fun a _ z v F' H' g rp => z v F' H' g (.inl rp)⟩
/-- a new list is frozen at once -/
def mL (m : Rho → R (List D)) : Rho → R D := fun ρ => (m ρ).bind fun xs => .ok (.lst xs)
theorem v_ofN {e : Expr} {m : Rho → R (List D)} (h : PN X L e m) : PV X L e (mL m) := h.imp fun σ H Q ⟨F, ρ, r, q⟩ => by
  refine TM.go r q fun xs v F' H' g hv z => ?_
  obtain ⟨p, vs, rfl, n, hp, f, rr⟩ := hv
  refine z (.ref p) (upd F' p (.lst vs)) H' ⟨g.hh, g.ff.trans (upd_new f), fun b o e => ?_, fun b h1 h2 => ?_⟩ (.lst upd_same (rr.mono (upd_new f)))
  · by_cases hb : b = p
    · subst hb; rw [upd_same] at e; cases e; exact hp
    · rw [upd_ne hb] at e; exact g.fh b o e
  · rw [upd_ne (show b ≠ p from fun e => h1 (by rw [e]; exact n))]; exact g.new b h1 h2
/-- nothing is said -/
def mBad {α : Type} : Rho → R α := fun _ => .bad
theorem v_never {e : Expr} : PV X L e mBad := ⟨fun _ _ _ _ _ _ h => by obtain ⟨_, _, _, q⟩ := h; exact q.elim⟩

/-! ### operators -/
/-- f is what the operation r does, on data -/
def OpB (L : Lv) (r : R2) (f : D → D → R D) : Prop := ∀ (F H : Hp) (v w : V) (d e z : D) (Q : VK), Same F H → Rb L.K F H v d → Rb L.K F H w e → f d e = .ok z → (∀ u F' H', Grow F H F' H' → Rp L.K F' u z → Q u H') → r v w H Q
def noEx (f : D → D → R D) : Prop := ∀ d e c, f d e ≠ .ex c
def mBin (f : D → D → R D) (ma mb : Rho → R D) : Rho → R D := fun ρ => (ma ρ).bind fun d => (mb ρ).bind fun e => f d e
theorem tOp_of {r : R2} {f : D → D → R D} {ma mb : Rho → R D} (hf : OpB L r f) (hx : noEx f) (σ : L2.St) (H : Hp) (Q : VK) (h : TM L (relV L) (mBin f ma mb) σ H Q) : tOp r (TM L (relB L) ma) (TM L (relB L) mb) σ H Q := by
  obtain ⟨F, ρ, rr, q⟩ := h
  refine TM.go rr q fun d v F1 H1 g1 r1 q1 => ?_
  refine TM.go (rr.grow g1) q1 fun e w F2 H2 g2 r2 q2 => ?_
  cases ef : f d e with
  | bad => rw [ef] at q2; exact q2.elim
  | ex c => exact (hx d e c ef).elim
  | ok z =>
    rw [ef] at q2
    exact hf F2 H2 v w d e z Q g2.fh (r1.grow g2) r2 ef fun u F' H' g => q2 u F' H' ((g1.trans g2).trans g)
variable {a b c : Expr} {ma mb mc : Rho → R D}
theorem v_bin {op : Operator} {r : R2} {f : D → D → R D} (ho : OpR X (binaryOp op) r) (hf : OpB L r f) (hx : noEx f) (ha : PB X L a ma) (hb : PB X L b mb) : PV X L (.BinOp a op b pos) (mBin f ma mb) := (pe_op ho ha hb).imp fun σ H Q => tOp_of hf hx σ H Q
theorem v_cmp {op : CmpOp} {r : R2} {f : D → D → R D} (ho : OpR X (compareOp op) r) (hf : OpB L r f) (hx : noEx f) (ha : PB X L a ma) (hb : PB X L b mb) (hm : behindInMarks op b = false) : PV X L (.Compare a [op] [b] pos) (mBin f ma mb) :=
  (pe_cmpR ho ha hb hm).imp fun σ H Q => tOp_of hf hx σ H Q
/-- a value that is a bool, as a test -/
def mT (m : Rho → R D) : Rho → R Bool := fun ρ => (m ρ).bind fun d => match d with
  | .bl k => .ok k
  | _ => .bad
theorem tTest_of {t : TE} {m : Rho → R D} (h : ∀ σ H Q, TM L (relV L) m σ H Q → t σ H Q) (σ : L2.St) (H : Hp) (Q : Bool → Hp → Prop) (q : TB L (mT m) σ H Q) : tTest t σ H Q := by
  obtain ⟨F, ρ, rr, q⟩ := q
  refine h σ H _ (TM.go rr q fun d v F1 H1 g1 r1 q1 => ?_)
  cases d with
  | bl k => cases r1; exact ⟨k, rfl, q1 F1 H1 g1⟩
  | non => exact q1.elim
  | int _ => exact q1.elim
  | str _ => exact q1.elim
  | tup _ => exact q1.elim
  | lst _ => exact q1.elim
  | dic _ _ => exact q1.elim
  | scr _ => exact q1.elim
theorem q_cmp {op : CmpOp} {r : R2} {f : D → D → R D} (ho : OpR X (compareOp op) r) (hf : OpB L r f) (hx : noEx f) (ha : PB X L a ma) (hb : PB X L b mb) (hm : behindInMarks op b = false) : PQ X L (.Compare a [op] [b] pos) (mT (mBin f ma mb)) :=
  (pt_cmpR ho ha hb hm).imp fun σ H Q q => tTest_of (fun σ H Q => tOp_of hf hx σ H Q) σ H Q q
/-- a call (or another plain thing) whose value is a bool, as a test -/
theorem q_val {e : Expr} {m : Rho → R D} (h : PV X L e m) (he : ∀ whole, isTrue e X.env whole = (do let v ← whole; standAt e.pos; holding [v] (truthy v)) := by intro _; rfl) : PQ X L e (mT m) :=
  (pt_val h he).imp fun σ H Q q => tTest_of (t := TM L (relV L) m) (fun _ _ _ z => z) σ H Q q
/-- .. by its truth -/
def tru : D → R Bool
  | .non => .ok false
  | .bl b => .ok b
  | .int i => .ok (i != 0)
  | .str y => if y.length ≤ 1000000 then .ok ((y.length : Int) != 0) else .bad
  | .tup xs => .ok (!xs.isEmpty)
  | .lst xs => .ok (!xs.isEmpty)
  | .dic ks _ => .ok (!ks.isEmpty)
  | .scr _ => .bad
def mTru (m : Rho → R D) : Rho → R Bool := fun ρ => (m ρ).bind tru
theorem line6 {n : Nat} (h : n ≤ 1000000) : n ≤ sizeLine := by rw [sizeLine_eq]; omega
theorem empty_of {K : PySem.W.Frag} {F : Hp} {vs : List V} {xs : List D} (r : RpAll K F vs xs) : vs.isEmpty = xs.isEmpty := by cases r <;> rfl
theorem q_tru {e : Expr} {m : Rho → R D} (hK : L.K = X.K) (h : PB X L e m) (he : ∀ whole, isTrue e X.env whole = (do let v ← whole; standAt e.pos; holding [v] (truthy v)) := by intro _; rfl) : PQ X L e (mTru m) :=
  (pt_truth h he).imp fun σ H Q ⟨F, ρ, rr, q⟩ => by
    refine TM.go rr q fun d v F1 H1 g1 r1 q1 => ?_
    cases d with
    | bl k => cases r1.bl; exact ⟨k, rfl, q1 F1 H1 g1⟩
    | non => cases r1.non; exact ⟨false, rfl, q1 F1 H1 g1⟩
    | int i => cases r1.int; exact ⟨_, rfl, q1 F1 H1 g1⟩
    | str y =>
      cases r1.str
      simp only [tru] at q1
      by_cases hz : y.length ≤ 1000000
      · rw [if_pos hz] at q1
        exact ⟨_, ⟨line6 hz, rfl⟩, q1 F1 H1 g1⟩
      · rw [if_neg hz] at q1; exact q1.elim
    | tup xs =>
      obtain ⟨p, vs, rfl, hp, ra⟩ := r1.tup
      refine ⟨_, .inr (.inl ⟨vs, .inl (.inl (g1.fh _ _ hp)), rfl⟩), ?_⟩
      rw [empty_of ra]; exact q1 F1 H1 g1
    | lst xs =>
      obtain ⟨p, vs, rfl, hp, ra⟩ := r1.lst g1.fh
      refine ⟨_, .inl ⟨vs, .inl (.inl hp), rfl⟩, ?_⟩
      rw [empty_of ra]; exact q1 F1 H1 g1
    | dic ks xs =>
      obtain ⟨p, kvs, rfl, hp, ek, ra⟩ := r1.dic g1.fh
      refine ⟨_, .inr (.inr ⟨kvs, hp, rfl⟩), ?_⟩
      have e1 : kvs.isEmpty = ks.isEmpty := by
        have z := congrArg List.length ek
        rw [List.length_map, List.length_map] at z
        cases kvs <;> cases ks <;> first | rfl | (simp at z)
      rw [e1]; exact q1 F1 H1 g1
    | scr _ => exact q1.elim
/-! ### chains -/
def mChain (f g : D → D → R D) (ma mb mc : Rho → R D) : Rho → R D := fun ρ => (ma ρ).bind fun d => (mb ρ).bind fun e => (f d e).bind fun k => match k with
  | .bl true => (mc ρ).bind fun z => g e z
  | .bl false => .ok (.bl false)
  | _ => .bad
theorem tChain_of {r r' : R2} {f g : D → D → R D} (hf : OpB L r f) (hg : OpB L r' g) (hx : noEx f) (hy : noEx g) (σ : L2.St) (H : Hp) (Q : VK) (h : TM L (relV L) (mChain f g ma mb mc) σ H Q) :
    tChain r r' (TM L (relB L) ma) (TM L (relB L) mb) (TM L (relB L) mc) σ H Q := by
  obtain ⟨F, ρ, rr, q⟩ := h
  refine TM.go rr q fun d v F1 H1 g1 r1 q1 => ?_
  refine TM.go (rr.grow g1) q1 fun e w F2 H2 g2 r2 q2 => ?_
  cases ef : f d e with
  | bad => rw [ef] at q2; exact q2.elim
  | ex c => exact (hx d e c ef).elim
  | ok z =>
    rw [ef] at q2
    refine hf F2 H2 v w d e z _ g2.fh (r1.grow g2) r2 ef fun u F3 H3 g3 r3 => ?_
    cases z with
    | bl k =>
      cases r3
      refine ⟨k, rfl, ?_⟩
      cases k with
      | false => exact iteF (q2 _ F3 H3 ((g1.trans g2).trans g3) (.bl false))
      | true =>
        refine iteT (TM.go (rr.grow ((g1.trans g2).trans g3)) (q2.mono g3.hh fun _ _ z => z) fun z' u F4 H4 g4 r4 q4 => ?_)
        cases eg : g e z' with
        | bad => rw [eg] at q4; exact q4.elim
        | ex c => exact (hy _ _ c eg).elim
        | ok y =>
          rw [eg] at q4
          exact hg F4 H4 w u e z' y Q g4.fh ((r2.grow g3).grow g4) r4 eg fun u' F' H' gg => q4 u' F' H' ((((g1.trans g2).trans g3).trans g4).trans gg)
    | non => exact q2.elim
    | int _ => exact q2.elim
    | str _ => exact q2.elim
    | tup _ => exact q2.elim
    | lst _ => exact q2.elim
    | dic _ _ => exact q2.elim
    | scr _ => exact q2.elim

/-! ### and, or, not -/
def mAnd (m n : Rho → R Bool) : Rho → R Bool := fun ρ => (m ρ).bind fun b => if b = true then n ρ else .ok false
def mOr (m n : Rho → R Bool) : Rho → R Bool := fun ρ => (m ρ).bind fun b => if b = true then .ok true else n ρ
def mNot (m : Rho → R Bool) : Rho → R Bool := fun ρ => (m ρ).bind fun b => .ok (!b)
variable {qa qb qc : Rho → R Bool} {rest : List Expr}
theorem qw_and1 (h : PQ X L a qa) : PQw X L (.BoolOp .And [a] pos) qa := pw_and1 h
theorem qw_or1 (h : PQ X L a qa) : PQw X L (.BoolOp .Or [a] pos) qa := pw_or1 h
theorem TB.then {m : Rho → R Bool} {F : Hp} {σ : L2.St} {H F1 H1 : Hp} {ρ : Rho} {Q : Bool → Hp → Prop} (rr : Rep L.K L.F0 L.H0 F H σ ρ) (g : Grow F H F1 H1) (q : Post L σ H1 (m ρ) fun b => ∀ F' H', Grow F H F' H' → Q b H') : TB L m σ H1 Q :=
  ⟨F1, ρ, rr.grow g, q.mono (Same.refl _) fun _ _ z F' H' g' => z F' H' (g.trans g')⟩
theorem TM.then {α : Type} {rel : Rel α} {m : Rho → R α} {F : Hp} {σ : L2.St} {H F1 H1 : Hp} {ρ : Rho} {Q : VK} (rr : Rep L.K L.F0 L.H0 F H σ ρ) (g : Grow F H F1 H1) (hr : ∀ F' H' v x, Grow F1 H1 F' H' → rel F1 H1 F' H' v x → rel F H F' H' v x)
    (q : Post L σ H1 (m ρ) fun b => ∀ v F' H', Grow F H F' H' → rel F H F' H' v b → Q v H') : TM L rel m σ H1 Q :=
  ⟨F1, ρ, rr.grow g, q.mono (Same.refl _) fun x _ z v F' H' g' h' => z v F' H' (g.trans g') (hr F' H' v x g' h')⟩
theorem qw_and (h : PQ X L a qa) (h2 : PQw X L (.BoolOp .And (b :: rest) pos) qb) : PQw X L (.BoolOp .And (a :: b :: rest) pos) (mAnd qa qb) := (pw_and h h2).imp fun σ H Q ⟨F, ρ, rr, q⟩ => by
  refine TB.go rr q fun k F1 H1 g1 q1 => ?_
  cases k with
  | true => exact iteT (TB.then rr g1 q1)
  | false => exact iteF (q1 F1 H1 g1)
theorem qw_or (h : PQ X L a qa) (h2 : PQw X L (.BoolOp .Or (b :: rest) pos) qb) : PQw X L (.BoolOp .Or (a :: b :: rest) pos) (mOr qa qb) := (pw_or h h2).imp fun σ H Q ⟨F, ρ, rr, q⟩ => by
  refine TB.go rr q fun k F1 H1 g1 q1 => ?_
  cases k with
  | true => exact iteT (q1 F1 H1 g1)
  | false => exact iteF (TB.then rr g1 q1)
theorem q_w {e : Expr} (h : PQw X L e qa) : PQ X L e qa := PW.pt h
theorem q_not (h : PQ X L a qa) : PQ X L (.UnaryOp .Not a pos) (mNot qa) := (pt_not h).imp fun σ H Q ⟨F, ρ, rr, q⟩ => TB.go rr q fun k F1 H1 g1 q1 => q1 F1 H1 g1
theorem q_chain {op op' : CmpOp} {r r' : R2} {f g : D → D → R D} (ho : OpR X (compareOp op) r) (ho' : OpR X (compareOp op') r') (hf : OpB L r f) (hg : OpB L r' g) (hx : noEx f) (hy : noEx g) (ha : PB X L a ma) (hb : PB X L b mb) (hc : PB X L c mc)
    (h : PT X (.Compare a [op, op'] [b, c] pos) (tTest (tChain r r' (TM L (relB L) ma) (TM L (relB L) mb) (TM L (relB L) mc)))) : PQ X L (.Compare a [op, op'] [b, c] pos) (mT (mChain f g ma mb mc)) :=
  h.imp fun σ H Q q => tTest_of (fun σ H Q => tChain_of hf hg hx hy σ H Q) σ H Q q
/-- as values -/
def mAndV (ma mb : Rho → R D) : Rho → R D := fun ρ => (ma ρ).bind fun d => match d with
  | .bl true => mb ρ
  | .bl false => .ok (.bl false)
  | _ => .bad
def mOrV (ma mb : Rho → R D) : Rho → R D := fun ρ => (ma ρ).bind fun d => match d with
  | .bl true => .ok (.bl true)
  | .bl false => mb ρ
  | _ => .bad
def mNotV (m : Rho → R D) : Rho → R D := fun ρ => (m ρ).bind fun d => match d with
  | .bl k => .ok (.bl (!k))
  | _ => .bad
theorem v_one {op : BoolOp} (h : PV X L a ma) : PV X L (.BoolOp op [a] pos) ma := pe_one h
theorem v_and (h : PV X L a ma) (h2 : PV X L (.BoolOp .And (b :: rest) pos) mb) : PV X L (.BoolOp .And (a :: b :: rest) pos) (mAndV ma mb) := (pe_and h h2).imp fun σ H Q ⟨F, ρ, rr, q⟩ => by
  refine TM.go rr q fun d v F1 H1 g1 r1 q1 => ?_
  cases d with
  | bl k =>
    cases r1
    refine ⟨k, rfl, ?_⟩
    cases k with
    | true => exact iteT (TM.then rr g1 (fun _ _ _ _ _ z => z) q1)
    | false => exact iteF (q1 _ F1 H1 g1 (.bl false))
  | non => exact q1.elim
  | int _ => exact q1.elim
  | str _ => exact q1.elim
  | tup _ => exact q1.elim
  | lst _ => exact q1.elim
  | dic _ _ => exact q1.elim
  | scr _ => exact q1.elim
theorem v_or (h : PV X L a ma) (h2 : PV X L (.BoolOp .Or (b :: rest) pos) mb) : PV X L (.BoolOp .Or (a :: b :: rest) pos) (mOrV ma mb) := (pe_or h h2).imp fun σ H Q ⟨F, ρ, rr, q⟩ => by
  refine TM.go rr q fun d v F1 H1 g1 r1 q1 => ?_
  cases d with
  | bl k =>
    cases r1
    refine ⟨k, rfl, ?_⟩
    cases k with
    | true => exact iteT (q1 _ F1 H1 g1 (.bl true))
    | false => exact iteF (TM.then rr g1 (fun _ _ _ _ _ z => z) q1)
  | non => exact q1.elim
  | int _ => exact q1.elim
  | str _ => exact q1.elim
  | tup _ => exact q1.elim
  | lst _ => exact q1.elim
  | dic _ _ => exact q1.elim
  | scr _ => exact q1.elim
/-- not, of anything by its truth -/
def mNotQ (m : Rho → R Bool) : Rho → R D := fun ρ => (m ρ).bind fun b => .ok (.bl (!b))
/-! ### a if t else b -/
def mIf {α : Type} (q : Rho → R Bool) (m n : Rho → R α) : Rho → R α := fun ρ => (q ρ).bind fun b => if b = true then m ρ else n ρ
theorem v_if {c : Expr} (hc : PQ X L c qc) (ha : PV X L a ma) (hb : PV X L b mb) : PV X L (.IfExp c a b pos) (mIf qc ma mb) := (pe_ifExp hc ha hb).imp fun σ H Q ⟨F, ρ, rr, q⟩ => by
  refine TB.go rr q fun k F1 H1 g1 q1 => ?_
  cases k with
  | true => exact iteT (TM.then rr g1 (fun _ _ _ _ _ z => z) q1)
  | false => exact iteF (TM.then rr g1 (fun _ _ _ _ _ z => z) q1)
theorem b_if {c : Expr} (hc : PQ X L c qc) (ha : PB X L a ma) (hb : PB X L b mb) : PB X L (.IfExp c a b pos) (mIf qc ma mb) := (pe_ifExp hc ha hb).imp fun σ H Q ⟨F, ρ, rr, q⟩ => by
  refine TB.go rr q fun k F1 H1 g1 q1 => ?_
  cases k with
  | true => exact iteT (TM.then rr g1 (fun _ _ _ _ _ z => z) q1)
  | false => exact iteF (TM.then rr g1 (fun _ _ _ _ _ z => z) q1)
/-! ### argument lists -/
def mNil : Rho → R (List D) := fun _ => .ok []
def mCons (m : Rho → R D) (n : Rho → R (List D)) : Rho → R (List D) := fun ρ => (m ρ).bind fun d => (n ρ).bind fun ds => .ok (d :: ds)
variable {e : Expr} {es : List Expr} {m : Rho → R D} {n : Rho → R (List D)}
theorem av_nil : PAV X L [] mNil := pa_nil.imp fun σ H Q ⟨F, ρ, rr, q⟩ => q [] F H (Grow.refl rr.sub) .nil
theorem ab_nil : PAB X L [] mNil := pa_nil.imp fun σ H Q ⟨F, ρ, rr, q⟩ => q [] F H (Grow.refl rr.sub) .nil
theorem av_cons (h : PV X L e m) (hr : PAV X L es n) (hs : starEach (e :: es) X.env = (false, eval e X.env) :: starEach es X.env := by rfl) : PAV X L (e :: es) (mCons m n) := (pa_cons h hr hs).imp fun σ H Q ⟨F, ρ, rr, q⟩ => by
  refine TM.go rr q fun d v F1 H1 g1 r1 q1 => ?_
  refine TL.go (rr.grow g1) q1 fun ds vs F2 H2 g2 r2 q2 => ?_
  exact q2 (v :: vs) F2 H2 (g1.trans g2) (.cons (r1.mono g2.ff) r2)
theorem ab_cons (h : PB X L e m) (hr : PAB X L es n) (hs : starEach (e :: es) X.env = (false, eval e X.env) :: starEach es X.env := by rfl) : PAB X L (e :: es) (mCons m n) := (pa_cons h hr hs).imp fun σ H Q ⟨F, ρ, rr, q⟩ => by
  refine TM.go rr q fun d v F1 H1 g1 r1 q1 => ?_
  refine TL.go (rr.grow g1) q1 fun ds vs F2 H2 g2 r2 q2 => ?_
  exact q2 (v :: vs) F2 H2 (g1.trans g2) (.cons (r1.grow g2) r2)
/-! ### displays -/
def mTup (n : Rho → R (List D)) : Rho → R D := fun ρ => (n ρ).bind fun ds => if ds.length ≤ 1000000 then .ok (.tup ds) else .bad
def mLst (n : Rho → R (List D)) : Rho → R (List D) := fun ρ => (n ρ).bind fun ds => if ds.length ≤ 1000000 then .ok ds else .bad
theorem v_tup {k : Nat} (h : PAV X L es n) : PV X L (.Tuple es k pos) (mTup n) := (pe_tup h).imp fun σ H Q ⟨F, ρ, rr, q⟩ => by
  refine TL.go rr q fun ds vs F1 H1 g1 r1 q1 => ?_
  by_cases hz : ds.length ≤ 1000000
  · rw [if_pos hz] at q1
    refine ⟨line6 (by rw [r1.length]; exact hz), fun p hp => q1 _ (upd F1 p (.tup vs)) _ (g1.trans (Grow.frozen g1.fh hp)) (.tup upd_same (r1.mono (upd_new (g1.fh.free hp))))⟩
  · rw [if_neg hz] at q1; exact q1.elim
theorem n_lst (h : PAV X L es n) : PN X L (.List es pos) (mLst n) := (pe_lst h).imp fun σ H Q ⟨F, ρ, rr, q⟩ => by
  refine TL.go rr q fun ds vs F1 H1 g1 r1 q1 => ?_
  by_cases hz : ds.length ≤ 1000000
  · rw [if_pos hz] at q1
    refine ⟨line6 (by rw [r1.length]; exact hz), fun p hp => q1 _ F1 _ (g1.trans (Grow.loose g1.fh hp)) ⟨p, vs, rfl, g1.hh.free hp, upd_same, g1.fh.free hp, r1⟩⟩
  · rw [if_neg hz] at q1; exact q1.elim
end
end VL

/-! VL3: what the operators do, on data. -/
namespace VL
open PySem PySem.Spec PyProof.Rows L2

mutual
def D.py : D → PyData
  | .non => .none
  | .bl b => .bool b
  | .int i => .int i
  | .str x => .str x
  | .tup xs => .tuple (D.pys xs)
  | .lst xs => .list (D.pys xs)
  | .dic _ _ => .dict []
  | .scr _ => .dict []
def D.pys : List D → List PyData
  | [] => []
  | x :: xs => x.py :: D.pys xs
end
theorem pys_map : ∀ xs : List D, D.pys xs = xs.map D.py
  | [] => rfl
  | x :: xs => by rw [D.pys, List.map_cons, pys_map xs]
section
variable {K : PySem.W.Frag} {F H : Hp}
mutual
theorem Rp.dp (s : Same F H) : ∀ {v : V} {d : D}, Rp K F v d → d.py.canLay0 = true → Dp K H v d.py
  | _, _, .non, _ => .non
  | _, _, .bl b, _ => .bl b
  | _, _, .int i, _ => .int i
  | _, _, .str x, _ => .str x
  | _, _, .tup h r, z => .tup (.inl (.inl (s _ _ h))) (RpAll.dp s r (by simpa [D.py, PyData.canLay0] using z))
  | _, _, .lst h r, z => .lst (.inl (.inl (s _ _ h))) (RpAll.dp s r (by simpa [D.py, PyData.canLay0] using z))
  | _, _, .dic h e r, z => by simp [D.py, PyData.canLay0] at z
  | _, _, .scr h, z => by simp [D.py, PyData.canLay0] at z
theorem RpAll.dp (s : Same F H) : ∀ {vs : List V} {ds : List D}, RpAll K F vs ds → PyData.canLayAll0 (D.pys ds) = true → DpAll K H vs (D.pys ds)
  | _, _, .nil, _ => .nil
  | _, _, .cons h r, z => by
    have z' := z
    simp only [D.pys, PyData.canLayAll0, Bool.and_eq_true] at z'
    exact .cons (Rp.dp s h z'.1) (RpAll.dp s r z'.2)
end
theorem Rb.dp {v : V} {d : D} (s : Same F H) (r : Rb K F H v d) (z : d.py.canLay0 = true) : Dp K H v d.py := by
  rcases r with r | ⟨p, vs, xs, rfl, rfl, h, r⟩ | ⟨p, vs, ks, xs, rfl, rfl, h, e3, r⟩
  · exact r.dp s z
  · exact .lst (.inl (.inl h)) (r.dp s (by simpa [D.py, PyData.canLay0] using z))
  · simp [D.py, PyData.canLay0] at z
end
/-- the data may be compared as a whole -/
def sh (d : D) : Bool := SeqAt.shaped d.py
theorem sh_lay {d : D} (h : sh d = true) : d.py.canLay0 = true := SeqAt.canLay_of_shaped h

/-! ### == and != -/
def scalS : D → D → Bool
  | .int _, .int _ => true
  | .str _, .str _ => true
  | _, _ => false
def eqD (d e : D) : Bool := PyData.eqv d.py e.py
def okEq (d e : D) : Bool := scalS d e || (sh d && sh e)
def oEq (d e : D) : R D := if okEq d e = true then .ok (.bl (eqD d e)) else .bad
def oNe (d e : D) : R D := if okEq d e = true then .ok (.bl (!eqD d e)) else .bad
theorem noEx_oEq : noEx oEq := fun d e c h => by unfold oEq at h; split at h <;> cases h
theorem noEx_oNe : noEx oNe := fun d e c h => by unfold oNe at h; split at h <;> cases h
section
variable {X : Cx} {L : Lv}
def rEqA (K : PySem.W.Frag) : R2 := fun x y H Q => rEq x y H Q ∨ rEqD K x y H Q
def rNeA (K : PySem.W.Frag) : R2 := fun x y H Q => rNe x y H Q ∨ rNeD K x y H Q
theorem or_eq {k : Nat} (hr : Room k X.A) : OpR X (compareOp .Eq) (rEqA X.K) := op_eq.or (op_eqD hr.units)
theorem or_ne {k : Nat} (hr : Room k X.A) : OpR X (compareOp .NotEq) (rNeA X.K) := op_ne.or (op_neD hr.units)
theorem eqV_int (i j : Int) : decide (V.int i = V.int j) = PyData.eqv (.int i) (.int j) := by
  rw [PyData.eqv, dec_int]
theorem eqV_str (i j : Str) : decide (V.str i = V.str j) = PyData.eqv (.str i) (.str j) := by
  rw [PyData.eqv, dec_str]
theorem eq_common {v w : V} {d e : D} {F H : Hp} (s : Same F H) (r1 : Rb L.K F H v d) (r2 : Rb L.K F H w e) (hz : okEq d e = true) :
    (scal v w = true ∧ decide (v = w) = eqD d e) ∨ (Dp L.K H v d.py ∧ Dp L.K H w e.py ∧ SeqAt.shaped d.py = true ∧ SeqAt.shaped e.py = true) := by
  cases hs : scalS d e with
  | true =>
    cases d <;> cases e <;> first | (cases hs; done) | skip
    · cases r1.int; cases r2.int; exact .inl ⟨rfl, eqV_int _ _⟩
    · cases r1.str; cases r2.str; exact .inl ⟨rfl, eqV_str _ _⟩
  | false =>
    unfold okEq at hz
    rw [hs, Bool.false_or, Bool.and_eq_true] at hz
    exact .inr ⟨r1.dp s (sh_lay hz.1), r2.dp s (sh_lay hz.2), hz.1, hz.2⟩
theorem ob_eq : OpB L (rEqA L.K) oEq := by
  intro F H v w d e z Q s r1 r2 hz q
  unfold oEq at hz
  by_cases ho : okEq d e = true
  · rw [if_pos ho] at hz
    cases hz
    rcases eq_common s r1 r2 ho with ⟨h1, h2⟩ | ⟨h1, h2, h3, h4⟩
    · exact .inl ⟨h1, by rw [h2]; exact q _ F H (Grow.refl s) (.bl _)⟩
    · exact .inr ⟨_, _, h1, h2, h3, h4, q _ F H (Grow.refl s) (.bl _)⟩
  · rw [if_neg ho] at hz; cases hz
theorem ob_ne : OpB L (rNeA L.K) oNe := by
  intro F H v w d e z Q s r1 r2 hz q
  unfold oNe at hz
  by_cases ho : okEq d e = true
  · rw [if_pos ho] at hz
    cases hz
    rcases eq_common s r1 r2 ho with ⟨h1, h2⟩ | ⟨h1, h2, h3, h4⟩
    · exact .inl ⟨h1, by rw [h2]; exact q _ F H (Grow.refl s) (.bl _)⟩
    · exact .inr ⟨_, _, h1, h2, h3, h4, q _ F H (Grow.refl s) (.bl _)⟩
  · rw [if_neg ho] at hz; cases hz

/-! ### numbers -/
def oI (C : Int → Int → Bool) (g : Int → Int → D) : D → D → R D
  | .int i, .int j => if C i j = true then .ok (g i j) else .bad
  | _, _ => .bad
theorem noEx_oI (C : Int → Int → Bool) (g : Int → Int → D) : noEx (oI C g) := fun d e c h => by
  cases d <;> cases e <;> simp only [oI] at h <;> first | (cases h; done) | (split at h <;> cases h)
theorem ob_I {P : Int → Int → Prop} {C : Int → Int → Bool} {g : Int → Int → V} {g' : Int → Int → D} (hC : ∀ i j, C i j = true → P i j) (hg : ∀ F i j, Rp L.K F (g i j) (g' i j)) : OpB L (rI P g) (oI C g') := by
  intro F H v w d e z Q s r1 r2 hz q
  cases d <;> cases e <;> simp only [oI] at hz <;> first | (cases hz; done) | skip
  rename_i i j
  cases r1.int; cases r2.int
  by_cases hc : C i j = true
  · rw [if_pos hc] at hz
    cases hz
    exact ⟨i, j, rfl, rfl, hC i j hc, q _ F H (Grow.refl s) (hg F i j)⟩
  · rw [if_neg hc] at hz; cases hz
def oI0 (g : Int → Int → D) : D → D → R D
  | .int i, .int j => .ok (g i j)
  | _, _ => .bad
theorem noEx_oI0 (g : Int → Int → D) : noEx (oI0 g) := fun d e c h => by
  cases d <;> cases e <;> simp only [oI0] at h <;> cases h
theorem ob_I0 {g : Int → Int → V} {g' : Int → Int → D} (hg : ∀ F i j, Rp L.K F (g i j) (g' i j)) : OpB L (rI0 g) (oI0 g') := by
  intro F H v w d e z Q s r1 r2 hz q
  cases d <;> cases e <;> simp only [oI0] at hz <;> first | (cases hz; done) | skip
  rename_i i j
  cases r1.int; cases r2.int
  cases hz
  exact ⟨i, j, rfl, rfl, q _ F H (Grow.refl s) (hg F i j)⟩
def oSub : D → D → R D := oI0 fun i j => .int (i - j)
def okMod (_ j : Int) : Bool := decide (0 < j)
def okDiv (_ j : Int) : Bool := decide (0 < j) && decide (j < 1073741824)
def okPow (i j : Int) : Bool := decide (0 ≤ j) && (decide (j ≤ 1000000) && decide (i.natAbs < 2 ^ 64))
def oMod : D → D → R D := oI okMod fun i j => .int (i % j)
def oDiv : D → D → R D := oI okDiv fun i j => .int (i / j)
def oPow : D → D → R D := oI okPow fun i j => .int (i ^ j.toNat)
def oLt : D → D → R D := oI0 fun i j => .bl (decide (i < j))
def oGt : D → D → R D := oI0 fun i j => .bl (decide (j < i))
theorem ob_sub : OpB L (rI0 fun i j => .int (i - j)) oSub := ob_I0 fun _ _ _ => .int _
theorem ob_mod : OpB L (rI (fun _ j => 0 < j) fun i j => .int (i % j)) oMod := ob_I (fun i j h => of_decide_eq_true h) fun _ _ _ => .int _
theorem ob_div : OpB L (rI CDiv fun i j => .int (i / j)) oDiv := ob_I (fun i j h => by
  unfold okDiv at h
  rw [Bool.and_eq_true] at h
  exact ⟨of_decide_eq_true h.1, of_decide_eq_true h.2⟩) fun _ _ _ => .int _
theorem ob_pow : OpB L (rI CPow fun i j => .int (i ^ j.toNat)) oPow := ob_I (fun i j h => by
  unfold okPow at h
  rw [Bool.and_eq_true, Bool.and_eq_true] at h
  exact ⟨of_decide_eq_true h.1, of_decide_eq_true h.2.1, of_decide_eq_true h.2.2⟩) fun _ _ _ => .int _
theorem ob_lt : OpB L (rI0 fun i j => .bl (decide (i < j))) oLt := ob_I0 fun _ _ _ => .bl _
theorem ob_gt : OpB L (rI0 fun i j => .bl (decide (j < i))) oGt := ob_I0 fun _ _ _ => .bl _
theorem noEx_oSub : noEx oSub := noEx_oI0 _
theorem noEx_oMod : noEx oMod := noEx_oI _ _
theorem noEx_oDiv : noEx oDiv := noEx_oI _ _
theorem noEx_oPow : noEx oPow := noEx_oI _ _
theorem noEx_oLt : noEx oLt := noEx_oI0 _
theorem noEx_oGt : noEx oGt := noEx_oI0 _

/-! ### + -/
def oAdd : D → D → R D
  | .int i, .int j => .ok (.int (i + j))
  | .str a, .str b => if a.length + b.length ≤ 1000000 then .ok (.str (a ++ b)) else .bad
  | .tup a, .tup b => if a.length + b.length ≤ 1000000 then .ok (.tup (a ++ b)) else .bad
  | .lst a, .lst b => if a.length + b.length ≤ 1000000 then .ok (.lst (a ++ b)) else .bad
  | _, _ => .bad
theorem noEx_oAdd : noEx oAdd := fun d e c h => by
  cases d <;> cases e <;> simp only [oAdd] at h <;> first | (cases h; done) | (split at h <;> cases h)
def rAddA (K : PySem.W.Frag) : R2 := fun x y H Q => rI0 (fun i j => .int (i + j)) x y H Q ∨ (∃ i j, x = .str i ∧ y = .str j ∧ i.length + j.length ≤ sizeLine ∧ Q (.str (i ++ j)) H) ∨ rCatA K x y H Q ∨ rCat x y H Q
theorem or_add : OpR X (binaryOp .Add) (rAddA X.K) := op_add.or (op_add_str.or (op_catA.or op_cat))
theorem ob_add : OpB L (rAddA L.K) oAdd := by
  intro F H v w d e z Q s r1 r2 hz q
  cases d <;> cases e <;> simp only [oAdd] at hz <;> first | (cases hz; done) | skip
  · cases r1.int; cases r2.int; cases hz
    exact .inl ⟨_, _, rfl, rfl, q _ F H (Grow.refl s) (.int _)⟩
  · rename_i a b
    cases r1.str; cases r2.str
    by_cases hc : a.length + b.length ≤ 1000000
    · rw [if_pos hc] at hz; cases hz
      exact .inr (.inl ⟨_, _, rfl, rfl, line6 hc, q _ F H (Grow.refl s) (.str _)⟩)
    · rw [if_neg hc] at hz; cases hz
  · rename_i a b
    obtain ⟨p, xs, rfl, hp, ra⟩ := r1.tup
    obtain ⟨p2, ys, rfl, hp2, rb⟩ := r2.tup
    by_cases hc : a.length + b.length ≤ 1000000
    · rw [if_pos hc] at hz; cases hz
      refine .inr (.inr (.inl ⟨p, p2, xs, ys, rfl, rfl, .inl (.inl (s _ _ hp)), .inl (.inl (s _ _ hp2)), line6 (by rw [ra.length, rb.length]; exact hc), fun e => ?_, fun _ e => ?_, fun _ _ l hl => ?_⟩))
      · subst e
        cases ra
        exact q _ F H (Grow.refl s) (.tup hp2 rb)
      · subst e
        cases rb
        rw [List.append_nil] at q
        exact q _ F H (Grow.refl s) (.tup hp ra)
      · exact q _ _ _ (Grow.frozen s hl) (.tup upd_same ((ra.append rb).mono (upd_new (s.free hl))))
    · rw [if_neg hc] at hz; cases hz
  · rename_i a b
    obtain ⟨p, xs, rfl, hp, ra⟩ := r1.lst s
    obtain ⟨p2, ys, rfl, hp2, rb⟩ := r2.lst s
    by_cases hc : a.length + b.length ≤ 1000000
    · rw [if_pos hc] at hz; cases hz
      exact .inr (.inr (.inr ⟨p, p2, xs, ys, rfl, rfl, hp, hp2, line6 (by rw [ra.length, rb.length]; exact hc), fun l hl =>
        q _ _ _ (Grow.frozen s hl) (.lst upd_same ((ra.append rb).mono (upd_new (s.free hl))))⟩))
    · rw [if_neg hc] at hz; cases hz

/-! ### * -/
def okMul (i j : Int) : Bool := (decide (-(2 ^ 64) < i) && decide (i < 2 ^ 64)) || (decide (-(2 ^ 64) < j) && decide (j < 2 ^ 64))
def oMul : D → D → R D
  | .int i, .int j => if okMul i j = true then .ok (.int (i * j)) else .bad
  | .lst xs, .int k => if k ≤ 1000 ∧ xs.length ≤ 1000 ∧ -1000 ≤ k then .ok (.lst (List.replicate k.toNat xs).flatten) else .bad
  | _, _ => .bad
theorem noEx_oMul : noEx oMul := fun d e c h => by
  cases d <;> cases e <;> simp only [oMul] at h <;> first | (cases h; done) | (split at h <;> cases h)
theorem CMul_of {i j : Int} (h : okMul i j = true) : CMul i j := by
  unfold okMul at h
  simp only [Bool.or_eq_true, Bool.and_eq_true, decide_eq_true_eq] at h
  exact h
def rMulA : R2 := fun x y H Q => rI CMul (fun i j => .int (i * j)) x y H Q ∨ rRep x y H Q
theorem or_mul : OpR X (binaryOp .Mult) rMulA := op_mul.or op_rep
theorem rep_line {n : Nat} {k : Int} (h1 : k ≤ 1000) (h2 : n ≤ 1000) : n * k.toNat ≤ sizeLine := by
  have a : k.toNat ≤ 1000 := by omega
  have b := Nat.mul_le_mul h2 a
  rw [sizeLine_eq]
  omega
theorem ob_mul : OpB L rMulA oMul := by
  intro F H v w d e z Q s r1 r2 hz q
  cases d <;> cases e <;> simp only [oMul] at hz <;> first | (cases hz; done) | skip
  · rename_i i j
    cases r1.int; cases r2.int
    by_cases hc : okMul i j = true
    · rw [if_pos hc] at hz; cases hz
      exact .inl ⟨_, _, rfl, rfl, CMul_of hc, q _ F H (Grow.refl s) (.int _)⟩
    · rw [if_neg hc] at hz; cases hz
  · rename_i a k
    obtain ⟨p, xs, rfl, hp, ra⟩ := r1.lst s
    cases r2.int
    by_cases hc : k ≤ 1000 ∧ a.length ≤ 1000 ∧ -1000 ≤ k
    · rw [if_pos hc] at hz; cases hz
      exact .inr ⟨p, k, xs, rfl, rfl, hp, by omega, by omega, rep_line hc.1 (by rw [ra.length]; exact hc.2.1), fun l hl =>
        q _ _ _ (Grow.frozen s hl) (.lst upd_same ((ra.rep _).mono (upd_new (s.free hl))))⟩
    · rw [if_neg hc] at hz; cases hz
/-- a list repeated, of one's own -/
def mRep (ma mb : Rho → R D) : Rho → R (List D) := fun ρ => (ma ρ).bind fun d => (mb ρ).bind fun e => match d, e with
  | .lst xs, .int k => if k ≤ 1000 ∧ xs.length ≤ 1000 ∧ -1000 ≤ k then .ok (List.replicate k.toNat xs).flatten else .bad
  | _, _ => .bad
variable {a b : Expr} {ma mb : Rho → R D} {pos : Pos}
theorem n_rep (ha : PB X L a ma) (hb : PB X L b mb) : PN X L (.BinOp a .Mult b pos) (mRep ma mb) := (pe_op op_rep ha hb).imp fun σ H Q ⟨F, ρ, rr, q⟩ => by
  refine TM.go rr q fun d v F1 H1 g1 r1 q1 => ?_
  refine TM.go (rr.grow g1) q1 fun e w F2 H2 g2 r2 q2 => ?_
  cases d <;> cases e <;> simp only [] at q2 <;> first | exact q2.elim | skip
  rename_i a k
  obtain ⟨p, xs, rfl, hp, ra⟩ := (r1.grow g2).lst g2.fh
  cases r2.int
  by_cases hc : k ≤ 1000 ∧ a.length ≤ 1000 ∧ -1000 ≤ k
  · rw [if_pos hc] at q2
    exact ⟨p, k, xs, rfl, rfl, hp, by omega, by omega, rep_line hc.1 (by rw [ra.length]; exact hc.2.1), fun l hl =>
      q2 _ F2 _ ((g1.trans g2).trans (Grow.loose g2.fh hl)) ⟨l, _, rfl, (g1.trans g2).hh.free hl, upd_same, g2.fh.free hl, ra.rep _⟩⟩
  · rw [if_neg hc] at q2; exact q2.elim
/-! ### unary minus -/
def mNeg (m : Rho → R D) : Rho → R D := fun ρ => (m ρ).bind fun d => match d with
  | .int i => .ok (.int (-i))
  | _ => .bad
theorem v_neg (ha : PB X L a ma) : PV X L (.UnaryOp .USub a pos) (mNeg ma) := (pe_un un_neg ha).imp fun σ H Q ⟨F, ρ, rr, q⟩ => by
  refine TM.go rr q fun d v F1 H1 g1 r1 q1 => ?_
  cases d <;> simp only [] at q1 <;> first | exact q1.elim | skip
  cases r1.int
  exact ⟨_, rfl, q1 _ F1 H1 g1 (.int _)⟩
/-! ### is None -/
def oIsN (d _ : D) : R D := match d with
  | .non => .ok (.bl true)
  | _ => .ok (.bl false)
def oNotN (d _ : D) : R D := match d with
  | .non => .ok (.bl false)
  | _ => .ok (.bl true)
def isNon : D → Bool
  | .non => true
  | _ => false
theorem Rb.isNon {K : PySem.W.Frag} {F H : Hp} {v : V} {d : D} (r : Rb K F H v d) : decide (v = .non) = VL.isNon d := by
  rcases r with r | ⟨p, vs, xs, rfl, rfl, h, r⟩ | ⟨p, vs, ks, xs, rfl, rfl, h, e3, r⟩
  · cases r <;> first | rfl | exact decide_eq_false (fun z => nomatch z)
  · exact decide_eq_false (fun z => nomatch z)
  · exact decide_eq_false (fun z => nomatch z)
def mIsN (m : Rho → R D) : Rho → R D := fun ρ => (m ρ).bind fun d => .ok (.bl (isNon d))
def mNotN (m : Rho → R D) : Rho → R D := fun ρ => (m ρ).bind fun d => .ok (.bl (!isNon d))
theorem v_isN {j : Nat} {p : Pos} (ha : PB X L a ma) : PV X L (.Compare a [.Is] [.Constant .none j p] pos) (mIsN ma) := (pe_cmp (pc_isN ha)).imp fun σ H Q ⟨F, ρ, rr, q⟩ => by
  refine TM.go rr q fun d v F1 H1 g1 r1 q1 => ?_
  rw [r1.isNon]
  exact q1 _ F1 H1 g1 (.bl _)
theorem v_notN {j : Nat} {p : Pos} (ha : PB X L a ma) : PV X L (.Compare a [.IsNot] [.Constant .none j p] pos) (mNotN ma) := (pe_cmp (pc_notN ha)).imp fun σ H Q ⟨F, ρ, rr, q⟩ => by
  refine TM.go rr q fun d v F1 H1 g1 r1 q1 => ?_
  rw [r1.isNon]
  exact q1 _ F1 H1 g1 (.bl _)
def mTest (b : Bool) (m : Rho → R D) : Rho → R Bool := fun ρ => (m ρ).bind fun d => .ok (if b = true then isNon d else !isNon d)
theorem q_isN {j : Nat} {p : Pos} (ha : PB X L a ma) : PQ X L (.Compare a [.Is] [.Constant .none j p] pos) (mTest true ma) := (pt_cmp (pc_isN ha)).imp fun σ H Q ⟨F, ρ, rr, q⟩ => by
  refine TM.go rr q fun d v F1 H1 g1 r1 q1 => ?_
  exact ⟨_, rfl, by rw [r1.isNon]; exact q1 F1 H1 g1⟩
theorem q_notN {j : Nat} {p : Pos} (ha : PB X L a ma) : PQ X L (.Compare a [.IsNot] [.Constant .none j p] pos) (mTest false ma) := (pt_cmp (pc_notN ha)).imp fun σ H Q ⟨F, ρ, rr, q⟩ => by
  refine TM.go rr q fun d v F1 H1 g1 r1 q1 => ?_
  exact ⟨_, rfl, by rw [r1.isNon]; exact q1 F1 H1 g1⟩
end
end VL

/-! VL4: orders, membership, subscripts, slices, built-in calls, on data. -/
namespace VL
open PySem PySem.Spec PyProof.Rows L2

def intsOf : List D → Option (List Int)
  | [] => some []
  | .int i :: r => (intsOf r).map fun ns => i :: ns
  | _ :: _ => none
theorem intsOf_eq : ∀ {xs : List D} {ns : List Int}, intsOf xs = some ns → xs = ns.map D.int
  | [], ns, h => by cases h; rfl
  | d :: r, ns, h => by
    cases d with
    | int i =>
      simp only [intsOf] at h
      cases e : intsOf r with
      | none => rw [e] at h; cases h
      | some ms => rw [e] at h; cases h; rw [intsOf_eq e]; rfl
    | _ => cases h
theorem intsOf_ints : ∀ ns : List Int, intsOf (ns.map D.int) = some ns
  | [] => rfl
  | n :: ns => by simp only [List.map_cons, intsOf, intsOf_ints ns, Option.map_some]
def intsOk (f : List Int → R D) (xs : List D) : R D := match intsOf xs with
  | some ns => f ns
  | none => .bad
theorem intsOk_ints (f : List Int → R D) (ns : List Int) : intsOk f (ns.map D.int) = f ns := by unfold intsOk; rw [intsOf_ints]
theorem intsOk_ok {f : List Int → R D} {xs : List D} {z : D} (h : intsOk f xs = .ok z) : ∃ ns, xs = ns.map D.int ∧ f ns = .ok z := by
  unfold intsOk at h
  cases e : intsOf xs with
  | none => rw [e] at h; cases h
  | some ns => rw [e] at h; exact ⟨ns, intsOf_eq e, h⟩
theorem intsOk_ex {f : List Int → R D} {xs : List D} {c : Str} (hf : ∀ ns, f ns ≠ .ex c) : intsOk f xs ≠ .ex c := fun h => by
  unfold intsOk at h
  cases e : intsOf xs with
  | none => rw [e] at h; cases h
  | some ns => rw [e] at h; exact hf ns h

section
variable {X : Cx} {L : Lv}
/-! ### <= and >= -/
def leI (ns ms : List Int) : Bool := Ob.lexAt (fun j => decide (ns.getD j 0 = ms.getD j 0)) (fun j => decide (ns.getD j 0 ≤ ms.getD j 0)) (decide (ns.length ≤ ms.length)) 0 (min ns.length ms.length)
def geI (ns ms : List Int) : Bool := Ob.lexAt (fun j => decide (ns.getD j 0 = ms.getD j 0)) (fun j => decide (ms.getD j 0 ≤ ns.getD j 0)) (decide (ns.length ≥ ms.length)) 0 (min ns.length ms.length)
def rGeT (K : PySem.W.Frag) : R2 := fun x y H Q => ∃ (a b : Addr) (ns ms : List Int), x = .ref a ∧ y = .ref b ∧ SqT K H a (ns.map V.int) ∧ SqT K H b (ms.map V.int) ∧ Q (.bl (geI ns ms)) H
theorem op_geT (hu : X.A.units < cLine) : OpR X (compareOp .GtE) (rGeT X.K) := by
  intro pins s σ H x y v u Q I rx ry h
  obtain ⟨a, b, ns, ms, rfl, rfl, ha, hb, q⟩ := h
  cases rx
  cases ry
  obtain ⟨us, r1, p1, _⟩ := I.tuple ha
  obtain ⟨ws, r2, p2, _⟩ := I.tuple hb
  have k1 : IntsAre us ns := Vals.ints r1
  have k2 : IntsAre ws ms := Vals.ints r2
  have z1 : us.toArray.size = ns.length := by rw [List.size_toArray]; exact k1.length
  have z2 : ws.toArray.size = ms.length := by rw [List.size_toArray]; exact k2.length
  have t1 : ∀ j (h1 : j < us.toArray.size), ∃ t, us.toArray[j] = .int (ns.getD j 0) t := fun j h1 => PyProof.Rows.IntsAre.int_at k1 _ _ (by simp at h1; simp [h1])
  have t2 : ∀ j (h1 : j < ws.toArray.size), ∃ t, ws.toArray[j] = .int (ms.getD j 0) t := fun j h1 => PyProof.Rows.IntsAre.int_at k2 _ _ (by simp at h1; simp [h1])
  have cmp := Ob.RcOp.tuples_ge (A := X.A) (s := s) (e := fun j => decide (ns.getD j 0 = ms.getD j 0)) (r := fun j => decide (ms.getD j 0 ≤ ns.getD j 0)) p1 p2 hu
    (fun j h1 h2 => by
      obtain ⟨t, et⟩ := t1 j h1
      obtain ⟨t', et'⟩ := t2 j h2
      rw [et, et', ← Bool.beq_eq_decide_eq]
      exact SeqAt.EqAt.int_int _ _ _ _)
    (fun j h1 h2 _ => by
      obtain ⟨t, et⟩ := t1 j h1
      obtain ⟨t', et'⟩ := t2 j h2
      rw [et, et']
      exact Ob.RcOp.ge_int _ _ _ _)
  rw [z1, z2] at cmp
  exact cmp X.prog X.w X.xe (EP X pins σ Q) ⟨.bl _, H, I, rfl, q⟩
def oLe : D → D → R D
  | .int i, .int j => .ok (.bl (decide (i ≤ j)))
  | .tup xs, .tup ys => intsOk (fun ns => intsOk (fun ms => .ok (.bl (leI ns ms))) ys) xs
  | _, _ => .bad
def oGe : D → D → R D
  | .int i, .int j => .ok (.bl (decide (j ≤ i)))
  | .tup xs, .tup ys => intsOk (fun ns => intsOk (fun ms => .ok (.bl (geI ns ms))) ys) xs
  | _, _ => .bad
theorem noEx_oLe : noEx oLe := fun d e c h => by
  cases d <;> cases e <;> simp only [oLe] at h <;> first | (cases h; done) | exact intsOk_ex (fun ns => intsOk_ex (fun ms => by intro h; cases h)) h
theorem noEx_oGe : noEx oGe := fun d e c h => by
  cases d <;> cases e <;> simp only [oGe] at h <;> first | (cases h; done) | exact intsOk_ex (fun ns => intsOk_ex (fun ms => by intro h; cases h)) h
def rLeA (K : PySem.W.Frag) : R2 := fun x y H Q => rI0 (fun i j => .bl (decide (i ≤ j))) x y H Q ∨ rLeT K x y H Q
def rGeA (K : PySem.W.Frag) : R2 := fun x y H Q => rI0 (fun i j => .bl (decide (j ≤ i))) x y H Q ∨ rGeT K x y H Q
theorem or_le {k : Nat} (hr : Room k X.A) : OpR X (compareOp .LtE) (rLeA X.K) := op_le.or (op_leT hr.units0)
theorem or_ge {k : Nat} (hr : Room k X.A) : OpR X (compareOp .GtE) (rGeA X.K) := op_ge.or (op_geT hr.units0)
theorem ob_le : OpB L (rLeA L.K) oLe := by
  intro F H v w d e z Q s r1 r2 hz q
  cases d <;> cases e <;> simp only [oLe] at hz <;> first | (cases hz; done) | skip
  · cases r1.int; cases r2.int; cases hz
    exact .inl ⟨_, _, rfl, rfl, q _ F H (Grow.refl s) (.bl _)⟩
  · obtain ⟨ns, rfl, h2⟩ := intsOk_ok hz
    obtain ⟨ms, rfl, h3⟩ := intsOk_ok h2
    cases h3
    obtain ⟨p, xs, rfl, hp, ra⟩ := r1.tup
    obtain ⟨p2, ys, rfl, hp2, rb⟩ := r2.tup
    cases ra.ints; cases rb.ints
    exact .inr ⟨p, p2, ns, ms, rfl, rfl, .inl (.inl (s _ _ hp)), .inl (.inl (s _ _ hp2)), q _ F H (Grow.refl s) (.bl _)⟩
theorem ob_ge : OpB L (rGeA L.K) oGe := by
  intro F H v w d e z Q s r1 r2 hz q
  cases d <;> cases e <;> simp only [oGe] at hz <;> first | (cases hz; done) | skip
  · cases r1.int; cases r2.int; cases hz
    exact .inl ⟨_, _, rfl, rfl, q _ F H (Grow.refl s) (.bl _)⟩
  · obtain ⟨ns, rfl, h2⟩ := intsOk_ok hz
    obtain ⟨ms, rfl, h3⟩ := intsOk_ok h2
    cases h3
    obtain ⟨p, xs, rfl, hp, ra⟩ := r1.tup
    obtain ⟨p2, ys, rfl, hp2, rb⟩ := r2.tup
    cases ra.ints; cases rb.ints
    exact .inr ⟨p, p2, ns, ms, rfl, rfl, .inl (.inl (s _ _ hp)), .inl (.inl (s _ _ hp2)), q _ F H (Grow.refl s) (.bl _)⟩

/-! ### in, not in -/
def flatD : D → Bool
  | .non => true
  | .bl _ => true
  | .int _ => true
  | .str _ => true
  | _ => false
theorem Rp.flat {K : PySem.W.Frag} {F : Hp} {v : V} {d : D} (r : Rp K F v d) (h : flatD d = true) : flatV v = true := by
  cases r <;> first | rfl | cases h
theorem RpAll.flat {K : PySem.W.Frag} {F : Hp} : ∀ {vs : List V} {ds : List D}, RpAll K F vs ds → ds.all flatD = true → vs.all flatV = true
  | _, _, .nil, _ => rfl
  | _, _, .cons h r, z => by
    simp only [List.all_cons, Bool.and_eq_true] at z ⊢
    exact ⟨h.flat z.1, RpAll.flat r z.2⟩
theorem eqV_flat {K : PySem.W.Frag} {F : Hp} {v w : V} {d e : D} (r1 : Rp K F v d) (r2 : Rp K F w e) (h1 : flatD d = true) (h2 : flatD e = true) : eqV v w = eqD d e := by
  unfold eqD
  cases r1 <;> first | (cases h1; done) | skip
  all_goals (cases r2 <;> first | (cases h2; done) | skip)
  all_goals simp only [eqV, D.py, PyData.eqv]
theorem inV_flat {K : PySem.W.Frag} {F : Hp} {v : V} {d : D} (r1 : Rp K F v d) (h1 : flatD d = true) : ∀ {vs : List V} {ds : List D}, RpAll K F vs ds → ds.all flatD = true → inV v vs = ds.any fun z => eqD z d
  | _, _, .nil, _ => rfl
  | _, _, .cons h r, z => by
    simp only [List.all_cons, Bool.and_eq_true] at z
    have ih := inV_flat r1 h1 r z.2
    unfold inV at ih ⊢
    rw [List.any_cons, List.any_cons, ih, eqV_flat h r1 z.1 h1]
theorem any_py (d : D) : ∀ ds : List D, ((D.pys ds).any fun z => PyData.eqv z d.py) = ds.any fun z => eqD z d
  | [] => rfl
  | e :: ds => by rw [D.pys, List.any_cons, List.any_cons, any_py d ds]; rfl
/-- membership, where it is told -/
def memD (x : D) : D → Option Bool
  | .lst ys => if (sh x && sh (.lst ys)) = true then some (ys.any fun z => eqD z x) else none
  | .tup ys => if (flatD x && ys.all flatD) = true then some (ys.any fun z => eqD z x) else none
  | .dic ks _ => (match x with
    | .int k => some (ks.contains k)
    | _ => none)
  | _ => none
def oIn (x y : D) : R D := match memD x y with
  | some b => .ok (.bl b)
  | none => .bad
def oNotIn (x y : D) : R D := match memD x y with
  | some b => .ok (.bl (!b))
  | none => .bad
theorem noEx_oIn : noEx oIn := fun d e c h => by unfold oIn at h; split at h <;> cases h
theorem noEx_oNotIn : noEx oNotIn := fun d e c h => by unfold oNotIn at h; split at h <;> cases h
def rDIn (neg : Bool) : R2 := fun y x H Q => ∃ a o, x = .ref a ∧ DGet H a y o ∧ Q (.bl (if neg then !o.isSome else o.isSome)) H
theorem op_dIn (hu : X.A.units + 1 < cLine) : OpR X (compareOp .In) (rDIn false) := by
  intro pins s σ H y x v u Q I ry rx h
  obtain ⟨a, o, rfl, g, q⟩ := h
  cases rx
  exact d_in hu I g ry fun s' I' => ⟨.bl o.isSome, H, I', rfl, q⟩
theorem op_dNotIn (hu : X.A.units + 1 < cLine) : OpR X (compareOp .NotIn) (rDIn true) := by
  intro pins s σ H y x v u Q I ry rx h
  obtain ⟨a, o, rfl, g, q⟩ := h
  cases rx
  exact d_notIn hu I g ry fun s' I' => ⟨.bl (!o.isSome), H, I', rfl, q⟩
def rInA (K : PySem.W.Frag) : R2 := fun x y H Q => rInD K x y H Q ∨ rIn K false x y H Q ∨ rDIn false x y H Q
def rNotInA (K : PySem.W.Frag) : R2 := fun x y H Q => rNotInD K x y H Q ∨ rIn K true x y H Q ∨ rDIn true x y H Q
theorem room65 {k : Nat} {A : Around} (hr : Room k A) : A.units + 65 < cLine := by have := hr.un; omega
theorem or_in {k : Nat} (hr : Room k X.A) : OpR X (compareOp .In) (rInA X.K) := (op_inD (room65 hr)).or (op_in_seq.or (op_dIn (hu_of hr)))
theorem or_notIn {k : Nat} (hr : Room k X.A) : OpR X (compareOp .NotIn) (rNotInA X.K) := (op_notInD (room65 hr)).or (op_notIn_seq.or (op_dNotIn (hu_of hr)))
theorem valV_ks : ∀ {kvs : List (Key × V)} {ks : List Int} (k : Int), kvs.map (·.1) = ks.map Sum.inl → (valV kvs (.inl k)).isSome = ks.contains k
  | [], [], k, _ => rfl
  | [], _ :: _, k, h => by cases h
  | _ :: _, [], k, h => by cases h
  | p :: r, j :: ks, k, h => by
    have h1 : p.1 = Sum.inl j := (List.cons.inj h).1
    have h2 := (List.cons.inj h).2
    rw [List.contains_cons]
    by_cases e : k = j
    · subst e
      rw [valV_pos h1]
      simp
    · rw [valV_neg (by rw [h1]; intro z; exact e (Sum.inl.inj z).symm), valV_ks k h2]
      simp [e]
theorem mem_common {v w : V} {d e : D} {F H : Hp} {b : Bool} (s : Same F H) (r1 : Rb L.K F H v d) (r2 : Rb L.K F H w e) (hz : memD d e = some b) :
    (∃ d' ds, Dp L.K H v d' ∧ Dp L.K H w (.list ds) ∧ SeqAt.shaped d' = true ∧ SeqAt.shaped (.list ds) = true ∧ (ds.any fun z => PyData.eqv z d') = b) ∨
    (∃ p xs, w = .ref p ∧ (SqL L.K H p xs ∨ SqT L.K H p xs) ∧ flatV v = true ∧ xs.all flatV = true ∧ inV v xs = b) ∨ ∃ a o, w = .ref a ∧ DGet H a v o ∧ o.isSome = b := by
  cases e <;> simp only [memD] at hz <;> first | (cases hz; done) | skip
  · rename_i ys
    by_cases hc : (flatD d && ys.all flatD) = true
    · rw [if_pos hc] at hz
      cases hz
      rw [Bool.and_eq_true] at hc
      obtain ⟨p, xs, rfl, hp, ra⟩ := r2.tup
      have rv : Rp L.K F v d := by
        rcases r1 with r | ⟨p, vs, xs, rfl, rfl, h, r⟩ | ⟨p, vs, ks, xs, rfl, rfl, h, e3, r⟩
        · exact r
        · cases hc.1
        · cases hc.1
      exact .inr (.inl ⟨p, xs, rfl, .inr (.inl (.inl (s _ _ hp))), rv.flat hc.1, ra.flat hc.2, inV_flat rv hc.1 ra hc.2⟩)
    · rw [if_neg hc] at hz; cases hz
  · rename_i ys
    by_cases hc : (sh d && sh (.lst ys)) = true
    · rw [if_pos hc] at hz
      cases hz
      rw [Bool.and_eq_true] at hc
      exact .inl ⟨_, _, r1.dp s (sh_lay hc.1), r2.dp s (sh_lay hc.2), hc.1, hc.2, any_py d ys⟩
    · rw [if_neg hc] at hz; cases hz
  · rename_i ks ys
    cases d <;> simp only [] at hz <;> first | (cases hz; done) | skip
    rename_i k
    cases hz
    obtain ⟨p, kvs, rfl, hp, ek, ra⟩ := r2.dic s
    cases r1.int
    exact .inr (.inr ⟨p, _, rfl, DGet.k (k := Sum.inl k) hp, valV_ks k ek⟩)
theorem ob_in : OpB L (rInA L.K) oIn := by
  intro F H v w d e z Q s r1 r2 hz q
  unfold oIn at hz
  cases em : memD d e with
  | none => rw [em] at hz; cases hz
  | some b =>
    rw [em] at hz; cases hz
    have fin := q (.bl b) F H (Grow.refl s) (.bl b)
    rcases mem_common s r1 r2 em with ⟨d', ds, h1, h2, h3, h4, h5⟩ | ⟨p, xs, h1, h2, h3, h4, h5⟩ | ⟨a, o, h1, h2, h3⟩
    · exact .inl ⟨d', ds, h1, h2, h3, h4, by rw [h5]; exact fin⟩
    · exact .inr (.inl ⟨p, xs, h1, h2, h3, h4, by simp only [h5]; exact fin⟩)
    · exact .inr (.inr ⟨a, o, h1, h2, by simp only [h3]; exact fin⟩)
theorem ob_notIn : OpB L (rNotInA L.K) oNotIn := by
  intro F H v w d e z Q s r1 r2 hz q
  unfold oNotIn at hz
  cases em : memD d e with
  | none => rw [em] at hz; cases hz
  | some b =>
    rw [em] at hz; cases hz
    have fin := q (.bl (!b)) F H (Grow.refl s) (.bl (!b))
    rcases mem_common s r1 r2 em with ⟨d', ds, h1, h2, h3, h4, h5⟩ | ⟨p, xs, h1, h2, h3, h4, h5⟩ | ⟨a, o, h1, h2, h3⟩
    · exact .inl ⟨d', ds, h1, h2, h3, h4, by rw [h5]; exact fin⟩
    · exact .inr (.inl ⟨p, xs, h1, h2, h3, h4, by simp only [h5]; exact fin⟩)
    · exact .inr (.inr ⟨a, o, h1, h2, by simp only [h3]; exact fin⟩)

/-! ### subscripts -/
def ofO {α : Type} : Option α → R α
  | some a => .ok a
  | none => .bad
theorem ofO_ok {α : Type} {o : Option α} {z : α} (h : ofO o = .ok z) : o = some z := by cases o <;> cases h; rfl
theorem ofO_ex {α : Type} {o : Option α} {c : Str} : ofO o ≠ .ex c := fun h => by cases o <;> cases h
def oIx : D → D → R D
  | .lst xs, .int i => ofO (atI xs i)
  | .tup xs, .int i => ofO (atI xs i)
  | .scr ns, .int i => ofO ((atI ns i).map D.int)
  | .str z, .int i => if z.length ≤ 1000000 then ofO ((atI z.cps.toList i).map fun c => D.str ⟨#[c]⟩) else .bad
  | _, _ => .bad
theorem noEx_oIx : noEx oIx := fun d e c h => by
  cases d <;> cases e <;> simp only [oIx] at h <;> first | (cases h; done) | exact ofO_ex h | (split at h <;> first | exact ofO_ex h | cases h)
theorem atI_rp {K : PySem.W.Frag} {F : Hp} {vs : List V} {ds : List D} {i : Int} {d : D} (r : RpAll K F vs ds) (h : atI ds i = some d) : ∃ v, atI vs i = some v ∧ Rp K F v d := by
  unfold atI at h ⊢
  rw [r.length]
  cases e : ixN ds.length i with
  | none => rw [e] at h; cases h
  | some j =>
    rw [e] at h
    exact r.get h
theorem atI_map {α β : Type} (f : α → β) (xs : List α) (i : Int) : atI (xs.map f) i = (atI xs i).map f := by
  unfold atI
  rw [List.length_map]
  cases ixN xs.length i with
  | none => rfl
  | some j => exact List.getElem?_map
theorem ob_ix : OpB L (rIx L.K) oIx := by
  intro F H v w d e z Q s r1 r2 hz q
  cases d <;> cases e <;> simp only [oIx] at hz <;> first | (cases hz; done) | skip
  · rename_i x i
    cases r1.str; cases r2.int
    by_cases hc : x.length ≤ 1000000
    · rw [if_pos hc] at hz
      have h1 := ofO_ok hz
      cases e1 : atI x.cps.toList i with
      | none => rw [e1] at h1; cases h1
      | some c =>
        rw [e1] at h1; cases h1
        exact .inr (.inr ⟨x, i, c, rfl, rfl, line6 hc, e1, q _ F H (Grow.refl s) (.str _)⟩)
    · rw [if_neg hc] at hz; cases hz
  · rename_i xs i
    obtain ⟨p, vs, rfl, hp, ra⟩ := r1.tup
    cases r2.int
    obtain ⟨u, h1, h2⟩ := atI_rp ra (ofO_ok hz)
    exact .inr (.inl ⟨p, vs, i, u, rfl, rfl, .inl (.inl (s _ _ hp)), h1, q _ F H (Grow.refl s) h2⟩)
  · rename_i xs i
    obtain ⟨p, vs, rfl, hp, ra⟩ := r1.lst s
    cases r2.int
    obtain ⟨u, h1, h2⟩ := atI_rp ra (ofO_ok hz)
    exact .inl ⟨p, vs, i, u, rfl, rfl, .inl (.inl hp), h1, q _ F H (Grow.refl s) h2⟩
  · rename_i ns i
    obtain ⟨p, rfl, hp⟩ := r1.scr s
    cases r2.int
    have h1 := ofO_ok hz
    cases e1 : atI ns i with
    | none => rw [e1] at h1; cases h1
    | some n =>
      rw [e1] at h1; cases h1
      exact .inl ⟨p, _, i, .int n, rfl, rfl, hp, by rw [atI_map, e1]; rfl, q _ F H (Grow.refl s) (.int n)⟩
variable {a b : Expr} {ma mb : Rho → R D} {pos : Pos}
theorem v_ix (hK : L.K = X.K) (ha : PB X L a ma) (hb : PB X L b mb) (hs : PlainIx b := by exact fun _ _ => rfl) : PV X L (.Subscript a b pos) (mBin oIx ma mb) :=
  (pe_ix ix_seq ha hb hs).imp fun σ H Q => tOp_of (hK ▸ ob_ix) noEx_oIx σ H Q
/-- d[k] of a dict -/
def lookI (k : Int) : List Int → List D → Option D
  | j :: ks, d :: ds => if k = j then some d else lookI k ks ds
  | _, _ => none
def oDget : D → D → R D
  | .dic ks ds, .int k => ofO (lookI k ks ds)
  | _, _ => .bad
theorem lookI_valV {K : PySem.W.Frag} {F : Hp} : ∀ {kvs : List (Key × V)} {ks : List Int} {ds : List D} {k : Int} {d : D}, kvs.map (·.1) = ks.map Sum.inl → RpAll K F (kvs.map (·.2)) ds → lookI k ks ds = some d → ∃ v, valV kvs (.inl k) = some v ∧ Rp K F v d
  | [], [], _, k, d, _, r, h => by cases r; cases h
  | [], _ :: _, _, k, d, e, _, _ => by cases e
  | _ :: _, [], _, k, d, e, _, _ => by cases e
  | p :: kvs, j :: ks, ds, k, d, e, r, h => by
    have h1 : p.1 = Sum.inl j := (List.cons.inj e).1
    have h2 := (List.cons.inj e).2
    cases ds with
    | nil => cases h
    | cons d' ds =>
      cases r with
      | cons r1 r2 =>
        unfold lookI at h
        by_cases ek : k = j
        · rw [if_pos ek] at h
          cases h
          exact ⟨p.2, valV_pos (by rw [h1, ek]), r1⟩
        · rw [if_neg ek] at h
          obtain ⟨v, h3, h4⟩ := lookI_valV h2 r2 h
          exact ⟨v, by rw [valV_neg (by rw [h1]; intro z; exact ek (Sum.inl.inj z).symm)]; exact h3, h4⟩
theorem v_dget {k : Nat} (hr : Room k X.A) (ha : PB X L a ma) (hb : PB X L b mb) (hs : NoSl b := by exact fun _ _ => rfl) : PV X L (.Subscript a b pos) (mBin oDget ma mb) := (pe_dget (hu_of hr) ha hb hs).imp fun σ H Q ⟨F, ρ, rr, q⟩ => by
  refine TM.go rr q fun d v F1 H1 g1 r1 q1 => ?_
  refine TM.go (rr.grow g1) q1 fun e w F2 H2 g2 r2 q2 => ?_
  cases d <;> cases e <;> simp only [oDget] at q2 <;> first | exact q2.elim | skip
  rename_i ks ds i
  obtain ⟨p, kvs, rfl, hp, ek, ra⟩ := (r1.grow g2).dic g2.fh
  cases r2.int
  cases el : lookI i ks ds with
  | none => rw [el] at q2; exact q2.elim
  | some d =>
    rw [el] at q2
    obtain ⟨v, h1, h2⟩ := lookI_valV ek ra el
    refine ⟨p, v, rfl, ?_, q2 v F2 H2 (g1.trans g2) h2⟩
    rw [← h1]
    exact DGet.k (k := Sum.inl i) hp

/-! ### slices -/
def cutD (xs : List D) (lo hi : Option Int) : List D := (xs.drop (HT.sIx xs.length 0 lo)).take (HT.sIx xs.length xs.length hi - HT.sIx xs.length 0 lo)
theorem cut_rp {K : PySem.W.Frag} {F : Hp} {vs : List V} {ds : List D} (r : RpAll K F vs ds) (lo hi : Option Int) : RpAll K F (cutV vs lo hi) (cutD ds lo hi) := by
  unfold cutV cutD
  rw [r.length]
  exact (r.drop _).take _
def oSl (d : D) (lo hi : Option Int) : R D := match d with
  | .tup xs => .ok (.tup (cutD xs lo hi))
  | .lst xs => .ok (.lst (cutD xs lo hi))
  | _ => .bad
def TO' (L : Lv) (m : Rho → R (Option Int)) : TO := fun σ H Q => ∃ F ρ, Rep L.K L.F0 L.H0 F H σ ρ ∧ Post L σ H (m ρ) fun o => ∀ F' H', Grow F H F' H' → Q o H'
abbrev PVo (X : Cx) (L : Lv) (e : Option Expr) (m : Rho → R (Option Int)) : Prop := PO X e (TO' L m)
theorem _root_.L2.PO.imp {X : Cx} {e : Option Expr} {t t' : TO} (h : PO X e t) (k : ∀ σ H Q, t' σ H Q → t σ H Q) : PO X e t' := ⟨fun pins s σ H Q I q => h.run pins s σ H Q I (k σ H Q q)⟩
def mNoPart : Rho → R (Option Int) := fun _ => .ok none
def mPart (m : Rho → R D) : Rho → R (Option Int) := fun ρ => (m ρ).bind fun d => match d with
  | .int i => .ok (some i)
  | _ => .bad
theorem o_none : PVo X L none mNoPart := po_none.imp fun σ H Q ⟨F, ρ, rr, q⟩ => q F H (Grow.refl rr.sub)
theorem o_some (h : PB X L a ma) : PVo X L (some a) (mPart ma) := (po_some h).imp fun σ H Q ⟨F, ρ, rr, q⟩ => by
  refine TM.go rr q fun d v F1 H1 g1 r1 q1 => ?_
  cases d <;> simp only [] at q1 <;> first | exact q1.elim | skip
  cases r1.int
  exact ⟨_, rfl, q1 F1 H1 g1⟩
theorem TO'.go {β : Type} {σ : L2.St} {F H : Hp} {ρ : Rho} {m : Rho → R (Option Int)} {f : Option Int → R β} {C : β → Prop} {Q : Option Int → Hp → Prop} (r : Rep L.K L.F0 L.H0 F H σ ρ) (h : Post L σ H ((m ρ).bind f) C)
    (k : ∀ o F' H', Grow F H F' H' → Post L σ H' (f o) C → Q o H') : TO' L m σ H Q :=
  ⟨F, ρ, r, h.bind.mono (Same.refl H) fun o _ q F' H' g => k o F' H' g (q.mono g.hh fun _ _ z => z)⟩
def mSl (m : Rho → R D) (ml mh : Rho → R (Option Int)) : Rho → R D := fun ρ => (m ρ).bind fun d => (ml ρ).bind fun lo => (mh ρ).bind fun hi => oSl d lo hi
theorem sIx_whole {xs : List D} {lo hi : Option Int} (h : HT.sIx xs.length 0 lo = 0 ∧ HT.sIx xs.length xs.length hi = xs.length) : cutD xs lo hi = xs := by
  unfold cutD
  rw [h.1, h.2, List.drop_zero, Nat.sub_zero, List.take_length]
theorem v_slice {lo hi : Option Expr} {ml mh : Rho → R (Option Int)} {p2 : Pos} (hK : L.K = X.K) (ha : PB X L a ma) (hl : PVo X L lo ml) (hh : PVo X L hi mh) : PV X L (.Subscript a (.Slice lo hi none p2) pos) (mSl ma ml mh) :=
  (pe_slice (sl_tupA.or sl_list) ha hl hh).imp fun σ H Q ⟨F, ρ, rr, q⟩ => by
    refine TM.go rr q fun d v F1 H1 g1 r1 q1 => ?_
    refine TO'.go (rr.grow g1) q1 fun lo F2 H2 g2 q2 => ?_
    refine TO'.go (rr.grow (g1.trans g2)) q2 fun hi F3 H3 g3 q3 => ?_
    have r3 := (r1.grow g2).grow g3
    cases d <;> simp only [oSl] at q3 <;> first | exact q3.elim | skip
    · rename_i xs
      obtain ⟨p, vs, rfl, hp, ra⟩ := r3.tup
      refine .inl ⟨p, vs, rfl, .inl (.inl (g3.fh _ _ hp)), fun hw => ?_, fun _ l hl => ?_⟩
      · rw [ra.length] at hw
        rw [sIx_whole hw] at q3
        exact q3 _ F3 H3 ((g1.trans g2).trans g3) (.tup hp ra)
      · exact q3 _ _ _ (((g1.trans g2).trans g3).trans (Grow.frozen g3.fh hl)) (.tup upd_same ((cut_rp ra lo hi).mono (upd_new (g3.fh.free hl))))
    · rename_i xs
      obtain ⟨p, vs, rfl, hp, ra⟩ := r3.lst g3.fh
      exact .inr ⟨p, vs, rfl, .inl (.inl hp), fun l hl => q3 _ _ _ (((g1.trans g2).trans g3).trans (Grow.frozen g3.fh hl)) (.lst upd_same ((cut_rp ra lo hi).mono (upd_new (g3.fh.free hl))))⟩

/-! ### packaged operators -/
theorem v_eq {k : Nat} (hK : L.K = X.K) (hr : Room k X.A) (ha : PB X L a ma) (hb : PB X L b mb) : PV X L (.Compare a [.Eq] [b] pos) (mBin oEq ma mb) := v_cmp (or_eq hr) (hK ▸ ob_eq) noEx_oEq ha hb (nomark _)
theorem v_ne {k : Nat} (hK : L.K = X.K) (hr : Room k X.A) (ha : PB X L a ma) (hb : PB X L b mb) : PV X L (.Compare a [.NotEq] [b] pos) (mBin oNe ma mb) := v_cmp (or_ne hr) (hK ▸ ob_ne) noEx_oNe ha hb (nomark _)
theorem v_lt (ha : PB X L a ma) (hb : PB X L b mb) : PV X L (.Compare a [.Lt] [b] pos) (mBin oLt ma mb) := v_cmp op_lt ob_lt noEx_oLt ha hb (nomark _)
theorem v_gt (ha : PB X L a ma) (hb : PB X L b mb) : PV X L (.Compare a [.Gt] [b] pos) (mBin oGt ma mb) := v_cmp op_gt ob_gt noEx_oGt ha hb (nomark _)
theorem v_le {k : Nat} (hK : L.K = X.K) (hr : Room k X.A) (ha : PB X L a ma) (hb : PB X L b mb) : PV X L (.Compare a [.LtE] [b] pos) (mBin oLe ma mb) := v_cmp (or_le hr) (hK ▸ ob_le) noEx_oLe ha hb (nomark _)
theorem v_ge {k : Nat} (hK : L.K = X.K) (hr : Room k X.A) (ha : PB X L a ma) (hb : PB X L b mb) : PV X L (.Compare a [.GtE] [b] pos) (mBin oGe ma mb) := v_cmp (or_ge hr) (hK ▸ ob_ge) noEx_oGe ha hb (nomark _)
theorem v_in {k : Nat} (hK : L.K = X.K) (hr : Room k X.A) (ha : PB X L a ma) (hb : PB X L b mb) (hm : behindInMarks .In b = false := by rfl) : PV X L (.Compare a [.In] [b] pos) (mBin oIn ma mb) := v_cmp (or_in hr) (hK ▸ ob_in) noEx_oIn ha hb hm
theorem v_notIn {k : Nat} (hK : L.K = X.K) (hr : Room k X.A) (ha : PB X L a ma) (hb : PB X L b mb) (hm : behindInMarks .NotIn b = false := by rfl) : PV X L (.Compare a [.NotIn] [b] pos) (mBin oNotIn ma mb) := v_cmp (or_notIn hr) (hK ▸ ob_notIn) noEx_oNotIn ha hb hm
theorem q_eq {k : Nat} (hK : L.K = X.K) (hr : Room k X.A) (ha : PB X L a ma) (hb : PB X L b mb) : PQ X L (.Compare a [.Eq] [b] pos) (mT (mBin oEq ma mb)) := q_cmp (or_eq hr) (hK ▸ ob_eq) noEx_oEq ha hb (nomark _)
theorem q_ne {k : Nat} (hK : L.K = X.K) (hr : Room k X.A) (ha : PB X L a ma) (hb : PB X L b mb) : PQ X L (.Compare a [.NotEq] [b] pos) (mT (mBin oNe ma mb)) := q_cmp (or_ne hr) (hK ▸ ob_ne) noEx_oNe ha hb (nomark _)
theorem q_lt (ha : PB X L a ma) (hb : PB X L b mb) : PQ X L (.Compare a [.Lt] [b] pos) (mT (mBin oLt ma mb)) := q_cmp op_lt ob_lt noEx_oLt ha hb (nomark _)
theorem q_gt (ha : PB X L a ma) (hb : PB X L b mb) : PQ X L (.Compare a [.Gt] [b] pos) (mT (mBin oGt ma mb)) := q_cmp op_gt ob_gt noEx_oGt ha hb (nomark _)
theorem q_le {k : Nat} (hK : L.K = X.K) (hr : Room k X.A) (ha : PB X L a ma) (hb : PB X L b mb) : PQ X L (.Compare a [.LtE] [b] pos) (mT (mBin oLe ma mb)) := q_cmp (or_le hr) (hK ▸ ob_le) noEx_oLe ha hb (nomark _)
theorem q_ge {k : Nat} (hK : L.K = X.K) (hr : Room k X.A) (ha : PB X L a ma) (hb : PB X L b mb) : PQ X L (.Compare a [.GtE] [b] pos) (mT (mBin oGe ma mb)) := q_cmp (or_ge hr) (hK ▸ ob_ge) noEx_oGe ha hb (nomark _)
theorem q_in {k : Nat} (hK : L.K = X.K) (hr : Room k X.A) (ha : PB X L a ma) (hb : PB X L b mb) (hm : behindInMarks .In b = false := by rfl) : PQ X L (.Compare a [.In] [b] pos) (mT (mBin oIn ma mb)) := q_cmp (or_in hr) (hK ▸ ob_in) noEx_oIn ha hb hm
theorem q_notIn {k : Nat} (hK : L.K = X.K) (hr : Room k X.A) (ha : PB X L a ma) (hb : PB X L b mb) (hm : behindInMarks .NotIn b = false := by rfl) : PQ X L (.Compare a [.NotIn] [b] pos) (mT (mBin oNotIn ma mb)) := q_cmp (or_notIn hr) (hK ▸ ob_notIn) noEx_oNotIn ha hb hm
theorem v_add (hK : L.K = X.K) (ha : PB X L a ma) (hb : PB X L b mb) : PV X L (.BinOp a .Add b pos) (mBin oAdd ma mb) := v_bin or_add (hK ▸ ob_add) noEx_oAdd ha hb
theorem v_sub (ha : PB X L a ma) (hb : PB X L b mb) : PV X L (.BinOp a .Sub b pos) (mBin oSub ma mb) := v_bin op_sub ob_sub noEx_oSub ha hb
theorem v_mul (ha : PB X L a ma) (hb : PB X L b mb) : PV X L (.BinOp a .Mult b pos) (mBin oMul ma mb) := v_bin or_mul ob_mul noEx_oMul ha hb
theorem v_mod (ha : PB X L a ma) (hb : PB X L b mb) : PV X L (.BinOp a .Mod b pos) (mBin oMod ma mb) := v_bin op_mod ob_mod noEx_oMod ha hb
theorem v_div (ha : PB X L a ma) (hb : PB X L b mb) : PV X L (.BinOp a .FloorDiv b pos) (mBin oDiv ma mb) := v_bin op_fdiv ob_div noEx_oDiv ha hb
theorem v_pow (ha : PB X L a ma) (hb : PB X L b mb) : PV X L (.BinOp a .Pow b pos) (mBin oPow ma mb) := v_bin op_pow ob_pow noEx_oPow ha hb
variable {c : Expr} {mc : Rho → R D}
/-- a <= b <= c -/
theorem v_lele {k : Nat} (hK : L.K = X.K) (hr : Room k X.A) (ha : PB X L a ma) (hb : PB X L b mb) (hc : PB X L c mc) (hm : lastMarks [.LtE, .LtE] [b, c] = false := by with_unfolding_all rfl) :
    PV X L (.Compare a [.LtE, .LtE] [b, c] pos) (mChain oLe oLe ma mb mc) := (pe_chain (or_le hr) (or_le hr) ha hb hc hm).imp fun σ H Q q => tChain_of (hK ▸ ob_le) (hK ▸ ob_le) noEx_oLe noEx_oLe σ H Q q
theorem q_lele {k : Nat} (hK : L.K = X.K) (hr : Room k X.A) (ha : PB X L a ma) (hb : PB X L b mb) (hc : PB X L c mc) (hm : lastMarks [.LtE, .LtE] [b, c] = false := by with_unfolding_all rfl) :
    PQ X L (.Compare a [.LtE, .LtE] [b, c] pos) (mT (mChain oLe oLe ma mb mc)) := (pt_chain (or_le hr) (or_le hr) ha hb hc hm).imp fun σ H Q q => tTest_of (fun σ H Q => tChain_of (hK ▸ ob_le) (hK ▸ ob_le) noEx_oLe noEx_oLe σ H Q) σ H Q q
end
end VL

/-! VL5: built-in calls on data. -/
namespace VL
open PySem PySem.Spec PyProof.Rows L2
section
variable {X : Cx} {L : Lv}
/-- f is what the call r does, on data -/
def CaB (L : Lv) (r : List V → Hp → VK → Prop) (f : List D → R D) : Prop := ∀ (F H : Hp) (vs : List V) (ds : List D) (z : D) (Q : VK), Same F H → RbAll L.K F H vs ds → f ds = .ok z → (∀ u F' H', Grow F H F' H' → Rp L.K F' u z → Q u H') → r vs H Q
def noExC (f : List D → R D) : Prop := ∀ ds c, f ds ≠ .ex c
def mCall (f : List D → R D) (m : Rho → R (List D)) : Rho → R D := fun ρ => (m ρ).bind f
theorem tCB_of {r : List V → Hp → VK → Prop} {f : List D → R D} {m : Rho → R (List D)} (hf : CaB L r f) (hx : noExC f) (σ : L2.St) (H : Hp) (Q : VK) (h : TM L (relV L) (mCall f m) σ H Q) :
    tCB r (TL L (fun F H vs ds => RbAll L.K F H vs ds) m) σ H Q := by
  obtain ⟨F, ρ, rr, q⟩ := h
  refine TL.go rr q fun ds vs F1 H1 g1 r1 q1 => ?_
  cases ef : f ds with
  | bad => rw [ef] at q1; exact q1.elim
  | ex c => exact (hx ds c ef).elim
  | ok z =>
    rw [ef] at q1
    exact hf F1 H1 vs ds z Q g1.fh r1 ef fun u F' H' g => q1 u F' H' (g1.trans g)
variable {e : Expr} {es : List Expr} {m : Rho → R (List D)} {x : Str} {p pos : Pos}
theorem v_b {id : String} {r : List V → Hp → VK → Prop} {f : List D → R D} (hc : CallR X (.builtin id) r) (hf : CaB L r f) (hx : noExC f) (hm : X.mg x = none) (hv : bootBuiltins x = some (.builtin id)) (ha : PAB X L (e :: es) m) (hg : Gl X x := by rfl)
    (hn : x ≠ "__name__" := by decide) (hdb : (x == ("__debug__" : Str)) = false := by decide)
    (he : starEach (e :: es) X.env = (false, eval e X.env) :: starEach es X.env := by rfl) (hpl : (backTo pos (starEach es X.env)).any (·.1) = false := by rfl) : PV X L (.Call (.Name x p) (e :: es) [] pos) (mCall f m) :=
  (pe_callB hc hg hm hv ha hn hdb he hpl).imp fun σ H Q => tCB_of hf hx σ H Q
theorem v_bt {T : String} {r : List V → Hp → VK → Prop} {f : List D → R D} (hc : CallR X (.type T) r) (hf : CaB L r f) (hx : noExC f) (hm : X.mg x = none) (hv : bootBuiltins x = some (.type T)) (ha : PAB X L (e :: es) m) (hg : Gl X x := by rfl)
    (hn : x ≠ "__name__" := by decide) (hdb : (x == ("__debug__" : Str)) = false := by decide)
    (he : starEach (e :: es) X.env = (false, eval e X.env) :: starEach es X.env := by rfl) (hpl : (backTo pos (starEach es X.env)).any (·.1) = false := by rfl) : PV X L (.Call (.Name x p) (e :: es) [] pos) (mCall f m) :=
  (pe_callTy hc hg hm hv ha hn hdb he hpl).imp fun σ H Q => tCB_of hf hx σ H Q

/-! ### len, abs, min, max of two, int -/
def fLen : List D → R D
  | [.str y] => if y.length ≤ 1000000 then .ok (.int y.length) else .bad
  | [.tup xs] => .ok (.int xs.length)
  | [.lst xs] => .ok (.int xs.length)
  | [.scr xs] => .ok (.int xs.length)
  | _ => .bad
def fAbs : List D → R D
  | [.int i] => .ok (.int (if i < 0 then -i else i))
  | _ => .bad
def fMin2 : List D → R D
  | [.int i, .int j] => .ok (.int (if j < i then j else i))
  | _ => .bad
def fMax2 : List D → R D
  | [.int i, .int j] => .ok (.int (if j > i then j else i))
  | _ => .bad
def fInt : List D → R D
  | [.int i] => .ok (.int i)
  | [.bl k] => .ok (.int (if k then 1 else 0))
  | _ => .bad
theorem noEx_fLen : noExC fLen := fun ds c h => by unfold fLen at h; split at h <;> first | (cases h; done) | (split at h <;> cases h)
theorem noEx_fAbs : noExC fAbs := fun ds c h => by unfold fAbs at h; split at h <;> cases h
theorem noEx_fMin2 : noExC fMin2 := fun ds c h => by unfold fMin2 at h; split at h <;> cases h
theorem noEx_fMax2 : noExC fMax2 := fun ds c h => by unfold fMax2 at h; split at h <;> cases h
theorem noEx_fInt : noExC fInt := fun ds c h => by unfold fInt at h; split at h <;> cases h
theorem RbAll.one {K : PySem.W.Frag} {F H : Hp} {vs : List V} {d : D} (r : RbAll K F H vs [d]) : ∃ v, vs = [v] ∧ Rb K F H v d := by
  cases r with | cons h t => cases t; exact ⟨_, rfl, h⟩
theorem RbAll.two {K : PySem.W.Frag} {F H : Hp} {vs : List V} {d e : D} (r : RbAll K F H vs [d, e]) : ∃ v w, vs = [v, w] ∧ Rb K F H v d ∧ Rb K F H w e := by
  cases r with | cons h t => obtain ⟨w, rfl, h2⟩ := RbAll.one t; exact ⟨_, _, rfl, h, h2⟩
theorem ca_len : CaB L (fun xs H Q => ∃ x n, xs = [x] ∧ LenV L.K x H n ∧ Q (.int n) H) fLen := by
  intro F H vs ds z Q s r hz q
  unfold fLen at hz
  split at hz
  · rename_i y
    obtain ⟨v, rfl, r1⟩ := r.one
    cases r1.str
    by_cases hc : y.length ≤ 1000000
    · rw [if_pos hc] at hz; cases hz
      exact ⟨_, _, rfl, ⟨line6 hc, rfl⟩, q _ F H (Grow.refl s) (.int _)⟩
    · rw [if_neg hc] at hz; cases hz
  · obtain ⟨v, rfl, r1⟩ := r.one
    obtain ⟨p, vs, rfl, hp, ra⟩ := r1.tup
    cases hz
    exact ⟨_, _, rfl, .inr ⟨vs, .inl (.inl (s _ _ hp)), rfl⟩, by rw [ra.length]; exact q _ F H (Grow.refl s) (.int _)⟩
  · obtain ⟨v, rfl, r1⟩ := r.one
    obtain ⟨p, vs, rfl, hp, ra⟩ := r1.lst s
    cases hz
    exact ⟨_, _, rfl, .inl ⟨vs, .inl (.inl hp), rfl⟩, by rw [ra.length]; exact q _ F H (Grow.refl s) (.int _)⟩
  · obtain ⟨v, rfl, r1⟩ := r.one
    obtain ⟨p, rfl, hp⟩ := r1.scr s
    cases hz
    exact ⟨_, _, rfl, .inl ⟨_, hp, rfl⟩, by rw [List.length_map]; exact q _ F H (Grow.refl s) (.int _)⟩
  · cases hz
theorem ca_abs : CaB L (fun xs H Q => ∃ i, xs = [.int i] ∧ Q (.int (if i < 0 then -i else i)) H) fAbs := by
  intro F H vs ds z Q s r hz q
  unfold fAbs at hz
  split at hz
  · obtain ⟨v, rfl, r1⟩ := r.one
    cases r1.int; cases hz
    exact ⟨_, rfl, q _ F H (Grow.refl s) (.int _)⟩
  · cases hz
theorem ca_min2 : CaB L (fun xs H Q => ∃ i j, xs = [.int i, .int j] ∧ Q (.int (if j < i then j else i)) H) fMin2 := by
  intro F H vs ds z Q s r hz q
  unfold fMin2 at hz
  split at hz
  · obtain ⟨v, w, rfl, r1, r2⟩ := r.two
    cases r1.int; cases r2.int; cases hz
    exact ⟨_, _, rfl, q _ F H (Grow.refl s) (.int _)⟩
  · cases hz
theorem ca_max2 : CaB L (fun xs H Q => ∃ i j, xs = [.int i, .int j] ∧ Q (.int (if j > i then j else i)) H) fMax2 := by
  intro F H vs ds z Q s r hz q
  unfold fMax2 at hz
  split at hz
  · obtain ⟨v, w, rfl, r1, r2⟩ := r.two
    cases r1.int; cases r2.int; cases hz
    exact ⟨_, _, rfl, q _ F H (Grow.refl s) (.int _)⟩
  · cases hz
theorem ca_int : CaB L (fun xs H Q => (∃ i, xs = [.int i] ∧ Q (.int i) H) ∨ ∃ k, xs = [.bl k] ∧ Q (.int (if k then 1 else 0)) H) fInt := by
  intro F H vs ds z Q s r hz q
  unfold fInt at hz
  split at hz
  · obtain ⟨v, rfl, r1⟩ := r.one
    cases r1.int; cases hz
    exact .inl ⟨_, rfl, q _ F H (Grow.refl s) (.int _)⟩
  · obtain ⟨v, rfl, r1⟩ := r.one
    cases r1.bl; cases hz
    exact .inr ⟨_, rfl, q _ F H (Grow.refl s) (.int _)⟩
  · cases hz

/-! ### sum -/
def fSum : List D → R D
  | [.lst xs] => intsOk (fun ns => .ok (.int ns.sum)) xs
  | [.tup xs] => intsOk (fun ns => .ok (.int ns.sum)) xs
  | _ => .bad
theorem noEx_fSum : noExC fSum := fun ds c h => by
  unfold fSum at h
  split at h <;> first | (cases h; done) | exact intsOk_ex (fun ns => by intro h; cases h) h
def rSumT (K : PySem.W.Frag) : List V → Hp → VK → Prop := fun vs H Q => ∃ (a : Addr) (ns : List Int), vs = [V.ref a] ∧ SqT K H a (ns.map V.int) ∧ Q (.int ns.sum) H
theorem cr_sumT (hc : X.calm = true) : CallR X (.builtin "sum") (rSumT X.K) := by
  intro pins s σ H vs us Q I r h
  obtain ⟨a, ns, rfl, hs, q⟩ := h
  cases Vals.ref1 r
  obtain ⟨its, rv, ht, _⟩ := I.tuple hs
  have hi : IntsAre its ns := Vals.ints rv
  obtain ⟨xs, e⟩ := hi.allInts.items
  have hn : numsOf (intItems xs).toList = ns := by rw [← e]; exact hi.numsOf
  rw [nums_intItems] at hn
  have ht' : s.heap.IsTuple a (intItems xs) := by rw [← e]; exact ht
  refine PySem.W.ktm_sumG (I.ok.hd hc) ht' fun h' tk t' hk => ?_
  rw [preSum_eq, List.take_of_length_le (by simp), hn]
  exact ⟨.int ns.sum, H, I.kept hk, ⟨_, rfl⟩, q⟩
theorem ca_sum : CaB L (fun vs H Q => rSum L.K vs H Q ∨ rSumT L.K vs H Q) fSum := by
  intro F H vs ds z Q s r hz q
  unfold fSum at hz
  split at hz
  · obtain ⟨v, rfl, r1⟩ := r.one
    obtain ⟨ns, rfl, h2⟩ := intsOk_ok hz
    cases h2
    obtain ⟨p, vs, rfl, hp, ra⟩ := r1.lst s
    cases ra.ints
    exact .inl ⟨p, ns, rfl, .inl (.inl hp), q _ F H (Grow.refl s) (.int _)⟩
  · obtain ⟨v, rfl, r1⟩ := r.one
    obtain ⟨ns, rfl, h2⟩ := intsOk_ok hz
    cases h2
    obtain ⟨p, vs, rfl, hp, ra⟩ := r1.tup
    cases ra.ints
    exact .inr ⟨p, ns, rfl, .inl (.inl (s _ _ hp)), q _ F H (Grow.refl s) (.int _)⟩
  · cases hz

/-! ### max, min of one list of ints -/
def maxI : List Int → Int
  | [] => 0
  | [n] => n
  | n :: m :: r => max n (maxI (m :: r))
def minI : List Int → Int
  | [] => 0
  | [n] => n
  | n :: m :: r => min n (minI (m :: r))
theorem maxI_of : ∀ {ns : List Int} {m : Int}, m ∈ ns → (∀ y, y ∈ ns → y ≤ m) → m = maxI ns
  | [], _, h, _ => by cases h
  | [n], m, h, _ => by simpa [maxI] using h
  | n :: k :: r, m, h, hle => by
    rw [maxI]
    rcases List.mem_cons.mp h with e | h2
    · subst e
      have hm : maxI (k :: r) ∈ k :: r := by
        clear h hle
        induction r generalizing k with
        | nil => simp [maxI]
        | cons j r ih =>
          rw [maxI]
          rcases Int.le_total k (maxI (j :: r)) with z | z
          · rw [Int.max_eq_right z]; exact List.mem_cons_of_mem _ (ih j)
          · rw [Int.max_eq_left z]; exact List.mem_cons_self
      rw [Int.max_eq_left (hle _ (List.mem_cons_of_mem _ hm))]
    · have ih := maxI_of h2 fun y hy => hle y (List.mem_cons_of_mem _ hy)
      rw [← ih, Int.max_eq_right (hle n List.mem_cons_self)]
theorem minI_of : ∀ {ns : List Int} {m : Int}, m ∈ ns → (∀ y, y ∈ ns → m ≤ y) → m = minI ns
  | [], _, h, _ => by cases h
  | [n], m, h, _ => by simpa [minI] using h
  | n :: k :: r, m, h, hle => by
    rw [minI]
    rcases List.mem_cons.mp h with e | h2
    · subst e
      have hm : minI (k :: r) ∈ k :: r := by
        clear h hle
        induction r generalizing k with
        | nil => simp [minI]
        | cons j r ih =>
          rw [minI]
          rcases Int.le_total k (minI (j :: r)) with z | z
          · rw [Int.min_eq_left z]; exact List.mem_cons_self
          · rw [Int.min_eq_right z]; exact List.mem_cons_of_mem _ (ih j)
      rw [Int.min_eq_left (hle _ (List.mem_cons_of_mem _ hm))]
    · have ih := minI_of h2 fun y hy => hle y (List.mem_cons_of_mem _ hy)
      rw [← ih, Int.min_eq_right (hle n List.mem_cons_self)]
def fMax1 : List D → R D
  | [.lst xs] => intsOk (fun ns => if ns = [] then .bad else .ok (.int (maxI ns))) xs
  | _ => .bad
def fMin1 : List D → R D
  | [.lst xs] => intsOk (fun ns => if ns = [] then .bad else .ok (.int (minI ns))) xs
  | _ => .bad
theorem noEx_fMax1 : noExC fMax1 := fun ds c h => by
  unfold fMax1 at h
  split at h <;> first | (cases h; done) | exact intsOk_ex (fun ns => by intro h; split at h <;> cases h) h
theorem noEx_fMin1 : noExC fMin1 := fun ds c h => by
  unfold fMin1 at h
  split at h <;> first | (cases h; done) | exact intsOk_ex (fun ns => by intro h; split at h <;> cases h) h
theorem ca_max1 : CaB L (rMax L.K) fMax1 := by
  intro F H vs ds z Q s r hz q
  unfold fMax1 at hz
  split at hz
  · obtain ⟨v, rfl, r1⟩ := r.one
    obtain ⟨ns, rfl, h2⟩ := intsOk_ok hz
    by_cases hn : ns = []
    · rw [if_pos hn] at h2; cases h2
    · rw [if_neg hn] at h2; cases h2
      obtain ⟨p, vs, rfl, hp, ra⟩ := r1.lst s
      cases ra.ints
      refine ⟨p, ns, rfl, .inl (.inl hp), List.length_pos_iff.mpr hn, fun m h1 h2 => ?_⟩
      rw [maxI_of h1 h2]
      exact q _ F H (Grow.refl s) (.int _)
  · cases hz
theorem ca_min1 : CaB L (rMin L.K) fMin1 := by
  intro F H vs ds z Q s r hz q
  unfold fMin1 at hz
  split at hz
  · obtain ⟨v, rfl, r1⟩ := r.one
    obtain ⟨ns, rfl, h2⟩ := intsOk_ok hz
    by_cases hn : ns = []
    · rw [if_pos hn] at h2; cases h2
    · rw [if_neg hn] at h2; cases h2
      obtain ⟨p, vs, rfl, hp, ra⟩ := r1.lst s
      cases ra.ints
      refine ⟨p, ns, rfl, .inl (.inl hp), List.length_pos_iff.mpr hn, fun m h1 h2 => ?_⟩
      rw [minI_of h1 h2]
      exact q _ F H (Grow.refl s) (.int _)
  · cases hz

/-! ### tuple(x), list(x) -/
def fTuple : List D → R D
  | [.lst xs] => .ok (.tup xs)
  | [.tup xs] => .ok (.tup xs)
  | _ => .bad
def fList : List D → R D
  | [.lst xs] => .ok (.lst xs)
  | [.tup xs] => .ok (.lst xs)
  | _ => .bad
theorem noEx_fTuple : noExC fTuple := fun ds c h => by unfold fTuple at h; split at h <;> cases h
theorem noEx_fList : noExC fList := fun ds c h => by unfold fList at h; split at h <;> cases h
theorem ca_tuple : CaB L (fun xs H Q => ∃ p ys, xs = [.ref p] ∧ ((SqL L.K H p ys ∧ ∀ l, H l = none → Q (.ref l) (upd H l (.tup ys))) ∨ (SqT L.K H p ys ∧ Q (.ref p) H))) fTuple := by
  intro F H vs ds z Q s r hz q
  unfold fTuple at hz
  split at hz
  · obtain ⟨v, rfl, r1⟩ := r.one
    obtain ⟨p, vs, rfl, hp, ra⟩ := r1.lst s
    cases hz
    exact ⟨p, vs, rfl, .inl ⟨.inl (.inl hp), fun l hl => q _ _ _ (Grow.frozen s hl) (.tup upd_same (ra.mono (upd_new (s.free hl))))⟩⟩
  · obtain ⟨v, rfl, r1⟩ := r.one
    obtain ⟨p, vs, rfl, hp, ra⟩ := r1.tup
    cases hz
    exact ⟨p, vs, rfl, .inr ⟨.inl (.inl (s _ _ hp)), q _ F H (Grow.refl s) (.tup hp ra)⟩⟩
  · cases hz
theorem ca_list : CaB L (fun xs H Q => ∃ p ys, xs = [.ref p] ∧ (SqL L.K H p ys ∨ SqT L.K H p ys) ∧ ∀ l, H l = none → Q (.ref l) (upd H l (.lst ys))) fList := by
  intro F H vs ds z Q s r hz q
  unfold fList at hz
  split at hz
  · obtain ⟨v, rfl, r1⟩ := r.one
    obtain ⟨p, vs, rfl, hp, ra⟩ := r1.lst s
    cases hz
    exact ⟨p, vs, rfl, .inl (.inl (.inl hp)), fun l hl => q _ _ _ (Grow.frozen s hl) (.lst upd_same (ra.mono (upd_new (s.free hl))))⟩
  · obtain ⟨v, rfl, r1⟩ := r.one
    obtain ⟨p, vs, rfl, hp, ra⟩ := r1.tup
    cases hz
    exact ⟨p, vs, rfl, .inr (.inl (.inl (s _ _ hp))), fun l hl => q _ _ _ (Grow.frozen s hl) (.lst upd_same (ra.mono (upd_new (s.free hl))))⟩
  · cases hz

/-! ### sorted -/
def alikeB (xs : List D) : Bool := xs.all fun d => xs.all fun e => PySem.W.alike d.py e.py
def sortB (xs : List D) : Bool := (xs.all fun d => match d with
  | .tup (_ :: _) => true
  | _ => false) || xs.all fun d => match d with
  | .non => false
  | .tup _ => false
  | _ => true
def leD (d e : D) : Bool := PySem.W.dataLe false D.py d e
def fSorted : List D → R D
  | [.lst xs] => if (alikeB xs && (sortB xs && (sh (.lst xs) && decide (xs.length ≤ 1000000)))) = true then .ok (.lst (xs.mergeSort leD)) else .bad
  | _ => .bad
theorem noEx_fSorted : noExC fSorted := fun ds c h => by unfold fSorted at h; split at h <;> first | (cases h; done) | (split at h <;> cases h)
def rSortD (K : PySem.W.Frag) : List V → Hp → VK → Prop := fun vs H Q => ∃ (a : Addr) (F : Hp) (xs : List V) (ds : List D), vs = [V.ref a] ∧ Same F H ∧ H a = some (.lst xs) ∧ RpAll K F xs ds ∧ alikeB ds = true ∧ sortB ds = true ∧ sh (.lst ds) = true ∧ ds.length ≤ 1000000 ∧
  ∀ ys p, RpAll K F ys (ds.mergeSort leD) → H p = none → Q (.ref p) (upd H p (.lst ys))
theorem depthAll_mem : ∀ {ds : List D} {d : D}, d ∈ ds → d.py.depth ≤ PyData.depthAll (D.pys ds)
  | [], _, h => by cases h
  | e :: ds, d, h => by
    rw [D.pys, PyData.depthAll]
    rcases List.mem_cons.mp h with z | z
    · subst z; omega
    · have := depthAll_mem z; omega
theorem EachIs_rp {K : PySem.W.Frag} {F : Hp} : ∀ {vs : List V} {us : List Value} {ds : List D}, RpAll K F vs ds → Vals vs us → PySem.W.EachIs (fun u d => ∃ v, RelV v u ∧ Rp K F v d) us ds
  | _, _, _, .nil, .nil => .nil
  | _, _, _, .cons h r, .cons q t => .cons ⟨_, q, h⟩ (EachIs_rp r t)
theorem EachIs_back {K : PySem.W.Frag} {F : Hp} : ∀ {us : List Value} {ds : List D}, PySem.W.EachIs (fun u d => ∃ v, RelV v u ∧ Rp K F v d) us ds → ∃ vs, Vals vs us ∧ RpAll K F vs ds
  | _, _, .nil => ⟨[], .nil, .nil⟩
  | _, _, .cons h r => by
    obtain ⟨v, q, rp⟩ := h
    obtain ⟨vs, t, rr⟩ := EachIs_back r
    exact ⟨v :: vs, .cons q t, .cons rp rr⟩
theorem reads_each {pins : List (Addr × Obj)} {σ : L2.St} {H F : Hp} {s : Shared} (I : Inv X pins σ H s) (sm : Same F H) : ∀ {vs : List V} {us : List Value} {ds : List D}, RpAll X.K F vs ds → Vals vs us → PyData.canLayAll0 (D.pys ds) = true →
    PySem.W.EachIs (fun u d => ∃ as, Reads s.heap u (D.py d) as) us ds
  | _, _, _, .nil, .nil, _ => .nil
  | _, _, _, .cons h r, .cons q t, z => by
    have z' := z
    simp only [D.pys, PyData.canLayAll0, Bool.and_eq_true] at z'
    obtain ⟨as, hr⟩ := Dp.reads I _ _ _ (h.dp sm z'.1) q
    exact .cons ⟨as, hr⟩ (reads_each I sm r t z'.2)
theorem cr_sortD {k : Nat} (hr : Room k X.A) : CallR X (.builtin "sorted") (rSortD X.K) := by
  intro pins s σ H vs us Q I r h
  obtain ⟨a, F, xs, ds, rfl, sm, hs, ra, h1, h2, h3, h4, q⟩ := h
  cases Vals.ref1 r
  obtain ⟨its, rv, p, hz⟩ := I.list (.inl (.inl hs))
  have lay : PyData.canLayAll0 (D.pys ds) = true := by have := sh_lay h3; simpa [D.py, PyData.canLay0] using this
  have dep : PyData.depth (.list (D.pys ds)) ≤ 64 := SeqAt.depth_of_shaped h3
  have al : PySem.W.AllAlike (ds.map D.py) := fun d hd d' hd' => by
    obtain ⟨e, he, rfl⟩ := List.mem_map.mp hd
    obtain ⟨e', he', rfl⟩ := List.mem_map.mp hd'
    exact List.all_eq_true.mp (List.all_eq_true.mp h1 e he) e' he'
  have so : PySem.W.Sortable (ds.map D.py) := by
    unfold sortB at h2
    rw [Bool.or_eq_true] at h2
    rcases h2 with h2 | h2
    · refine .inl fun d hd => ?_
      obtain ⟨e, he, rfl⟩ := List.mem_map.mp hd
      have z := List.all_eq_true.mp h2 e he
      cases e with
      | tup ys =>
        cases ys with
        | nil => cases z
        | cons y ys => exact ⟨y.py, D.pys ys, by rw [D.py, D.pys]⟩
      | _ => cases z
    · refine .inr fun d hd => ?_
      obtain ⟨e, he, rfl⟩ := List.mem_map.mp hd
      have z := List.all_eq_true.mp h2 e he
      cases e <;> first | (cases z; done) | exact ⟨fun q => by simp [D.py] at q, fun _ q => by simp [D.py] at q⟩
  refine PySem.W.sorted_data (bs := ds) (enc := D.py) p.isList (EachIs_rp ra rv) (reads_each I sm ra rv lay) al so (by rw [sizeLine_eq]; omega) (fun b hb => ?_) fun out hl ho => ?_
  · have := depthAll_mem hb
    rw [PyData.depth] at dep
    have := hr.un
    omega
  · obtain ⟨ys, ry, rp⟩ := EachIs_back ho
    have hlen : ys.length ≤ sizeLine := by
      rw [ry.length, hl, sizeLine_eq]
      omega
    obtain ⟨ep, at_⟩ := PyProof.Rows.sortedAll_at s.heap its out.toArray
    exact ⟨.ref _, upd H (s.heap.objs.size + 1) (.lst ys), I.laid (t' := s.toks) (fun _ _ => PyProof.Rows.sortedAll_old) (Nat.le_succ _) ⟨hlen, out, ep, ry, at_⟩, rfl, q ys _ rp (I.hok.fresh (Nat.le_succ _))⟩
theorem ca_sorted : CaB L (rSortD L.K) fSorted := by
  intro F H vs ds z Q s r hz q
  unfold fSorted at hz
  split at hz
  · rename_i xs
    obtain ⟨v, rfl, r1⟩ := r.one
    obtain ⟨p, vs, rfl, hp, ra⟩ := r1.lst s
    by_cases hc : (alikeB xs && (sortB xs && (sh (.lst xs) && decide (xs.length ≤ 1000000)))) = true
    · rw [if_pos hc] at hz
      cases hz
      simp only [Bool.and_eq_true, decide_eq_true_eq] at hc
      exact ⟨p, F, vs, xs, rfl, s, hp, ra, hc.1, hc.2.1, hc.2.2.1, hc.2.2.2, fun ys l ry hl => q _ _ _ (Grow.frozen s hl) (.lst upd_same (ry.mono (upd_new (s.free hl))))⟩
    · rw [if_neg hc] at hz; cases hz
  · cases hz
/-! ### isinstance(x, T), T a built-in class -/
def tyName : D → String
  | .non => "NoneType"
  | .bl _ => "bool"
  | .int _ => "int"
  | .str _ => "str"
  | .tup _ => "tuple"
  | .lst _ => "list"
  | .dic _ _ => "dict"
  | .scr _ => "list"
def isT (T : String) (d : D) : R D := match d with
  | .scr _ => .bad
  | d => ofO ((kitB (tyName d) T).map D.bl)
theorem Rb.tyX {K : PySem.W.Frag} {F H : Hp} {v : V} {d : D} (s : Same F H) (r : Rb K F H v d) (hd : ∀ ns, d ≠ .scr ns) : TyX K H v (.type (tyName d)) := by
  rcases r with r | ⟨p, vs, xs, rfl, rfl, h, r⟩ | ⟨p, vs, ks, xs, rfl, rfl, h, e3, r⟩
  · cases r with
    | non => exact .base .non
    | bl b => exact .base (.bl b)
    | int i => exact .base (.int i)
    | str x => exact .base (.str x)
    | tup h r => exact .base (.tup (s _ _ h))
    | lst h r => exact .base (.lst (s _ _ h))
    | dic h e r => exact .base (.dK (s _ _ h))
    | scr h => exact absurd rfl (hd _)
  · exact .base (.lst h)
  · exact .base (.dK h)
def mIsi (T : String) (m : Rho → R D) : Rho → R D := fun ρ => (m ρ).bind (isT T)
theorem v_isi {a : Expr} {ma : Rho → R D} {T : Str} {Ts : String} {pT : Pos} (hK : L.K = X.K) (hm : X.mg "isinstance" = none) (hT : X.mg T = none) (hb : bootBuiltins T = some (.type Ts)) (ha : PB X L a ma) (hg : Gl X "isinstance" := by rfl) (hgT : Gl X T := by rfl)
    (hn : T ≠ "__name__" := by decide) (hdb : (T == ("__debug__" : Str)) = false := by decide)
    (hs1 : starEach [a, .Name T pT] X.env = (false, eval a X.env) :: starEach [.Name T pT] X.env := by rfl) (hs2 : starEach [.Name T pT] X.env = (false, eval (.Name T pT) X.env) :: starEach [] X.env := by rfl)
    (hpl : (backTo pos (starEach [.Name T pT] X.env)).any (·.1) = false := by rfl) : PV X L (.Call (.Name "isinstance" p) [a, .Name T pT] [] pos) (mIsi Ts ma) :=
  (pe_callB (p := p) call_isi hg hm (by decide +kernel) (pa_cons ha (pa_cons (pe_bltn (v := .ty Ts) hgT hT hb rfl hn hdb) pa_nil hs2) hs1) (by decide) (by decide) hs1 hpl).imp fun σ H Q ⟨F, ρ, rr, q⟩ => by
    refine TM.go rr q fun d v F1 H1 g1 r1 q1 => ?_
    have hd : ∀ ns, d ≠ .scr ns := fun ns z => by subst z; exact q1.elim
    have e1 : isT Ts d = ofO ((kitB (tyName d) Ts).map D.bl) := by cases d <;> first | rfl | exact absurd rfl (hd _)
    rw [e1] at q1
    cases ek : kitB (tyName d) Ts with
    | none => rw [ek] at q1; exact q1.elim
    | some b =>
      rw [ek] at q1
      refine ⟨v, .ty Ts, .type (tyName d), .type Ts, b, rfl, .ty Ts, ?_, kit_ty ek, q1 _ F1 H1 g1 (.bl b)⟩
      rw [← hK]
      exact r1.tyX g1.fh hd
/-! ### packaged calls -/
variable {a b : Expr} {ma mb : Rho → R D}
theorem v_len (hK : L.K = X.K) (hm : X.mg "len" = none) (ha : PAB X L (e :: es) m) (hg : Gl X "len" := by rfl)
    (he : starEach (e :: es) X.env = (false, eval e X.env) :: starEach es X.env := by rfl) (hpl : (backTo pos (starEach es X.env)).any (·.1) = false := by rfl) : PV X L (.Call (.Name "len" p) (e :: es) [] pos) (mCall fLen m) :=
  v_b call_len (hK ▸ ca_len) noEx_fLen hm (by decide +kernel) ha hg (by decide) (by decide) he hpl
theorem v_abs (hm : X.mg "abs" = none) (ha : PAB X L (e :: es) m) (hg : Gl X "abs" := by rfl)
    (he : starEach (e :: es) X.env = (false, eval e X.env) :: starEach es X.env := by rfl) (hpl : (backTo pos (starEach es X.env)).any (·.1) = false := by rfl) : PV X L (.Call (.Name "abs" p) (e :: es) [] pos) (mCall fAbs m) :=
  v_b call_abs ca_abs noEx_fAbs hm (by decide +kernel) ha hg (by decide) (by decide) he hpl
theorem v_min2 (hc : X.calm = true) (hm : X.mg "min" = none) (ha : PAB X L (e :: es) m) (hg : Gl X "min" := by rfl)
    (he : starEach (e :: es) X.env = (false, eval e X.env) :: starEach es X.env := by rfl) (hpl : (backTo pos (starEach es X.env)).any (·.1) = false := by rfl) : PV X L (.Call (.Name "min" p) (e :: es) [] pos) (mCall fMin2 m) :=
  v_b (call_min2 hc) ca_min2 noEx_fMin2 hm (by decide +kernel) ha hg (by decide) (by decide) he hpl
theorem v_max2 (hc : X.calm = true) (hm : X.mg "max" = none) (ha : PAB X L (e :: es) m) (hg : Gl X "max" := by rfl)
    (he : starEach (e :: es) X.env = (false, eval e X.env) :: starEach es X.env := by rfl) (hpl : (backTo pos (starEach es X.env)).any (·.1) = false := by rfl) : PV X L (.Call (.Name "max" p) (e :: es) [] pos) (mCall fMax2 m) :=
  v_b (call_max2 hc) ca_max2 noEx_fMax2 hm (by decide +kernel) ha hg (by decide) (by decide) he hpl
theorem v_min1 (hK : L.K = X.K) (hc : X.calm = true) (hm : X.mg "min" = none) (ha : PAB X L (e :: es) m) (hg : Gl X "min" := by rfl)
    (he : starEach (e :: es) X.env = (false, eval e X.env) :: starEach es X.env := by rfl) (hpl : (backTo pos (starEach es X.env)).any (·.1) = false := by rfl) : PV X L (.Call (.Name "min" p) (e :: es) [] pos) (mCall fMin1 m) :=
  v_b (cr_min hc) (hK ▸ ca_min1) noEx_fMin1 hm (by decide +kernel) ha hg (by decide) (by decide) he hpl
theorem v_max1 (hK : L.K = X.K) (hc : X.calm = true) (hm : X.mg "max" = none) (ha : PAB X L (e :: es) m) (hg : Gl X "max" := by rfl)
    (he : starEach (e :: es) X.env = (false, eval e X.env) :: starEach es X.env := by rfl) (hpl : (backTo pos (starEach es X.env)).any (·.1) = false := by rfl) : PV X L (.Call (.Name "max" p) (e :: es) [] pos) (mCall fMax1 m) :=
  v_b (cr_max hc) (hK ▸ ca_max1) noEx_fMax1 hm (by decide +kernel) ha hg (by decide) (by decide) he hpl
theorem v_sum (hK : L.K = X.K) (hc : X.calm = true) (hm : X.mg "sum" = none) (ha : PAB X L (e :: es) m) (hg : Gl X "sum" := by rfl)
    (he : starEach (e :: es) X.env = (false, eval e X.env) :: starEach es X.env := by rfl) (hpl : (backTo pos (starEach es X.env)).any (·.1) = false := by rfl) : PV X L (.Call (.Name "sum" p) (e :: es) [] pos) (mCall fSum m) :=
  v_b ((cr_sum hc).or (cr_sumT hc)) (hK ▸ ca_sum) noEx_fSum hm (by decide +kernel) ha hg (by decide) (by decide) he hpl
theorem v_sorted {k : Nat} (hK : L.K = X.K) (hr : Room k X.A) (hm : X.mg "sorted" = none) (ha : PAB X L (e :: es) m) (hg : Gl X "sorted" := by rfl)
    (he : starEach (e :: es) X.env = (false, eval e X.env) :: starEach es X.env := by rfl) (hpl : (backTo pos (starEach es X.env)).any (·.1) = false := by rfl) : PV X L (.Call (.Name "sorted" p) (e :: es) [] pos) (mCall fSorted m) :=
  v_b (cr_sortD hr) (hK ▸ ca_sorted) noEx_fSorted hm (by decide +kernel) ha hg (by decide) (by decide) he hpl
theorem v_tuple (hK : L.K = X.K) (hm : X.mg "tuple" = none) (ha : PAB X L (e :: es) m) (hg : Gl X "tuple" := by rfl)
    (he : starEach (e :: es) X.env = (false, eval e X.env) :: starEach es X.env := by rfl) (hpl : (backTo pos (starEach es X.env)).any (·.1) = false := by rfl) : PV X L (.Call (.Name "tuple" p) (e :: es) [] pos) (mCall fTuple m) :=
  v_bt call_tuple_of (hK ▸ ca_tuple) noEx_fTuple hm (by decide +kernel) ha hg (by decide) (by decide) he hpl
theorem v_list (hK : L.K = X.K) (hm : X.mg "list" = none) (ha : PAB X L (e :: es) m) (hg : Gl X "list" := by rfl)
    (he : starEach (e :: es) X.env = (false, eval e X.env) :: starEach es X.env := by rfl) (hpl : (backTo pos (starEach es X.env)).any (·.1) = false := by rfl) : PV X L (.Call (.Name "list" p) (e :: es) [] pos) (mCall fList m) :=
  v_bt call_list_of (hK ▸ ca_list) noEx_fList hm (by decide +kernel) ha hg (by decide) (by decide) he hpl
theorem v_intc (hm : X.mg "int" = none) (ha : PAB X L (e :: es) m) (hg : Gl X "int" := by rfl)
    (he : starEach (e :: es) X.env = (false, eval e X.env) :: starEach es X.env := by rfl) (hpl : (backTo pos (starEach es X.env)).any (·.1) = false := by rfl) : PV X L (.Call (.Name "int" p) (e :: es) [] pos) (mCall fInt m) :=
  v_bt call_int1 ca_int noEx_fInt hm (by decide +kernel) ha hg (by decide) (by decide) he hpl
end
end VL

/-! VL6: statements, loops, comprehensions, defs by their mirrors. -/
namespace VL
open PySem PySem.Spec PyProof.Rows L2

/-- how a statement ends -/
inductive Out where
  | nx (ρ : Rho) | rt (d : D) | bk (ρ : Rho) | ct (ρ : Rho)
def exS (L : Lv) (c : Str) : Prop := ∀ σ' H', Same L.H0 H' → ∀ C, L.mg c = some C → L.W C none σ' H'
def PostS (L : Lv) (F : Hp) (r : R Out) (D : Ends) : Prop := match r with
  | .ok (.nx ρ') => ∀ σ' F' H', Rep L.K L.F0 L.H0 F' H' σ' ρ' → Same F F' → D.nx σ' H'
  | .ok (.rt d) => ∀ v F' H', Grow L.F0 L.H0 F' H' → Rp L.K F' v d → D.rt v H'
  | .ok (.bk ρ') => ∀ σ' F' H', Rep L.K L.F0 L.H0 F' H' σ' ρ' → Same F F' → D.bk σ' H'
  | .ok (.ct ρ') => ∀ σ' F' H', Rep L.K L.F0 L.H0 F' H' σ' ρ' → Same F F' → D.ct σ' H'
  | .ex c => exS L c
  | .bad => False
def TSm (L : Lv) (m : Rho → R Out) : TS := fun D σ H => ∃ F ρ, Rep L.K L.F0 L.H0 F H σ ρ ∧ PostS L F (m ρ) D
abbrev PSm (X : Cx) (L : Lv) (st : Stmt) (m : Rho → R Out) : Prop := PS X st (TSm L m)
abbrev PSsm (X : Cx) (L : Lv) (st : List Stmt) (m : Rho → R Out) : Prop := PSs X st (TSm L m)
section
variable {X : Cx} {L : Lv} {σ : L2.St} {F H G : Hp} {ρ : Rho}
theorem PostS.mono {F F' : Hp} {r : R Out} {D : Ends} (h : PostS L F r D) (s : Same F F') : PostS L F' r D := by
  cases r with
  | bad => exact h
  | ex c => exact h
  | ok o =>
    cases o with
    | rt d => exact h
    | nx ρ => exact fun σ' F2 H' r q => h σ' F2 H' r (s.trans q)
    | bk ρ => exact fun σ' F2 H' r q => h σ' F2 H' r (s.trans q)
    | ct ρ => exact fun σ' F2 H' r q => h σ' F2 H' r (s.trans q)
theorem exS.ok {c : Str} (h : exS L c) (r : Rep L.K L.F0 L.H0 F H σ ρ) : exOk L σ H c := fun H' s C e => h σ H' (r.aH.trans s) C e
/-- an expression, then the rest of the statement -/
theorem TM.goS {α : Type} {rel : Rel α} {m : Rho → R α} {f : α → R Out} {D : Ends} {Q : VK} (r : Rep L.K L.F0 L.H0 F H σ ρ) (h : PostS L G ((m ρ).bind f) D)
    (k : ∀ a v F' H', Grow F H F' H' → rel F H F' H' v a → PostS L G (f a) D → Q v H') : TM L rel m σ H Q := by
  refine ⟨F, ρ, r, ?_⟩
  cases e : m ρ with
  | ok a => rw [e] at h; exact fun v F' H' g hv => k a v F' H' g hv h
  | ex c => rw [e] at h; exact exS.ok h r
  | bad => rw [e] at h; exact h
theorem TB.goS {m : Rho → R Bool} {f : Bool → R Out} {D : Ends} {Q : Bool → Hp → Prop} (r : Rep L.K L.F0 L.H0 F H σ ρ) (h : PostS L G ((m ρ).bind f) D)
    (k : ∀ a F' H', Grow F H F' H' → PostS L G (f a) D → Q a H') : TB L m σ H Q := by
  refine ⟨F, ρ, r, ?_⟩
  cases e : m ρ with
  | ok a => rw [e] at h; exact fun F' H' g => k a F' H' g h
  | ex c => rw [e] at h; exact exS.ok h r
  | bad => rw [e] at h; exact h
theorem TL.goS {rel : RelA} {m : Rho → R (List D)} {f : List D → R Out} {E : Ends} {Q : List V → Hp → Prop} (r : Rep L.K L.F0 L.H0 F H σ ρ) (h : PostS L G ((m ρ).bind f) E)
    (k : ∀ a vs F' H', Grow F H F' H' → rel F' H' vs a → PostS L G (f a) E → Q vs H') : TL L rel m σ H Q := by
  refine ⟨F, ρ, r, ?_⟩
  cases e : m ρ with
  | ok a => rw [e] at h; exact fun vs F' H' g hv => k a vs F' H' g hv h
  | ex c => rw [e] at h; exact exS.ok h r
  | bad => rw [e] at h; exact h

/-! ### blocks -/
def mSkip : Rho → R Out := fun ρ => .ok (.nx ρ)
def mSeq (m n : Rho → R Out) : Rho → R Out := fun ρ => match m ρ with
  | .ok (.nx ρ') => n ρ'
  | r => r
variable {st : Stmt} {rest : List Stmt} {m n : Rho → R Out} {pos : Pos} {e : Expr} {me : Rho → R D}
theorem s_nil : PSsm X L [] mSkip := pss_nil.imp fun D σ H ⟨F, ρ, r, q⟩ => q σ F H r (Same.refl F)
theorem s_cons (h1 : PSm X L st m) (h2 : PSsm X L rest n) : PSsm X L (st :: rest) (mSeq m n) := (pss_cons h1 h2).imp fun D σ H ⟨F, ρ, r, q⟩ => by
  refine ⟨F, ρ, r, ?_⟩
  unfold mSeq at q
  cases e : m ρ with
  | bad => rw [e] at q; exact q
  | ex c => rw [e] at q; exact q
  | ok o =>
    rw [e] at q
    cases o with
    | nx ρ' => exact fun σ' F' H' r' s' => ⟨F', ρ', r', q.mono s'⟩
    | rt d => exact q
    | bk ρ' => exact q
    | ct ρ' => exact q
theorem s_one (h1 : PSm X L st m) : PSsm X L [st] m := pss_one h1
theorem s_never : PSm X L st mBad := ⟨fun _ _ _ _ _ _ h => by obtain ⟨_, _, _, q⟩ := h; exact q.elim⟩
theorem ss_never {sts : List Stmt} : PSsm X L sts mBad := ⟨fun _ _ _ _ _ _ h => by obtain ⟨_, _, _, q⟩ := h; exact q.elim⟩
theorem s_pass : PSm X L (.Pass pos) mSkip := ps_pass.imp fun D σ H ⟨F, ρ, r, q⟩ => q σ F H r (Same.refl F)
def mExpr (m : Rho → R D) : Rho → R Out := fun ρ => (m ρ).bind fun _ => .ok (.nx ρ)
theorem s_expr (h : PV X L e me) (hs : swapsWith e none pos.line X.env = pure false := by rfl) : PSm X L (.Expr e pos) (mExpr me) := (ps_expr h hs).imp fun D σ H ⟨F, ρ, r, q⟩ =>
  TM.goS r q fun a v F' H' g hv z => z σ F' H' (r.grow g) g.ff
def mRet (m : Rho → R D) : Rho → R Out := fun ρ => (m ρ).bind fun d => .ok (.rt d)
theorem s_ret (h : PV X L e me) : PSm X L (.Return (some e) pos) (mRet me) := (ps_ret h).imp fun D σ H ⟨F, ρ, r, q⟩ =>
  TM.goS r q fun a v F' H' g hv z => z v F' H' (r.grow g).anchor hv
/-- return x, x perhaps a list of one's own -/
def mRetN (i : Nat) : Rho → R Out := fun ρ => match ρ[i]? with
  | some (.d x) => .ok (.rt x)
  | some (.m xs) => .ok (.rt (.lst xs))
  | _ => .bad
theorem s_retN (i : Nat) {x : Str} {p : Pos} (hN : X.N[i]? = some x := by rfl) (hv : Vis X.env.scope x := by first | exact Or.inl rfl | exact Or.inr (Or.inl rfl) | exact Or.inr (Or.inr rfl)) (hd : (x == ("__debug__" : Str)) = false := by decide)
    (hcd : (x == ("__classdict__" : Str)) = false := by decide) : PSm X L (.Return (some (.Name x p)) pos) (mRetN i) := (ps_ret (pe_var hN hv hd hcd)).imp fun D σ H ⟨F, ρ, r, q⟩ => by
  unfold mRetN at q
  cases e : ρ[i]? with
  | none => rw [e] at q; exact q.elim
  | some a =>
    rw [e] at q
    cases a with
    | un => exact q.elim
    | md ks xs => exact q.elim
    | d x =>
      obtain ⟨v, e1, rp⟩ := r.slot i _ e
      exact ⟨v, e1, q v F H r.anchor rp⟩
    | m xs =>
      obtain ⟨p, vs, e1, hp, f, rp, r2⟩ := r.freeze e
      exact ⟨_, e1, q _ _ H r2.anchor rp⟩
def mIfS (c : Rho → R Bool) (m n : Rho → R Out) : Rho → R Out := fun ρ => (c ρ).bind fun b => if b = true then m ρ else n ρ
theorem s_if {c : Expr} {a b : List Stmt} {qc : Rho → R Bool} (hc : PQ X L c qc) (ha : PSsm X L a m) (hb : PSsm X L b n) : PSm X L (.If c a b pos) (mIfS qc m n) := (ps_if hc ha hb).imp fun D σ H ⟨F, ρ, r, q⟩ =>
  TB.goS r q fun k F' H' g z => by
    cases k with
    | true => exact iteT ⟨F', ρ, r.grow g, z.mono g.ff⟩
    | false => exact iteF ⟨F', ρ, r.grow g, z.mono g.ff⟩

/-! ### assignments to names -/
def mSet (i : Nat) (m : Rho → R D) : Rho → R Out := fun ρ => (m ρ).bind fun d => .ok (.nx (ρ.set i (.d d)))
def mSetN (i : Nat) (m : Rho → R (List D)) : Rho → R Out := fun ρ => (m ρ).bind fun xs => .ok (.nx (ρ.set i (.m xs)))
theorem s_set (i : Nat) {x : Str} {p : Pos} (h : PV X L e me) (hN : X.N.Nodup) (hi : X.N[i]? = some x := by rfl) (hx : Loc X.env.scope x := by first | exact Or.inl rfl | exact Or.inr rfl) (hs : swapsWith e (some (.Name x p)) pos.line X.env = pure false := by rfl)
    (hf : X.fn x = true ∨ X.env.scope.names.lookup x = some .local := by first | exact .inl rfl | exact .inr rfl | assumption) : PSm X L (.Assign [.Name x p] e pos) (mSet i me) :=
  (ps_set hN hi hx h hs hf).imp fun D σ H ⟨F, ρ, r, q⟩ => TM.goS r q fun a v F' H' g hv z => z _ F' H' ((r.grow g).setD hv) g.ff
theorem fresh_own {F H F' H' : Hp} {σ : L2.St} {ρ : Rho} {p : Addr} (r : Rep L.K L.F0 L.H0 F H σ ρ) (hp : H p = none) {j : Nat} {b : A} (e : ρ[j]? = some b) (ho : b.own = true) (es : σ[j]? = some (some (.ref p))) : False := by
  have s := r.slot j b e
  cases b with
  | un => cases ho
  | d x => cases ho
  | m xs =>
    obtain ⟨p', vs, e1, h1, _⟩ := s
    rw [es] at e1
    cases e1
    rw [hp] at h1; cases h1
  | md ks xs =>
    obtain ⟨p', vs, e1, h1, _⟩ := s
    rw [es] at e1
    cases e1
    rw [hp] at h1; cases h1
theorem s_setN (i : Nat) {x : Str} {p : Pos} {mn : Rho → R (List D)} (h : PN X L e mn) (hN : X.N.Nodup) (hi : X.N[i]? = some x := by rfl) (hx : Loc X.env.scope x := by first | exact Or.inl rfl | exact Or.inr rfl) (hs : swapsWith e (some (.Name x p)) pos.line X.env = pure false := by rfl)
    (hf : X.fn x = true ∨ X.env.scope.names.lookup x = some .local := by first | exact .inl rfl | exact .inr rfl | assumption) : PSm X L (.Assign [.Name x p] e pos) (mSetN i mn) :=
  (ps_set hN hi hx h hs hf).imp fun D σ H ⟨F, ρ, r, q⟩ => TM.goS r q fun xs v F' H' g hv z => by
    obtain ⟨a, vs, rfl, n, hp, f, rr⟩ := hv
    refine z _ F' H' ((r.grow g).setOwn rfl ⟨a, vs, rfl, hp, f, r.aH.free n, rr⟩ fun j b hj e ho es => ?_) g.ff
    exact fresh_own (F' := F') (H' := H') r n e ho es
/-- x = y, y frozen if it is a list of one's own -/
def mMove (i j : Nat) : Rho → R Out := fun ρ => match ρ[j]? with
  | some (.d d) => .ok (.nx (ρ.set i (.d d)))
  | some (.m xs) => .ok (.nx ((ρ.set j (.d (.lst xs))).set i (.d (.lst xs))))
  | _ => .bad
theorem s_move (i j : Nat) {x y : Str} {p p2 : Pos} (hN : X.N.Nodup) (hi : X.N[i]? = some x := by rfl) (hx : Loc X.env.scope x := by first | exact Or.inl rfl | exact Or.inr rfl)
    (hj : X.N[j]? = some y := by rfl) (hv : Vis X.env.scope y := by first | exact Or.inl rfl | exact Or.inr (Or.inl rfl) | exact Or.inr (Or.inr rfl)) (hd : (y == ("__debug__" : Str)) = false := by decide) (hcd : (y == ("__classdict__" : Str)) = false := by decide)
    (hs : swapsWith (.Name y p2) (some (.Name x p)) pos.line X.env = pure false := by rfl)
    (hf : X.fn x = true ∨ X.env.scope.names.lookup x = some .local := by first | exact .inl rfl | exact .inr rfl | assumption) : PSm X L (.Assign [.Name x p] (.Name y p2) pos) (mMove i j) :=
  (ps_set hN hi hx (pe_var hj hv hd hcd) hs hf).imp fun D σ H ⟨F, ρ, r, q⟩ => by
    unfold mMove at q
    cases e : ρ[j]? with
    | none => rw [e] at q; exact q.elim
    | some a =>
      rw [e] at q
      cases a with
      | un => exact q.elim
      | md ks xs => exact q.elim
      | d x =>
        obtain ⟨v, e1, rp⟩ := r.slot j _ e
        exact ⟨v, e1, q _ F H (r.setD rp) (Same.refl F)⟩
      | m xs =>
        obtain ⟨p, vs, e1, hp, f, rp, r2⟩ := r.freeze e
        exact ⟨_, e1, q _ _ H (r2.setD rp) (upd_new f)⟩
/-! ### changes of a list, a dict of one's own -/
def mApp (i : Nat) (m : Rho → R D) : Rho → R Out := fun ρ => match ρ[i]? with
  | some (.m xs) => (m ρ).bind fun d => if xs.length < 1000000 then .ok (.nx (ρ.set i (.m (xs ++ [d])))) else .bad
  | _ => .bad
theorem line6' {n : Nat} (h : n < 1000000) : n < sizeLine := by rw [sizeLine_eq]; omega
/-- an own list in slot i is looked at ahead of a change -/
theorem own_list {i : Nat} {g : List D → R Out} {D : Ends} (r : Rep L.K L.F0 L.H0 F H σ ρ) (q : PostS L G (match ρ[i]? with
    | some (.m xs) => g xs
    | _ => .bad) D) : ∃ xs p vs, ρ[i]? = some (.m xs) ∧ σ[i]? = some (some (.ref p)) ∧ H p = some (.lst vs) ∧ F p = none ∧ L.H0 p = none ∧ RpAll L.K F vs xs ∧ PostS L G (g xs) D := by
  cases e : ρ[i]? with
  | none => rw [e] at q; exact q.elim
  | some a =>
    rw [e] at q
    cases a with
    | un => exact q.elim
    | d x => exact q.elim
    | md ks xs => exact q.elim
    | m xs =>
      obtain ⟨p, vs, e1, h1, f, h0, rr⟩ := r.slot i _ e
      exact ⟨xs, p, vs, rfl, e1, h1, f, h0, rr, q⟩
/-- .. and stands still through an expression -/
theorem own_stays {F' H' : Hp} {p : Addr} {vs : List V} {xs : List D} (g : Grow F H F' H') (h : H p = some (.lst vs)) (f : F p = none) (rr : RpAll L.K F vs xs) : H' p = some (.lst vs) ∧ F' p = none ∧ RpAll L.K F' vs xs :=
  ⟨g.hh _ _ h, g.new p (by rw [h]; exact Option.some_ne_none _) f, rr.mono g.ff⟩
theorem s_app (i : Nat) {x : Str} {px ap cp : Pos} (hx : PE X (.Name x px) (tVar i)) (h : PV X L e me) (hs : swapsWith (.Call (.Attribute (.Name x px) "append" ap) [e] [] cp) none pos.line X.env = pure false := by rfl)
    (hbase : attributeBase (.Name x px) "append" X.env (eval (.Name x px) X.env) = eval (.Name x px) X.env := by rfl)
    (hfew : ((backTo cp (starEach [e] X.env)).all (fun x => !x.1) && (backToKw cp (keywordEach [] X.env)).all (fun x => x.1.isSome) && decide ([e].length + ([] : List Keyword).length + (if ([] : List Keyword).isEmpty then 0 else 1) < 30)) = true := by rfl)
    (hline : (ap.endLine == cp.line) = true := by rfl) (hst : starEach [e] X.env = (false, eval e X.env) :: starEach [] X.env := by rfl) (hpl : (backTo cp (starEach [] X.env)).any (·.1) = false := by rfl) :
    PSm X L (.Expr (.Call (.Attribute (.Name x px) "append" ap) [e] [] cp) pos) (mApp i me) :=
  (ps_expr (pe_bm PySem.F.plainAttrs_list PySem.F.slot_list_append PySem.F.type_list_append mt_append hx (pa_cons h pa_nil hst) hbase hfew hline hst hpl) hs).imp fun D σ H ⟨F, ρ, r, q⟩ => by
    obtain ⟨xs, p, vs, ei, es, hp, f, h0, rr, q⟩ := own_list r q
    refine ⟨.ref p, es, .inl ⟨rfl, vs, .inl (.inl hp)⟩, ?_⟩
    refine TM.goS r q fun d v F' H' g hv z => ?_
    obtain ⟨hp', f', rr'⟩ := own_stays g hp f rr
    by_cases hc : xs.length < 1000000
    · rw [if_pos hc] at z
      refine ⟨p, vs, v, rfl, rfl, hp', line6' (by rw [rr.length]; exact hc), z _ F' _ ((r.grow g).write ei rfl rfl es ⟨p, _, rfl, upd_same, f', h0, rr'.append (.one hv)⟩ f' h0) g.ff⟩
    · rw [if_neg hc] at z; exact z.elim
/-- x.extend(e) -/
def mExt (i : Nat) (m : Rho → R D) : Rho → R Out := fun ρ => match ρ[i]? with
  | some (.m xs) => (m ρ).bind fun d => match d with
    | .lst ys => if xs.length + ys.length ≤ 1000000 then .ok (.nx (ρ.set i (.m (xs ++ ys)))) else .bad
    | _ => .bad
  | _ => .bad
theorem s_ext (i : Nat) {x : Str} {px ap cp : Pos} (hx : PE X (.Name x px) (tVar i)) (h : PV X L e me) (hs : swapsWith (.Call (.Attribute (.Name x px) "extend" ap) [e] [] cp) none pos.line X.env = pure false := by rfl)
    (hbase : attributeBase (.Name x px) "extend" X.env (eval (.Name x px) X.env) = eval (.Name x px) X.env := by rfl)
    (hfew : ((backTo cp (starEach [e] X.env)).all (fun x => !x.1) && (backToKw cp (keywordEach [] X.env)).all (fun x => x.1.isSome) && decide ([e].length + ([] : List Keyword).length + (if ([] : List Keyword).isEmpty then 0 else 1) < 30)) = true := by rfl)
    (hline : (ap.endLine == cp.line) = true := by rfl) (hst : starEach [e] X.env = (false, eval e X.env) :: starEach [] X.env := by rfl) (hpl : (backTo cp (starEach [] X.env)).any (·.1) = false := by rfl) :
    PSm X L (.Expr (.Call (.Attribute (.Name x px) "extend" ap) [e] [] cp) pos) (mExt i me) :=
  (ps_expr (pe_bm PySem.F.plainAttrs_list PySem.F.slot_list_extend PySem.F.type_list_extend mt_extend hx (pa_cons h pa_nil hst) hbase hfew hline hst hpl) hs).imp fun D σ H ⟨F, ρ, r, q⟩ => by
    obtain ⟨xs, p, vs, ei, es, hp, f, h0, rr, q⟩ := own_list r q
    refine ⟨.ref p, es, .inl ⟨rfl, vs, .inl (.inl hp)⟩, ?_⟩
    refine TM.goS r q fun d v F' H' g hv z => ?_
    obtain ⟨hp', f', rr'⟩ := own_stays g hp f rr
    cases d <;> simp only [] at z <;> first | exact z.elim | skip
    rename_i ys
    cases hv with
    | lst hy ry =>
      by_cases hc : xs.length + ys.length ≤ 1000000
      · rw [if_pos hc] at z
        exact ⟨p, _, vs, _, rfl, rfl, hp', g.fh _ _ hy, line6 (by rw [rr.length, ry.length]; exact hc), z _ F' _ ((r.grow g).write ei rfl rfl es ⟨p, _, rfl, upd_same, f', h0, rr'.append ry⟩ f' h0) g.ff⟩
      · rw [if_neg hc] at z; exact z.elim
/-- x[j] = e, x a list of one's own -/
def mPut (i : Nat) (mj : Rho → R D) (m : Rho → R D) : Rho → R Out := fun ρ => (m ρ).bind fun d => match ρ[i]? with
  | some (.m xs) => (mj ρ).bind fun j => match j with
    | .int k => (match ixN xs.length k with
      | some n => .ok (.nx (ρ.set i (.m (xs.set n d))))
      | none => .bad)
    | _ => .bad
  | _ => .bad
theorem s_put (i : Nat) {x : Str} {px p2 : Pos} {j : Expr} {mj : Rho → R D} (hx : PE X (.Name x px) (tVar i)) (hj : PV X L j mj) (h : PV X L e me)
    (ha : ∀ v, assign (.Subscript (.Name x px) j p2) X.env v = (do
      let ov ← holding [v] (eval (.Name x px) X.env)
      let iv ← holding [v, ov] (eval j X.env)
      standAt p2
      holding [v, ov, iv] (setItem ov iv v)
      release [v, ov, iv] []) := by intro _; rfl)
    (hs : swapsWithSole [.Subscript (.Name x px) j p2] e pos.line X.env = pure false := by rfl) (hw : swappedStores [.Subscript (.Name x px) j p2] e X.env = pure none := by rfl)
    (h1 : (assignEach [.Subscript (.Name x px) j p2] X.env).map (·.2) = [assign (.Subscript (.Name x px) j p2) X.env] := by rfl) :
    PSm X L (.Assign [.Subscript (.Name x px) j p2] e pos) (mPut i mj me) :=
  (ps_asg h (pg_sub hx hj set_list ha) hs hw h1).imp fun D σ H ⟨F, ρ, r, q⟩ => by
    refine TM.goS r q fun d v F1 H1 g1 hv q => ?_
    obtain ⟨xs, p, vs, ei, es, hp, f, h0, rr, q⟩ := own_list (r.grow g1) q
    refine ⟨.ref p, es, ?_⟩
    refine TM.goS (r.grow g1) q fun d2 v2 F2 H2 g2 hv2 z => ?_
    obtain ⟨hp', f', rr'⟩ := own_stays g2 hp f rr
    cases d2 <;> simp only [] at z <;> first | exact z.elim | skip
    rename_i k
    cases hv2
    cases en : ixN xs.length k with
    | none => rw [en] at z; exact z.elim
    | some n =>
      rw [en] at z
      exact ⟨p, vs, k, n, rfl, rfl, hp', by rw [rr.length]; exact en, z _ F2 _ (((r.grow g1).grow g2).write ei rfl rfl es ⟨p, _, rfl, upd_same, f', h0, rr'.set n (hv.mono g2.ff)⟩ f' h0) (g1.ff.trans g2.ff)⟩
/-- y = x.pop(0), x a list of one's own -/
def mPop0 (i j : Nat) : Rho → R Out := fun ρ => match ρ[j]? with
  | some (.m (d :: xs)) => .ok (.nx ((ρ.set j (.m xs)).set i (.d d)))
  | _ => .bad
theorem s_pop0 (i j : Nat) {x y : Str} {p px ap cp q1 : Pos} {jj : Nat} (hij : i ≠ j) (hN : X.N.Nodup) (hx : PE X (.Name x px) (tVar j)) (hi : X.N[i]? = some y := by rfl) (hy : Loc X.env.scope y := by first | exact Or.inl rfl | exact Or.inr rfl)
    (hs : swapsWith (.Call (.Attribute (.Name x px) "pop" ap) [.Constant (.int 0) jj q1] [] cp) (some (.Name y p)) pos.line X.env = pure false := by rfl)
    (hf : X.fn y = true ∨ X.env.scope.names.lookup y = some .local := by first | exact .inl rfl | exact .inr rfl | assumption)
    (hbase : attributeBase (.Name x px) "pop" X.env (eval (.Name x px) X.env) = eval (.Name x px) X.env := by rfl)
    (hfew : ((backTo cp (starEach [.Constant (.int 0) jj q1] X.env)).all (fun x => !x.1) && (backToKw cp (keywordEach [] X.env)).all (fun x => x.1.isSome) && decide ([Expr.Constant (.int 0) jj q1].length + ([] : List Keyword).length + (if ([] : List Keyword).isEmpty then 0 else 1) < 30)) = true := by rfl)
    (hline : (ap.endLine == cp.line) = true := by rfl) (hst : starEach [.Constant (.int 0) jj q1] X.env = (false, eval (.Constant (.int 0) jj q1) X.env) :: starEach [] X.env := by rfl) (hpl : (backTo cp (starEach [] X.env)).any (·.1) = false := by rfl) :
    PSm X L (.Assign [.Name y p] (.Call (.Attribute (.Name x px) "pop" ap) [.Constant (.int 0) jj q1] [] cp) pos) (mPop0 i j) :=
  (ps_set hN hi hy (pe_bm PySem.F.plainAttrs_list PySem.F.slot_list_pop PySem.F.type_list_pop mt_popAt hx (pa_cons pe_int pa_nil hst) hbase hfew hline hst hpl) hs hf).imp fun D σ H ⟨F, ρ, r, q⟩ => by
    unfold mPop0 at q
    cases e : ρ[j]? with
    | none => rw [e] at q; exact q.elim
    | some a =>
      rw [e] at q
      cases a with
      | un => exact q.elim
      | d x => exact q.elim
      | md ks xs => exact q.elim
      | m ys =>
        cases ys with
        | nil => exact q.elim
        | cons d xs =>
          obtain ⟨p, vs, es, hp, f, h0, rr⟩ := r.slot j _ e
          cases rr with
          | cons r1 r2 =>
            rename_i v vs
            refine ⟨.ref p, es, .inl ⟨rfl, _, .inl (.inl hp)⟩, p, _, 0, 0, v, rfl, rfl, hp, by decide, by decide, (ixN_seq (n := (v :: vs).length) (i := 0) (j := 0) (by rw [List.length_cons]; unfold ixN; rw [if_pos (by decide), if_pos (by omega)]; rfl)).1, rfl, ?_⟩
            exact q _ F _ ((r.write e rfl rfl es (b := .m xs) ⟨p, vs, rfl, upd_same, f, h0, r2⟩ f h0).setD r1) (Same.refl F)
/-- name += e, ints -/
def mAug (i : Nat) (m : Rho → R D) : Rho → R Out := fun ρ => match ρ[i]? with
  | some (.d (.int a)) => (m ρ).bind fun d => match d with
    | .int b => .ok (.nx (ρ.set i (.d (.int (a + b)))))
    | _ => .bad
  | _ => .bad
theorem s_aug (i : Nat) {x : Str} {p : Pos} (h : PV X L e me) (hN : X.N.Nodup) (hi : X.N[i]? = some x := by rfl) (hx : Loc X.env.scope x := by first | exact Or.inl rfl | exact Or.inr rfl)
    (hf : X.fn x = true ∨ X.env.scope.names.lookup x = some .local := by first | exact .inl rfl | exact .inr rfl | assumption) : PSm X L (.AugAssign (.Name x p) .Add e pos) (mAug i me) :=
  (ps_aug hN hi hx h ip_add hf).imp fun D σ H ⟨F, ρ, r, q⟩ => by
    unfold mAug at q
    cases e : ρ[i]? with
    | none => rw [e] at q; exact q.elim
    | some a =>
      rw [e] at q
      cases a with
      | un => exact q.elim
      | m x => exact q.elim
      | md ks xs => exact q.elim
      | d x =>
        cases x <;> simp only [] at q <;> first | exact q.elim | skip
        rename_i n
        obtain ⟨v, e1, rp⟩ := r.slot i _ e
        cases rp
        refine ⟨_, e1, TM.goS r q fun d v F' H' g hv z => ?_⟩
        cases d <;> simp only [] at z <;> first | exact z.elim | skip
        cases hv
        exact ⟨_, _, rfl, rfl, z _ F' H' ((r.grow g).setD (.int _)) g.ff⟩
end
end VL

/-! VL7: targets, what is walked, for, while, comprehensions. -/
namespace VL
open PySem PySem.Spec PyProof.Rows L2

/-! ### targets: t binds a value; vs: the slots that it may write -/
def TGm (L : Lv) (t : D → Rho → R Rho) (vs : List Nat) : TG := fun v σ H Q => ∃ F ρ d ρ', Rep L.K L.F0 L.H0 F H σ ρ ∧ Rp L.K F v d ∧ t d ρ = .ok ρ' ∧
  ∀ σ', Rep L.K L.F0 L.H0 F H σ' ρ' → (∀ j, j ∉ vs → σ'[j]? = σ[j]?) → σ'.length = σ.length → Q σ' H
def TGsm (L : Lv) (t : List D → Rho → R Rho) (vs : List Nat) : TGs := fun ws σ H Q => ∃ F ρ ds ρ', Rep L.K L.F0 L.H0 F H σ ρ ∧ RpAll L.K F ws ds ∧ t ds ρ = .ok ρ' ∧
  ∀ σ', Rep L.K L.F0 L.H0 F H σ' ρ' → (∀ j, j ∉ vs → σ'[j]? = σ[j]?) → σ'.length = σ.length → Q σ' H
abbrev PGm (X : Cx) (L : Lv) (tg : Expr) (t : D → Rho → R Rho) (vs : List Nat) : Prop := PG X tg (TGm L t vs)
abbrev PGsm (X : Cx) (L : Lv) (tg : List Expr) (t : List D → Rho → R Rho) (vs : List Nat) : Prop := PGs X tg (TGsm L t vs)
theorem _root_.L2.PG.imp {X : Cx} {e : Expr} {t t' : TG} (h : PG X e t) (k : ∀ v σ H Q, t' v σ H Q → t v σ H Q) : PG X e t' := ⟨fun pins s σ H v u Q I r q => h.run pins s σ H v u Q I r (k v σ H Q q)⟩
theorem _root_.L2.PGs.imp {X : Cx} {e : List Expr} {t t' : TGs} (h : PGs X e t) (k : ∀ v σ H Q, t' v σ H Q → t v σ H Q) : PGs X e t' := ⟨fun pins s σ H v u Q I r q => h.run pins s σ H v u Q I r (k v σ H Q q)⟩
def tName (i : Nat) : D → Rho → R Rho := fun d ρ => .ok (ρ.set i (.d d))
def tsNil : List D → Rho → R Rho := fun ds ρ => match ds with
  | [] => .ok ρ
  | _ => .bad
def tsCons (t : D → Rho → R Rho) (u : List D → Rho → R Rho) : List D → Rho → R Rho := fun ds ρ => match ds with
  | d :: r => (t d ρ).bind fun ρ' => u r ρ'
  | [] => .bad
def tTuple (n : Nat) (u : List D → Rho → R Rho) : D → Rho → R Rho := fun d ρ => match d with
  | .tup ds => if ds.length = n then u ds ρ else .bad
  | _ => .bad
section
variable {X : Cx} {L : Lv} {pos : Pos}
theorem g_name (i : Nat) {x : Str} (hN : X.N.Nodup) (hi : X.N[i]? = some x := by rfl) (hx : Loc X.env.scope x := by first | exact Or.inl rfl | exact Or.inr rfl) (hf : X.fn x = true ∨ X.env.scope.names.lookup x = some .local := by first | exact .inl rfl | exact .inr rfl | assumption) :
    PGm X L (.Name x pos) (tName i) [i] := (pg_name hN hi hx hf).imp fun v σ H Q ⟨F, ρ, d, ρ', r, rp, e, q⟩ => by
  cases e
  refine q _ (r.setD rp) (fun j hj => ?_) (by rw [List.length_set])
  rw [List.getElem?_set_ne (by intro z; exact hj (by simp [z]))]
theorem gs_nil : PGsm X L [] tsNil [] := pgs_nil.imp fun v σ H Q ⟨F, ρ, ds, ρ', r, rp, e, q⟩ => by
  cases rp with
  | nil => cases e; exact ⟨rfl, q σ r (fun _ _ => rfl) rfl⟩
  | cons _ _ => cases e
theorem gs_cons {e : Expr} {es : List Expr} {t : D → Rho → R Rho} {u : List D → Rho → R Rho} {vs ws : List Nat} (h1 : PGm X L e t vs) (h2 : PGsm X L es u ws)
    (hs : (assignEach (e :: es) X.env).map (·.2) = assign e X.env :: (assignEach es X.env).map (·.2) := by rfl) : PGsm X L (e :: es) (tsCons t u) (vs ++ ws) := (pgs_cons h1 h2 hs).imp fun v σ H Q ⟨F, ρ, ds, ρ', r, rp, e, q⟩ => by
  cases rp with
  | nil => cases e
  | @cons v vs' d ds r1 r2 =>
    unfold tsCons at e
    cases et : t d ρ with
    | bad => simp only [et, R.bind_bad] at e; cases e
    | ex c => simp only [et, R.bind_ex] at e; cases e
    | ok ρ1 =>
      simp only [et, R.bind_ok] at e
      refine ⟨v, vs', rfl, F, ρ, d, ρ1, r, r1, et, fun σ1 r1' hs1 hl1 => ⟨F, ρ1, ds, ρ', r1', r2, e, fun σ2 r2' hs2 hl2 => ?_⟩⟩
      refine q σ2 r2' (fun j hj => ?_) (hl2.trans hl1)
      rw [List.mem_append, not_or] at hj
      rw [hs2 j hj.2, hs1 j hj.1]
theorem g_tup {es : List Expr} {k n : Nat} {u : List D → Rho → R Rho} {vs : List Nat} (hc : X.calm = true) (h : PGsm X L es u vs) (hn : (assignEach es X.env).length = n := by rfl) (hst : (assignEach es X.env).findIdx? (·.1) = none := by rfl) :
    PGm X L (.Tuple es k pos) (tTuple n u) vs := (pg_tup hc h hn hst).imp fun v σ H Q ⟨F, ρ, d, ρ', r, rp, e, q⟩ => by
  unfold tTuple at e
  cases d <;> simp only [] at e <;> first | (cases e; done) | skip
  rename_i ds
  by_cases hl : ds.length = n
  · rw [if_pos hl] at e
    cases rp with
    | tup hp ra => exact ⟨_, _, rfl, .inl (.inl (r.sub _ _ hp)), by rw [ra.length]; exact hl, F, ρ, ds, ρ', r, ra, e, q⟩
  · rw [if_neg hl] at e; cases e

/-! ### what is walked -/
/-- J walks the items ds, while what is frozen in F stands -/
structure Wk (K : PySem.W.Frag) (J : It) (F : Hp) (ds : List D) : Prop where
  goes : ∀ i H, i < ds.length → Same F H → J.go i H
  stops : ∀ H, Same F H → J.stop ds.length H
  yields : ∀ i H x H' F1, i < ds.length → Same F F1 → Same F1 H → J.yld i H x H' → ∃ F2 d, ds[i]? = some d ∧ Grow F1 H F2 H' ∧ Rp K F2 x d
def TIm (L : Lv) (m : Rho → R (List D)) : TI := fun σ H R => ∃ F ρ, Rep L.K L.F0 L.H0 F H σ ρ ∧ Post L σ H (m ρ) fun ds => ∀ J F' H', Grow F H F' H' → Wk L.K J F' ds → R J H'
abbrev PIm (X : Cx) (L : Lv) (tg iter : Expr) (m : Rho → R (List D)) : Prop := PI X tg iter (TIm L m)
theorem _root_.L2.PI.imp {X : Cx} {tg e : Expr} {t t' : TI} (h : PI X tg e t) (k : ∀ σ H R, t' σ H R → t σ H R) : PI X tg e t' := ⟨fun pins s σ H R I q => h.run pins s σ H R I (k σ H R q)⟩
theorem wk_at {K : PySem.W.Frag} {J : It} {F : Hp} {xs : List V} {ds : List D} {G : Hp → Prop} (w : Walk J xs.length G (YAt xs)) (hG : ∀ H, Same F H → G H) (ra : RpAll K F xs ds) : Wk K J F ds := by
  refine ⟨fun i H hi s => w.goes i H (by rw [ra.length]; exact hi) (hG H s), fun H s => by rw [← ra.length]; exact w.stops H (hG H s), fun i H x H' F1 hi s1 s2 y => ?_⟩
  obtain ⟨rfl, hx⟩ := w.yields i H x H' (by rw [ra.length]; exact hi) (hG H (s1.trans s2)) y
  obtain ⟨d, hd, rp⟩ := ra.get' hx
  exact ⟨F1, d, hd, Grow.refl s2, rp.mono s1⟩
theorem wk_pair {K : PySem.W.Frag} {J : It} {F : Hp} {n : Nat} {xs ys : Nat → Option V} {G : Hp → Prop} {ds : List D} (w : Walk J n G (YPair xs ys)) (hG : ∀ H, Same F H → G H) (hn : ds.length = n)
    (hd : ∀ i x y, xs i = some x → ys i = some y → i < n → ∃ d e, ds[i]? = some (.tup [d, e]) ∧ Rp K F x d ∧ Rp K F y e) : Wk K J F ds := by
  subst hn
  refine ⟨fun i H hi s => w.goes i H hi (hG H s), fun H s => w.stops H (hG H s), fun i H x H' F1 hi s1 s2 y => ?_⟩
  obtain ⟨T, u, v, rfl, hT, rfl, hu, hv⟩ := w.yields i H x H' hi (hG H (s1.trans s2)) y
  obtain ⟨d, e, hd, r1, r2⟩ := hd i u v hu hv hi
  have s3 := s1.trans (upd_new (o := HO.tup [u, v]) (s2.free hT))
  exact ⟨upd F1 T (.tup [u, v]), _, hd, Grow.frozen s2 hT, .tup upd_same (.cons (r1.mono s3) (.cons (r2.mono s3) .nil))⟩
variable {tg a b c e : Expr} {ma mb mc me : Rho → R D}
/-- a list, a tuple that is data -/
def mItems (m : Rho → R D) : Rho → R (List D) := fun ρ => (m ρ).bind fun d => match d with
  | .tup xs => .ok xs
  | _ => .bad
def mItemsL (m : Rho → R D) : Rho → R (List D) := fun ρ => (m ρ).bind fun d => match d with
  | .lst xs => .ok xs
  | _ => .bad
theorem i_tup (hK : L.K = X.K) (h : PV X L a ma) : PIm X L tg a (mItems ma) := (pi_tup h).imp fun σ H R ⟨F, ρ, r, q⟩ =>
  TM.go r q fun d v F1 H1 g1 r1 q1 => by
    cases d <;> simp only [] at q1 <;> first | exact q1.elim | skip
    cases r1 with
    | tup hp ra =>
      exact ⟨_, rfl, ⟨_, .inl (.inl (g1.fh _ _ hp))⟩, q1 _ F1 H1 g1 (wk_at walk_tup (fun H s => .inl (.inl (s _ _ hp))) ra)⟩
theorem i_lst (hK : L.K = X.K) (h : PV X L a ma) : PIm X L tg a (mItemsL ma) := (pi_list h).imp fun σ H R ⟨F, ρ, r, q⟩ =>
  TM.go r q fun d v F1 H1 g1 r1 q1 => by
    cases d <;> simp only [] at q1 <;> first | exact q1.elim | skip
    cases r1 with
    | lst hp ra =>
      exact ⟨_, rfl, ⟨_, .inl (.inl (g1.fh _ _ hp))⟩, q1 _ F1 H1 g1 (wk_at walk_list (fun H s => .inl (.inl (s _ _ hp))) ra)⟩
/-- range(n), range(a, b) -/
def rangeD (lo : Int) (n : Nat) : List D := (List.range n).map fun i => .int (lo + (i : Nat))
theorem wk_range {K : PySem.W.Frag} {F : Hp} {lo : Int} {n : Nat} : Wk K (Itr lo n) F (rangeD lo n) := by
  have hl : (rangeD lo n).length = n := by simp [rangeD]
  have w := walk_range (lo := lo) (n := n)
  refine ⟨fun i H hi s => w.goes i H (by rw [← hl]; exact hi) trivial, fun H s => by rw [hl]; exact w.stops H trivial, fun i H x H' F1 hi s1 s2 y => ?_⟩
  obtain ⟨rfl, rfl⟩ := w.yields i H x H' (by rw [← hl]; exact hi) trivial y
  rw [hl] at hi
  refine ⟨F1, .int (lo + (i : Nat)), ?_, Grow.refl s2, .int _⟩
  unfold rangeD
  rw [List.getElem?_map, List.getElem?_range hi]
  rfl
def okRange (j : Int) : Bool := decide (-1000000 ≤ j) && decide (j ≤ 1000000)
def fRange1 : List D → R (List D)
  | [.int j] => if okRange j = true then .ok (rangeD 0 j.toNat) else .bad
  | _ => .bad
def fRange2 : List D → R (List D)
  | [.int i, .int j] => if (okRange i && okRange j) = true then .ok (rangeD i (j - i).toNat) else .bad
  | _ => .bad
def mIter (f : List D → R (List D)) (m : Rho → R (List D)) : Rho → R (List D) := fun ρ => (m ρ).bind f
theorem okRange_iff {j : Int} (h : okRange j = true) : -(2 ^ 62) ≤ j ∧ j < 2 ^ 62 := by
  unfold okRange at h
  simp only [Bool.and_eq_true, decide_eq_true_eq] at h
  omega
variable {p : Pos} {m : Rho → R (List D)}
theorem i_range1 (hm : X.mg "range" = none) (ha : PAV X L [a] m) (hg : Gl X "range" := by rfl) (hs : starEach [a] X.env = [(false, eval a X.env)] := by rfl) : PIm X L tg (.Call (.Name "range" p) [a] [] pos) (mIter fRange1 m) :=
  (pi_range1 hg hm ha hs).imp fun σ H R ⟨F, ρ, r, q⟩ => TL.go r q fun ds vs F1 H1 g1 r1 q1 => by
    unfold fRange1 at q1
    split at q1
    · rename_i j
      cases r1 with
      | cons h t =>
        cases t; cases h
        by_cases hc : okRange j = true
        · rw [if_pos hc] at q1
          exact ⟨j, rfl, (okRange_iff hc).1, (okRange_iff hc).2, q1 _ F1 H1 g1 wk_range⟩
        · rw [if_neg hc] at q1; exact q1.elim
    · exact q1.elim
theorem i_range2 (hm : X.mg "range" = none) (ha : PAV X L [a, b] m) (hg : Gl X "range" := by rfl) (hs : starEach [a, b] X.env = [(false, eval a X.env), (false, eval b X.env)] := by rfl) (hs2 : starEach [b] X.env = [(false, eval b X.env)] := by rfl) :
    PIm X L tg (.Call (.Name "range" p) [a, b] [] pos) (mIter fRange2 m) :=
  (pi_range2 hg hm ha hs hs2).imp fun σ H R ⟨F, ρ, r, q⟩ => TL.go r q fun ds vs F1 H1 g1 r1 q1 => by
    unfold fRange2 at q1
    split at q1
    · rename_i i j
      cases r1 with
      | cons h t =>
        cases t with
        | cons h2 t2 =>
          cases t2; cases h; cases h2
          by_cases hc : (okRange i && okRange j) = true
          · rw [if_pos hc] at q1
            rw [Bool.and_eq_true] at hc
            exact ⟨i, j, rfl, ⟨(okRange_iff hc.1).1, (okRange_iff hc.1).2, (okRange_iff hc.2).1, (okRange_iff hc.2).2⟩, q1 _ F1 H1 g1 wk_range⟩
          · rw [if_neg hc] at q1; exact q1.elim
    · exact q1.elim
/-- zip of two tuples, of two lists -/
def zipD : List D → List D → List D
  | x :: xs, y :: ys => .tup [x, y] :: zipD xs ys
  | _, _ => []
theorem zipD_len : ∀ xs ys : List D, (zipD xs ys).length = min xs.length ys.length
  | [], _ => by simp [zipD]
  | _ :: _, [] => by simp [zipD]
  | x :: xs, y :: ys => by rw [zipD, List.length_cons, List.length_cons, List.length_cons, zipD_len xs ys]; omega
theorem zipD_get : ∀ {xs ys : List D} {i : Nat} {d e : D}, xs[i]? = some d → ys[i]? = some e → (zipD xs ys)[i]? = some (.tup [d, e])
  | [], _, _, _, _, h, _ => by simp at h
  | _ :: _, [], _, _, _, _, h => by simp at h
  | x :: xs, y :: ys, 0, d, e, h1, h2 => by simp at h1 h2; subst h1 h2; rfl
  | x :: xs, y :: ys, i + 1, d, e, h1, h2 => zipD_get (i := i) (by simpa using h1) (by simpa using h2)
def fZip : List D → R (List D)
  | [.tup xs, .tup ys] => .ok (zipD xs ys)
  | [.lst xs, .lst ys] => .ok (zipD xs ys)
  | _ => .bad
theorem walk_zipT {K : PySem.W.Frag} {a b : Addr} {xs ys : List V} {n : Nat} (hn : n = min xs.length ys.length) : Walk (RZ.ItzT K a b) n (fun H => SqT K H a xs ∧ SqT K H b ys) (YPair (fun i => xs[i]?) (fun i => ys[i]?)) := by
  subst hn
  refine ⟨fun i _ hi q => ?_, fun _ q => ⟨xs, ys, q.1, q.2, by omega⟩, fun i H v H' _ q y => ?_⟩
  · have h1 : i < xs.length := by omega
    have h2 : i < ys.length := by omega
    exact ⟨xs, ys, xs[i], ys[i], q.1, q.2, by simp [h1], by simp [h2]⟩
  · obtain ⟨T, x, z, h1, h2, h3, h4, h5⟩ := y
    exact ⟨T, x, z, h1, h2, h3, h4 xs q.1, h5 ys q.2⟩
theorem wk_zip {K : PySem.W.Frag} {J : It} {F : Hp} {xs ys : List V} {ds es : List D} {G : Hp → Prop} (w : Walk J (min xs.length ys.length) G (YPair (fun i => xs[i]?) (fun i => ys[i]?))) (hG : ∀ H, Same F H → G H) (r1 : RpAll K F xs ds) (r2 : RpAll K F ys es) : Wk K J F (zipD ds es) :=
  wk_pair w hG (by rw [zipD_len, r1.length, r2.length]) fun i x y h1 h2 _ => by
    obtain ⟨d, hd, rp⟩ := r1.get' h1
    obtain ⟨e, he, rq⟩ := r2.get' h2
    exact ⟨d, e, zipD_get hd he, rp, rq⟩
theorem i_zip {elts : List Expr} {kk : Nat} {tpos : Pos} (hK : L.K = X.K) (hm : X.mg "zip" = none) (ha : PAV X L [a, b] m) (hg : Gl X "zip" := by rfl)
    (hs : starEach [a, b] X.env = (false, eval a X.env) :: starEach [b] X.env := by rfl) (hpl : (backTo pos (starEach [b] X.env)).any (·.1) = false := by rfl) : PIm X L (.Tuple elts kk tpos) (.Call (.Name "zip" p) [a, b] [] pos) (mIter fZip m) :=
  (RZ.pi_zipA hg hm ha hs hpl).imp fun σ H R ⟨F, ρ, r, q⟩ => TL.go r q fun ds vs F1 H1 g1 r1 q1 => by
    unfold fZip at q1
    split at q1
    · cases r1 with
      | cons h t =>
        cases t with
        | cons h2 t2 =>
          cases t2
          cases h with
          | tup hp ra =>
            cases h2 with
            | tup hp2 rb =>
              exact ⟨_, _, _, _, rfl, .inr ⟨.inl (.inl (g1.fh _ _ hp)), .inl (.inl (g1.fh _ _ hp2)), q1 _ F1 H1 g1 (wk_zip (walk_zipT rfl) (fun H s => ⟨.inl (.inl (s _ _ hp)), .inl (.inl (s _ _ hp2))⟩) ra rb)⟩⟩
    · cases r1 with
      | cons h t =>
        cases t with
        | cons h2 t2 =>
          cases t2
          cases h with
          | lst hp ra =>
            cases h2 with
            | lst hp2 rb =>
              exact ⟨_, _, _, _, rfl, .inl ⟨.inl (.inl (g1.fh _ _ hp)), .inl (.inl (g1.fh _ _ hp2)), q1 _ F1 H1 g1 (wk_zip (walk_zip rfl) (fun H s => ⟨.inl (.inl (s _ _ hp)), .inl (.inl (s _ _ hp2))⟩) ra rb)⟩⟩
    · exact q1.elim

/-! ### enumerate of a tuple -/
theorem meets_enumT {v : Value} {o : Obj} {G : Heap → Prop} (B : Begins v o G) :
    Meets (Builtin.«enumerate.__new__» ⟨[.type "enumerate", v], []⟩) (fun _ R s => G s.heap ∧ R (.ok (.ret (.ref (s.heap.push o).objs.size)))
      { s with heap := (s.heap.push o).push { cls := .type "enumerate", data := .fields #[.none, .bool false, .ref s.heap.objs.size, rawInt 0, .none, .none] } }) :=
  .of_wp fun prog w A R s h => by
    obtain ⟨hp, g, d, tk, os⟩ := s
    obtain ⟨h1, h⟩ := h
    have hsub := sub_enumerate
    have it : ∀ {A' : Around} {E : Value → Shared → Prop} {Q : Value → Shared → Prop}, Q (.ref hp.objs.size) ⟨hp.push o, g, d, tk, os⟩ → wpAny (model prog w) A' (pyIter v) Q E ⟨hp, g, d, tk, os⟩ :=
      fun q => B.iter prog w _ _ ⟨hp, g, d, tk, os⟩ _ h1 q
    wp_walk using it
    refine wpAny_stack_any fun st => wpAny_pure ?_
    split
    · rename_i c _ _ _ _ _
      cases (c == Value.type "enumerate")
      · wp_walk using it
        exact ⟨_, rfl, h⟩
      · wp_walk using it
        exact ⟨_, rfl, h⟩
    · wp_walk using it
      exact ⟨_, rfl, h⟩
theorem call_enumT {prog : Program} {w : World} {A : Around} {E : Value → Shared → Prop} {s : Shared} {v : Value} {o : Obj} {G : Heap → Prop} {Q : Value → Shared → Prop} (B : Begins v o G) (h1 : G s.heap)
    (h : ∀ h', IsEnum h' (s.heap.objs.size + 1) s.heap.objs.size 0 .none → h'.get? s.heap.objs.size = some o → (∀ b o, s.heap.get? b = some o → h'.get? b = some o) → Q (.ref (s.heap.objs.size + 1)) { s with heap := h' }) :
    wpAny (model prog w) A (call (.type "enumerate") [v]) Q E s := by
  refine callType_new F.called_enumerate (by decide) (F.typeCall_enumerate_1 _) (F.newCall_enumerate_1 _) (fun obj => F.args_object_init_2 obj _) F.entry_enumerate_new (meets_enumT B) ⟨h1, ?_⟩
  have hz : (s.heap.push o).objs.size = s.heap.objs.size + 1 := Heap.size_push ..
  show _ ∧ _
  rw [hz]
  have en : IsEnum ((s.heap.push o).push { cls := .type "enumerate", data := .fields #[.none, .bool false, .ref s.heap.objs.size, rawInt 0, .none, .none] }) (s.heap.objs.size + 1) s.heap.objs.size 0 .none := by
    have z := Heap.get?_push_size (s.heap.push o) (o := { cls := .type "enumerate", data := .fields #[.none, .bool false, .ref s.heap.objs.size, rawInt 0, .none, .none] }) rfl
    rw [hz] at z
    exact z
  exact ⟨⟨_, en, rfl⟩, h _ en (Heap.get?_push_of_some _ (Heap.get?_push_size _ B.free)) fun b o x => Heap.get?_push_of_some _ (Heap.get?_push_of_some _ x)⟩
/-- the tuple at a, each item in a new pair -/
def IteT (K : PySem.W.Frag) (a : Addr) : It :=
  ⟨fun i H => ∃ (xs : List V) (x : V), SqT K H a xs ∧ xs[i]? = some x, fun i H v H' => ∃ T x, v = .ref T ∧ H T = none ∧ H' = upd H T (.tup [.int (i : Nat), x]) ∧ ∀ xs, SqT K H a xs → xs[i]? = some x, fun i H => ∃ xs : List V, SqT K H a xs ∧ xs.length = i⟩
theorem turn_enumT {P : Program} {w : World} {K : PySem.W.Frag} {elts : List Expr} {kk : Nat} {tpos : Pos} (a e it : Addr) (hai : a ≠ it) (hae : a ≠ e) :
    Turn P w K (.Tuple elts kk tpos) (IteT K a) [e, it] e (fun i h => (∃ old, IsEnum h e it ((i : Nat) : Int) old) ∧ h.IsTupleIter it a i ∧ e ≠ it) where
  mem := by simp
  obj := fun i h st b hb => by
    obtain ⟨⟨old, he⟩, ⟨o, ho, hc, hd⟩, _⟩ := st
    have q : b = e ∨ b = it := by simpa using hb
    rcases q with z | z
    · rw [z]; exact ⟨_, he, fun v q => nomatch q⟩
    · rw [z]; exact ⟨o, ho, fun v q => by rw [hd] at q; cases q⟩
  keep := fun i h h' st k => let ⟨⟨old, he⟩, hi, hne⟩ := st; ⟨⟨old, k e (by simp) _ he⟩, hi.at fun o q => k it (by simp) o q, hne⟩
  item := by
    intro X hP hw hK hc i pins s σ H E I hf st hg
    subst hP hw hK
    obtain ⟨⟨old, he⟩, hit, hne⟩ := st
    obtain ⟨xs, x, hq, hx⟩ := hg
    obtain ⟨its, rv, pt, hz⟩ := I.tuple hq
    obtain ⟨u, hu, ru⟩ := rv.get hx
    have hel : e < s.heap.objs.size := Heap.lt_size he
    have hil : it < s.heap.objs.size := by obtain ⟨_, q, _⟩ := hit; exact Heap.lt_size q
    have Dr := Draws.tuple (prog := X.prog) (w := X.w) (A := X.A.in1) (I.ok.hd hc) it a hai its.toArray
    have hlt : i < its.toArray.size := by
      rw [List.size_toArray]
      exact (List.getElem?_eq_some_iff.mp hu).1
    refine wpAny_pyNext_enum_itemD Dr he ⟨hit, pt⟩ hlt hne (by simp [hne, Ne.symm hae]) fun y h' tk hy ho st' hT hsz hk => ?_
    have ey : y = u := by
      have z1 : its[i]? = some y := by simpa using hy
      rw [hu] at z1
      exact (Option.some.inj z1).symm
    subst ey
    refine ⟨_, rfl, wpAny_letOwnedTupleGo_enum (s := { s with heap := h', toks := tk + 1 }) ho fun h'' he' sb => ?_⟩
    have hT2 : h''.get? s.heap.objs.size = some { cls := .type "tuple", data := .seq #[.int i tk, y] } := (sb.2 _ (Nat.ne_of_gt hel)).trans hT
    have new : ObjOk X.prog X.w (upd H s.heap.objs.size (.tup [.int (i : Nat), x])) h'' s.heap.objs.size (.tup [.int (i : Nat), x]) :=
      ⟨by show 2 ≤ sizeLine; decide, [.int i tk, y], .cons ⟨_, rfl⟩ (.cons ru .nil), ⟨_, hT2, rfl, _, rfl⟩⟩
    have I1 : Inv X pins σ (upd H s.heap.objs.size (.tup [.int (i : Nat), x])) { s with heap := h'', toks := tk + 1 } :=
      I.turnedNew (ch := [e, it]) (fun b ob hb q => (sb.2 b (fun z => hb (by simp [z]))).trans (hk b ob (fun z => hb (by simp [z])) (fun z => hb (by simp [z])) q)) hf (Nat.le_refl _) new
    refine ⟨.ref s.heap.objs.size, _, I1, rfl, ⟨_, x, rfl, I.hok.fresh (Nat.le_refl _), rfl, fun ys hy => by rw [I.tuple_inj hy hq]; exact hx⟩, ⟨⟨y, ?_⟩, st'.1.at fun o q => (sb.2 it (Ne.symm hne)).trans q, hne⟩, fun b hb => ?_⟩
    · have e1 : ((i + 1 : Nat) : Int) = (i : Int) + 1 := by omega
      rw [e1]; exact he'
    · have lt : b < s.heap.objs.size := by
        have q : b = e ∨ b = it := by simpa using hb
        rcases q with z | z
        · rw [z]; exact hel
        · rw [z]; exact hil
      rw [upd_ne (Nat.ne_of_lt lt)]
      exact (hf b hb).1
  done := by
    intro X hP hw hK hc i pins s σ H E I hf st hg
    subst hP hw hK
    obtain ⟨⟨old, he⟩, hit, hne⟩ := st
    obtain ⟨xs, hq, hx⟩ := hg
    obtain ⟨its, rv, pt, hz⟩ := I.tuple hq
    obtain ⟨f0, f1, f2, f3, f4, f5⟩ := hf it (by simp)
    have Dr := Draws.tuple (prog := X.prog) (w := X.w) (A := X.A.in1) (I.ok.hd hc) it a hai its.toArray
    have ez : its.toArray.size = i := by
      rw [List.size_toArray, ← rv.length]
      exact hx
    exact wpAny_pyNext_enum_endD Dr he (by rw [ez]; exact ⟨hit, pt⟩) fun h' eb => ⟨rfl, I.turned (t' := s.toks) (fun b o hb q => eb b o hb q) f0 f1 f3 f4 f5⟩
  self := fun A i s Q E st h => let ⟨⟨_, he⟩, _⟩ := st; wpAny_pyIter_enum he h
def iEnumT (K : PySem.W.Frag) (ta : TA) : TI := fun σ H R => ta σ H fun vs H1 => ∃ a xs, vs = [.ref a] ∧ SqT K H1 a xs ∧ R (IteT K a) H1
theorem pi_enumT {ta : TA} {elts : List Expr} {kk : Nat} {tpos : Pos} (hg : Gl X "enumerate") (hm : X.mg "enumerate" = none) (ha : PA X [e] ta) (hs : starEach [e] X.env = [(false, eval e X.env)] := by rfl) :
    PI X (.Tuple elts kk tpos) (.Call (.Name "enumerate" p) [e] [] pos) (iEnumT X.K ta) := by
  refine ⟨fun pins s σ H R I h => ?_⟩
  refine Call_ (ld_blt I hg hm boot_enumerate (PyProof.Rows.callWith_type1 (thn (ha.run pos pins s σ H _ I h) fun us s1 ⟨vs, H1, I1, r1, q1⟩ => ?_) hs rfl))
  obtain ⟨a, xs, ex, hq, q⟩ := q1
  subst ex
  cases r1 with
  | cons r rr =>
    cases rr
    cases r
    obtain ⟨its, rv, pt, hz⟩ := I1.tuple hq
    have hal : a < s1.heap.objs.size := by obtain ⟨o, ho, _⟩ := pt; exact Heap.lt_size ho
    refine call_enumT (begins_tuple a its.toArray) pt fun h' he hit hk => wpAny_pyIter_enum he ?_
    have I2 : Inv X pins σ H1 { s1 with heap := h' } := I1.kept (t' := s1.toks) hk
    refine ⟨s1.heap.objs.size + 1, [s1.heap.objs.size + 1, s1.heap.objs.size], _, _, H1, rfl, I2, turn_enumT a (s1.heap.objs.size + 1) s1.heap.objs.size (Nat.ne_of_lt hal) (Nat.ne_of_lt (Nat.lt_succ_of_lt hal)), ⟨⟨.none, he⟩, ⟨_, hit, rfl, rfl⟩, Nat.succ_ne_self _⟩, fun b hb => ?_, q⟩
    have le : s1.heap.objs.size ≤ b := by
      have z : b = s1.heap.objs.size + 1 ∨ b = s1.heap.objs.size := by simpa using hb
      rcases z with z | z
      · rw [z]; exact Nat.le_add_right _ _
      · rw [z]; exact Nat.le_refl _
    exact I1.fpOk le (I1.hok.fresh le)
theorem walk_enumT {K : PySem.W.Frag} {a : Addr} {xs : List V} : Walk (IteT K a) xs.length (fun H => SqT K H a xs) (YPair (fun i => some (.int (i : Nat))) (fun i => xs[i]?)) := by
  refine ⟨fun i _ hi q => ⟨xs, xs[i], q, by simp [hi]⟩, fun _ q => ⟨xs, q, rfl⟩, fun i H v H' _ q y => ?_⟩
  obtain ⟨T, x, h1, h2, h3, h4⟩ := y
  exact ⟨T, .int (i : Nat), x, h1, h2, h3, rfl, h4 xs q⟩
def enumD : Nat → List D → List D
  | _, [] => []
  | n, x :: xs => .tup [.int (n : Nat), x] :: enumD (n + 1) xs
theorem enumD_len : ∀ (n : Nat) (xs : List D), (enumD n xs).length = xs.length
  | _, [] => rfl
  | n, x :: xs => by rw [enumD, List.length_cons, List.length_cons, enumD_len]
theorem enumD_get : ∀ {xs : List D} {n i : Nat} {d : D}, xs[i]? = some d → (enumD n xs)[i]? = some (.tup [.int ((n + i : Nat) : Int), d])
  | [], _, _, _, h => by simp at h
  | x :: xs, n, 0, d, h => by simp at h; subst h; rfl
  | x :: xs, n, i + 1, d, h => by
    have z := enumD_get (xs := xs) (n := n + 1) (i := i) (d := d) (by simpa using h)
    rw [enumD, List.getElem?_cons_succ, z]
    have e : n + 1 + i = n + (i + 1) := by omega
    rw [e]
def fEnumT : List D → R (List D)
  | [.tup xs] => .ok (enumD 0 xs)
  | _ => .bad
def fEnumL : List D → R (List D)
  | [.lst xs] => .ok (enumD 0 xs)
  | _ => .bad
theorem wk_enum {K : PySem.W.Frag} {J : It} {F : Hp} {xs : List V} {ds : List D} {G : Hp → Prop} (w : Walk J xs.length G (YPair (fun i => some (.int (i : Nat))) (fun i => xs[i]?))) (hG : ∀ H, Same F H → G H) (r1 : RpAll K F xs ds) : Wk K J F (enumD 0 ds) :=
  wk_pair w hG (by rw [enumD_len, r1.length]) fun i x y h1 h2 _ => by
    obtain ⟨d, hd, rp⟩ := r1.get' h2
    cases h1
    refine ⟨.int (i : Nat), d, ?_, .int _, rp⟩
    rw [enumD_get hd, Nat.zero_add]
theorem i_enumT {elts : List Expr} {kk : Nat} {tpos : Pos} (hK : L.K = X.K) (hm : X.mg "enumerate" = none) (ha : PAV X L [e] m) (hg : Gl X "enumerate" := by rfl) (hs : starEach [e] X.env = [(false, eval e X.env)] := by rfl) :
    PIm X L (.Tuple elts kk tpos) (.Call (.Name "enumerate" p) [e] [] pos) (mIter fEnumT m) := (pi_enumT hg hm ha hs).imp fun σ H R ⟨F, ρ, r, q⟩ => TL.go r q fun ds vs F1 H1 g1 r1 q1 => by
  unfold fEnumT at q1
  split at q1
  · cases r1 with
    | cons h t =>
      cases t
      cases h with
      | tup hp ra => exact ⟨_, _, rfl, .inl (.inl (g1.fh _ _ hp)), q1 _ F1 H1 g1 (wk_enum walk_enumT (fun H s => .inl (.inl (s _ _ hp))) ra)⟩
  · exact q1.elim
theorem i_enumL {elts : List Expr} {kk : Nat} {tpos : Pos} (hK : L.K = X.K) (hm : X.mg "enumerate" = none) (ha : PAV X L [e] m) (hg : Gl X "enumerate" := by rfl) (hs : starEach [e] X.env = [(false, eval e X.env)] := by rfl) :
    PIm X L (.Tuple elts kk tpos) (.Call (.Name "enumerate" p) [e] [] pos) (mIter fEnumL m) := (pi_enum hg hm ha hs).imp fun σ H R ⟨F, ρ, r, q⟩ => TL.go r q fun ds vs F1 H1 g1 r1 q1 => by
  unfold fEnumL at q1
  split at q1
  · cases r1 with
    | cons h t =>
      cases t
      cases h with
      | lst hp ra => exact ⟨_, _, rfl, .inl (.inl (g1.fh _ _ hp)), q1 _ F1 H1 g1 (wk_enum walk_enum (fun H s => .inl (.inl (s _ _ hp))) ra)⟩
  · exact q1.elim

/-! ### for -/
def forGo (t : D → Rho → R Rho) (mb : Rho → R Out) : List D → Rho → R Out
  | [], ρ => .ok (.nx ρ)
  | d :: ds, ρ => match t d ρ with
    | .ok ρ1 => (match mb ρ1 with
      | .ok (.nx ρ2) => forGo t mb ds ρ2
      | .ok (.ct ρ2) => forGo t mb ds ρ2
      | .ok (.bk ρ2) => .ok (.nx ρ2)
      | r => r)
    | _ => .bad
def mFor (mi : Rho → R (List D)) (t : D → Rho → R Rho) (mb : Rho → R Out) : Rho → R Out := fun ρ => (mi ρ).bind fun ds => forGo t mb ds ρ
theorem TIm.goS {σ : L2.St} {F H G : Hp} {ρ : Rho} {m : Rho → R (List D)} {f : List D → R Out} {E : Ends} {Q : It → Hp → Prop} (r : Rep L.K L.F0 L.H0 F H σ ρ) (h : PostS L G ((m ρ).bind f) E)
    (k : ∀ ds J F' H', Grow F H F' H' → Wk L.K J F' ds → PostS L G (f ds) E → Q J H') : TIm L m σ H Q := by
  refine ⟨F, ρ, r, ?_⟩
  cases e : m ρ with
  | ok ds => rw [e] at h; exact fun J F' H' g w => k ds J F' H' g w h
  | ex c => rw [e] at h; exact exS.ok h r
  | bad => rw [e] at h; exact h
theorem s_for {t : D → Rho → R Rho} {vs : List Nat} {body : List Stmt} {mi : Rho → R (List D)} {mb : Rho → R Out} (hp : PassesOwn (model X.prog X.w) X.A X.env X.xe) (hc : X.calm = true) (hi : PIm X L tg a mi) (hg : PGm X L tg t vs) (hb : PSsm X L body mb)
    (hs : ∀ x, foldedSetIterable a X.env x = pure x := by intro _; rfl) : PSm X L (.For tg a body [] pos) (mFor mi t mb) := (ps_for hp hc hi hg hb hs).imp fun D σ H ⟨F, ρ, r, q⟩ => by
  refine TIm.goS r q fun ds J F1 H1 g1 w q1 => ?_
  refine ⟨fun i k σ' H' => k = ds.length - i ∧ i ≤ ds.length ∧ ∃ F' ρ', Rep L.K L.F0 L.H0 F' H' σ' ρ' ∧ Same F1 F' ∧ PostS L F' (forGo t mb (ds.drop i) ρ') D, ⟨_, rfl, Nat.zero_le _, F1, ρ, r.grow g1, Same.refl F1, q1.mono g1.ff⟩, ?_⟩
  rintro i k σ' H' ⟨rfl, hle, F', ρ', r', s', q'⟩
  by_cases hlt : i < ds.length
  · refine .inr ⟨w.goes i H' hlt (s'.trans r'.sub), fun σ2 H2 => ∃ F2 ρ2, Rep L.K L.F0 L.H0 F2 H2 σ2 ρ2 ∧ Same F1 F2 ∧ PostS L F2 (forGo t mb (ds.drop (i + 1)) ρ2) D, fun σ2 H2 ⟨F2, ρ2, r2, s2, q2⟩ => ⟨ds.length - (i + 1), by omega, rfl, hlt, F2, ρ2, r2, s2, q2⟩, fun x H2 y => ?_⟩
    obtain ⟨F2, d, hd, g2, rp⟩ := w.yields i H' x H2 F' hlt s' r'.sub y
    have e1 : ds.drop i = d :: ds.drop (i + 1) := by
      rw [List.drop_eq_getElem_cons hlt]
      have z := List.getElem?_eq_getElem hlt
      rw [hd] at z
      rw [Option.some.inj z]
    rw [e1, forGo] at q'
    cases et : t d ρ' with
    | bad => rw [et] at q'; exact q'.elim
    | ex c => rw [et] at q'; exact q'.elim
    | ok ρ1 =>
      simp only [et] at q'
      refine ⟨F2, ρ', d, ρ1, r'.grow g2, rp, et, fun σ3 r3 _ _ => ⟨F2, ρ1, r3, ?_⟩⟩
      cases em : mb ρ1 with
      | bad => rw [em] at q'; exact q'
      | ex c => rw [em] at q'; exact q'
      | ok o =>
        rw [em] at q'
        cases o with
        | nx ρ2 => exact fun σ4 F4 H4 r4 s4 => ⟨F4, ρ2, r4, (s'.trans g2.ff).trans s4, q'.mono (g2.ff.trans s4)⟩
        | ct ρ2 => exact fun σ4 F4 H4 r4 s4 => ⟨F4, ρ2, r4, (s'.trans g2.ff).trans s4, q'.mono (g2.ff.trans s4)⟩
        | bk ρ2 => exact fun σ4 F4 H4 r4 s4 => q' σ4 F4 H4 r4 (g2.ff.trans s4)
        | rt d => exact q'
  · have e : i = ds.length := by omega
    subst e
    rw [List.drop_length, forGo] at q'
    exact .inl ⟨w.stops H' (s'.trans r'.sub), q' σ' F' H' r' (Same.refl F')⟩

/-! ### while, with so much fuel -/
def whGo (c : Rho → R Bool) (mb : Rho → R Out) : Nat → Rho → R Out
  | 0, _ => .bad
  | n + 1, ρ => (c ρ).bind fun b => if b = true then (match mb ρ with
    | .ok (.nx ρ2) => whGo c mb n ρ2
    | .ok (.ct ρ2) => whGo c mb n ρ2
    | .ok (.bk ρ2) => .ok (.nx ρ2)
    | r => r) else .ok (.nx ρ)
def fuel : Nat := 1000000
def mWhile (c : Rho → R Bool) (mb : Rho → R Out) : Rho → R Out := fun ρ => whGo c mb fuel ρ
theorem s_while {c : Expr} {body : List Stmt} {qc : Rho → R Bool} {mb : Rho → R Out} (hp : PassesOwn (model X.prog X.w) X.A X.env X.xe) (hc : PQ X L c qc) (hb : PSsm X L body mb) : PSm X L (.While c body [] pos) (mWhile qc mb) :=
  (ps_while hp hc hb).imp fun D σ H ⟨F, ρ, r, q⟩ => by
    refine ⟨fun n σ' H' => ∃ F' ρ', Rep L.K L.F0 L.H0 F' H' σ' ρ' ∧ PostS L F' (whGo qc mb n ρ') D, ⟨fuel, F, ρ, r, q⟩, ?_⟩
    rintro n σ' H' ⟨F', ρ', r', q'⟩
    cases n with
    | zero => exact q'.elim
    | succ n =>
      rw [whGo] at q'
      refine TB.goS r' q' fun k F2 H2 g2 z => ?_
      cases k with
      | false => exact iteF (z σ' F2 H2 (r'.grow g2) g2.ff)
      | true =>
        refine iteT ⟨fun σ3 H3 => ∃ F3 ρ3, Rep L.K L.F0 L.H0 F3 H3 σ3 ρ3 ∧ PostS L F3 (whGo qc mb n ρ3) D, fun σ3 H3 h3 => ⟨n, Nat.lt_succ_self n, h3⟩, F2, ρ', r'.grow g2, ?_⟩
        simp only [if_true] at z
        cases em : mb ρ' with
        | bad => rw [em] at z; exact z
        | ex c => rw [em] at z; exact z
        | ok o =>
          rw [em] at z
          cases o with
          | nx ρ2 => exact fun σ4 F4 H4 r4 s4 => ⟨F4, ρ2, r4, z.mono (g2.ff.trans s4)⟩
          | ct ρ2 => exact fun σ4 F4 H4 r4 s4 => ⟨F4, ρ2, r4, z.mono (g2.ff.trans s4)⟩
          | bk ρ2 => exact fun σ4 F4 H4 r4 s4 => z σ4 F4 H4 r4 (g2.ff.trans s4)
          | rt d => exact z
end
end VL

/-! VL8: comprehensions, calls of defs, defs by their mirrors, raise, several targets. -/
namespace VL
open PySem PySem.Spec PyProof.Rows L2

/-! ### slots forgotten -/
def wipeR (ρ : Rho) : List Nat → Rho
  | [] => ρ
  | v :: vs => (wipeR ρ vs).set v .un
theorem Rep.setUn {K : PySem.W.Frag} {F0 H0 F H : Hp} {σ : L2.St} {ρ : Rho} (r : Rep K F0 H0 F H σ ρ) (i : Nat) (o : Option V) : Rep K F0 H0 F H (σ.set i o) (ρ.set i .un) := by
  have at_ : ∀ {j : Nat} {b : A}, (ρ.set i .un)[j]? = some b → b.own = true → i ≠ j ∧ ρ[j]? = some b := fun {j b} e ho => by
    by_cases hj : i = j
    · subst hj
      obtain ⟨h1, _⟩ := List.getElem?_eq_some_iff.mp e
      rw [List.length_set] at h1
      rw [List.getElem?_set_self h1] at e
      cases e; cases ho
    · rw [List.getElem?_set_ne hj] at e; exact ⟨hj, e⟩
  refine ⟨r.sub, r.aH, r.aF, r.an, by rw [List.length_set, List.length_set]; exact r.len, fun j a e => ?_, fun j k p a b hjk ea eb ha hb ej ek => ?_⟩
  · by_cases hj : i = j
    · subst hj
      obtain ⟨h1, _⟩ := List.getElem?_eq_some_iff.mp e
      rw [List.length_set] at h1
      rw [List.getElem?_set_self h1] at e
      cases e; trivial
    · rw [List.getElem?_set_ne hj] at e ⊢
      exact r.slot j a e
  · obtain ⟨n1, e1⟩ := at_ ea ha
    obtain ⟨n2, e2⟩ := at_ eb hb
    rw [List.getElem?_set_ne n1] at ej
    rw [List.getElem?_set_ne n2] at ek
    exact r.sep j k p a b hjk e1 e2 ha hb ej ek
theorem Rep.wipe {K : PySem.W.Frag} {F0 H0 F H : Hp} {σ : L2.St} {ρ : Rho} (r : Rep K F0 H0 F H σ ρ) : ∀ vs : List Nat, Rep K F0 H0 F H (L2.wipe σ vs) (wipeR ρ vs)
  | [] => r
  | v :: vs => (Rep.wipe r vs).setUn v none
theorem wipe_in {σ : L2.St} {i : Nat} : ∀ {vs : List Nat}, i ∈ vs → i < σ.length → (L2.wipe σ vs)[i]? = some none
  | [], h, _ => by cases h
  | v :: vs, h, hi => by
    unfold L2.wipe
    by_cases e : v = i
    · subst e
      exact List.getElem?_set_self (by rw [wipe_length]; exact hi)
    · rw [List.getElem?_set_ne e]
      rcases List.mem_cons.mp h with z | z
      · exact absurd z.symm e
      · exact wipe_in z hi
theorem wipe_eq {σ σ2 : L2.St} {own vs : List Nat} (hv : ∀ j ∈ vs, j ∈ own) (h : ∀ j, j ∉ vs → σ2[j]? = (L2.wipe σ own)[j]?) (hl : σ2.length = (L2.wipe σ own).length) : L2.wipe σ2 own = L2.wipe σ own := by
  refine List.ext_getElem? fun j => ?_
  by_cases hj : j ∈ own
  · by_cases hlt : j < σ.length
    · rw [wipe_in hj hlt, wipe_in hj (by rw [hl, wipe_length]; exact hlt)]
    · rw [List.getElem?_eq_none (by rw [wipe_length, hl, wipe_length]; omega), List.getElem?_eq_none (by rw [wipe_length]; omega)]
  · rw [wipe_out hj, h j (fun z => hj (hv j z))]
/-- an object that no slot owns is changed -/
theorem Rep.other {K : PySem.W.Frag} {F0 H0 F H : Hp} {σ : L2.St} {ρ : Rho} {p : Addr} {o : HO} (r : Rep K F0 H0 F H σ ρ) (hf : F p = none) (h0 : H0 p = none)
    (hn : ∀ (j : Nat) (b : A), ρ[j]? = some b → b.own = true → σ[j]? = some (some (.ref p)) → False) : Rep K F0 H0 F (upd H p o) σ ρ := by
  refine ⟨r.sub.skip hf, fun q x e => ?_, r.aF, r.an, r.len, fun j a e => ?_, r.sep⟩
  · rw [upd_ne (ne_of_none e h0)]; exact r.aH q x e
  · have s := r.slot j a e
    cases a with
    | un => trivial
    | d x => exact s
    | m xs =>
      obtain ⟨q, vs, e1, h, f, h0', rr⟩ := s
      refine ⟨q, vs, e1, ?_, f, h0', rr⟩
      rw [upd_ne (show q ≠ p from fun z => hn j _ e rfl (by rw [← z]; exact e1))]
      exact h
    | md ks xs =>
      obtain ⟨q, vs, e1, h, f, h0', q1, rr⟩ := s
      refine ⟨q, vs, e1, ?_, f, h0', q1, rr⟩
      rw [upd_ne (show q ≠ p from fun z => hn j _ e rfl (by rw [← z]; exact e1))]
      exact h

/-! ### comprehensions -/
def lcf (t : D → Rho → R Rho) (q : Rho → R Bool) (me : Rho → R D) (ρ : Rho) (d : D) : R (Option D) := match t d ρ with
  | .ok ρ1 => (match q ρ1 with
    | .ok true => (match me ρ1 with
      | .ok y => .ok (some y)
      | _ => .bad)
    | .ok false => .ok none
    | _ => .bad)
  | _ => .bad
def lcGo (f : D → R (Option D)) : List D → R (List D)
  | [] => .ok []
  | d :: ds => match f d with
    | .ok (some y) => (match lcGo f ds with
      | .ok r => .ok (y :: r)
      | _ => .bad)
    | .ok none => lcGo f ds
    | _ => .bad
def mLc (own : List Nat) (mi : Rho → R (List D)) (t : D → Rho → R Rho) (q : Rho → R Bool) (me : Rho → R D) : Rho → R D := fun ρ => (mi ρ).bind fun ds => match lcGo (lcf t q me (wipeR ρ own)) ds with
  | .ok out => if out.length ≤ 1000000 then .ok (.lst out) else .bad
  | _ => .bad
def mYes : Rho → R Bool := fun _ => .ok true
/-- no exception is wished for in a block -/
abbrev Lv.blk (L : Lv) : Lv := { L with W := fun _ _ _ _ => False }
section
variable {X : Cx} {L : Lv} {pos : Pos}
abbrev PQs (X : Cx) (L : Lv) (ifs : List Expr) (m : Rho → R Bool) : Prop := PTs X ifs (TB L m)
theorem qs_nil : PQs X L [] mYes := by
  refine ⟨fun pins s σ H Q I h => ?_⟩
  obtain ⟨F, ρ, r, q⟩ := h
  exact pts_nil.run pins s σ H Q I (q F H (Grow.refl r.sub))
theorem qs_one {c : Expr} {m : Rho → R Bool} (h : PQ X L c m) : PQs X L [c] m := pts_one h
theorem TIm.go {β : Type} {σ : L2.St} {F H : Hp} {ρ : Rho} {m : Rho → R (List D)} {f : List D → R β} {C : β → Prop} {Q : It → Hp → Prop} (r : Rep L.K L.F0 L.H0 F H σ ρ) (h : Post L σ H ((m ρ).bind f) C)
    (k : ∀ ds J F' H', Grow F H F' H' → Wk L.K J F' ds → Post L σ H' (f ds) C → Q J H') : TIm L m σ H Q :=
  ⟨F, ρ, r, h.bind.mono (Same.refl H) fun ds _ q J F' H' g w => k ds J F' H' g w (q.mono g.hh fun _ _ z => z)⟩
theorem tLc_of {own vs : List Nat} {mi : Rho → R (List D)} {t : D → Rho → R Rho} {q : Rho → R Bool} {me : Rho → R D} (hv : ∀ j ∈ vs, j ∈ own) (σ : L2.St) (H : Hp) (Q : VK) (h : TM L (relV L) (mLc own mi t q me) σ H Q) :
    tLc (TIm L mi) (TGm L.blk t vs) (TB L.blk q) (TM L.blk (relV L.blk) me) own σ H Q := by
  obtain ⟨F, ρ, r, p⟩ := h
  refine TIm.go r p fun ds J F1 H1 g1 w q1 => fun D hD => ?_
  cases el : lcGo (lcf t q me (wipeR ρ own)) ds with
  | bad => rw [el] at q1; exact q1.elim
  | ex c => rw [el] at q1; exact q1.elim
  | ok out =>
    simp only [el] at q1
    by_cases hz : out.length ≤ 1000000
    · rw [if_pos hz] at q1
      have rw0 : Rep L.K L.F0 L.H0 F1 H1 (L2.wipe σ own) (wipeR ρ own) := (r.grow g1).wipe own
      have own0 : ∀ (j : Nat) (b : A), (wipeR ρ own)[j]? = some b → b.own = true → (L2.wipe σ own)[j]? = some (some (.ref D)) → False := fun j b e ho es => fresh_own (F' := F1) (H' := H1) rw0 hD e ho es
      have fD : F1 D = none := g1.fh.free hD
      have h0D : L.H0 D = none := rw0.aH.free hD
      refine ⟨fun i k H' => k = ds.length - i ∧ i ≤ ds.length ∧ ∃ F' acc done rest, Rep L.K L.F0 L.H0 F' H' (L2.wipe σ own) (wipeR ρ own) ∧ Same F1 F' ∧ Same H1 H' ∧ (∀ b, H1 b ≠ none → F1 b = none → F' b = none) ∧ H' D = some (.lst acc) ∧ F' D = none ∧ RpAll L.K F' acc done ∧ lcGo (lcf t q me (wipeR ρ own)) (ds.drop i) = .ok rest ∧ done ++ rest = out,
        ⟨_, rfl, Nat.zero_le _, F1, [], [], out, rw0.other fD h0D own0, Same.refl F1, upd_new hD, fun _ _ z => z, upd_same, fD, .nil, el, rfl⟩, ?_⟩
      rintro i k H' ⟨rfl, hle, F', acc, done, rest, r', sF, sH, nw, hd, fd, ra, er, eo⟩
      by_cases hlt : i < ds.length
      · refine .inr ⟨w.goes i H' hlt (sF.trans r'.sub), fun H2 => i + 1 ≤ ds.length ∧ ∃ F' acc done rest, Rep L.K L.F0 L.H0 F' H2 (L2.wipe σ own) (wipeR ρ own) ∧ Same F1 F' ∧ Same H1 H2 ∧ (∀ b, H1 b ≠ none → F1 b = none → F' b = none) ∧ H2 D = some (.lst acc) ∧ F' D = none ∧ RpAll L.K F' acc done ∧ lcGo (lcf t q me (wipeR ρ own)) (ds.drop (i + 1)) = .ok rest ∧ done ++ rest = out,
          fun H2 h2 => ⟨ds.length - (i + 1), by omega, rfl, h2.1, h2.2⟩, fun x H2 y => ?_⟩
        obtain ⟨F2, d, hdd, g2, rp⟩ := w.yields i H' x H2 F' hlt sF r'.sub y
        have e1 : ds.drop i = d :: ds.drop (i + 1) := by
          rw [List.drop_eq_getElem_cons hlt]
          have z := List.getElem?_eq_getElem hlt
          rw [hdd] at z
          rw [Option.some.inj z]
        rw [e1, lcGo] at er
        cases ef : lcf t q me (wipeR ρ own) d with
        | bad => rw [ef] at er; cases er
        | ex c => rw [ef] at er; cases er
        | ok o =>
          have ef' := ef
          unfold lcf at ef'
          cases et : t d (wipeR ρ own) with
          | bad => rw [et] at ef'; cases ef'
          | ex c => rw [et] at ef'; cases ef'
          | ok ρ1 =>
            simp only [et] at ef'
            refine ⟨F2, wipeR ρ own, d, ρ1, r'.grow g2, rp, et, fun σ2 r2 hs2 hl2 => ⟨wipe_eq hv hs2 hl2, F2, ρ1, r2, ?_⟩⟩
            cases eq : q ρ1 with
            | bad => rw [eq] at ef'; cases ef'
            | ex c => rw [eq] at ef'; cases ef'
            | ok b =>
              rw [eq] at ef'
              refine fun F3 H3 g3 => ?_
              have hne : H' D ≠ none := by rw [hd]; exact Option.some_ne_none _
              have keep : ∀ {F4 H4 : Hp}, Grow F' H' F4 H4 → Rep L.K L.F0 L.H0 F4 H4 (L2.wipe σ own) (wipeR ρ own) ∧ Same F1 F4 ∧ Same H1 H4 ∧ (∀ b, H1 b ≠ none → F1 b = none → F4 b = none) ∧ H4 D = some (.lst acc) ∧ F4 D = none ∧ RpAll L.K F4 acc done := fun {F4 H4} g =>
                ⟨r'.grow g, sF.trans g.ff, sH.trans g.hh, fun b h1 h2 => g.new b (sH.some_ne h1) (nw b h1 h2), g.hh _ _ hd, g.new D hne fd, ra.mono g.ff⟩
              cases b with
              | false =>
                cases ef'
                simp only [ef] at er
                obtain ⟨k1, k2, k3, k4, k5, k6, k7⟩ := keep (g2.trans g3)
                exact iteF ⟨hlt, F3, acc, done, rest, k1, k2, k3, k4, k5, k6, k7, er, eo⟩
              | true =>
                cases em : me ρ1 with
                | bad => simp only [em] at ef'; cases ef'
                | ex c => simp only [em] at ef'; cases ef'
                | ok y =>
                  simp only [em] at ef'
                  cases ef'
                  simp only [ef] at er
                  cases er2 : lcGo (lcf t q me (wipeR ρ own)) (ds.drop (i + 1)) with
                  | bad => rw [er2] at er; cases er
                  | ex c => rw [er2] at er; cases er
                  | ok rest2 =>
                    rw [er2] at er
                    cases er
                    refine iteT ⟨F3, ρ1, r2.grow g3, ?_⟩
                    rw [em]
                    intro v F4 H4 g4 rv
                    obtain ⟨k1, k2, k3, k4, k5, k6, k7⟩ := keep ((g2.trans g3).trans g4)
                    have hlen : acc.length < 1000000 := by
                      have z := congrArg List.length eo
                      rw [List.length_append, List.length_cons] at z
                      rw [ra.length]
                      omega
                    refine ⟨acc, k5, line6' hlen, hlt, F4, acc ++ [v], done ++ [y], rest2, k1.other k6 h0D own0, k2, fun b o e => ?_, k4, upd_same, k6, k7.append (.one rv), rfl, by rw [List.append_assoc]; exact eo⟩
                    rw [upd_ne (ne_of_none e hD)]
                    exact k3 b o e
      · have ei : i = ds.length := by omega
        subst ei
        rw [List.drop_length, lcGo] at er
        cases er
        rw [List.append_nil] at eo
        subst eo
        refine .inl ⟨w.stops H' (sF.trans r'.sub), q1 (.ref D) (upd F' D (.lst acc)) H' (g1.trans ⟨sH, sF.trans (upd_new fd), fun b o e => ?_, fun b h1 h2 => ?_⟩) (.lst upd_same (ra.mono (upd_new fd)))⟩
        · by_cases hb : b = D
          · subst hb; rw [upd_same] at e; cases e; exact hd
          · rw [upd_ne hb] at e; exact r'.sub b o e
        · rw [upd_ne (show b ≠ D from fun z => h1 (by rw [z]; exact hD))]; exact nw b h1 h2
    · rw [if_neg hz] at q1; exact q1.elim
variable {elt tg iter : Expr} {ifs : List Expr} {scope : Scope} {own : List (Str × Nat)} {vs : List Nat} {mi : Rho → R (List D)} {t : D → Rho → R Rho} {q : Rho → R Bool} {me : Rho → R D}
theorem v_lc (hv : ∀ j ∈ vs, j ∈ own.map (·.2)) (hc : X.calm = true) (hN : X.N.Nodup) (hi : PIm X L tg iter mi) (ok : BlkOk X.N X.env.scope scope own)
    (hg : ∀ (s : Shared) (H : Hp) (C : Addr) (cl : List (Str × Addr)) (fp : List Addr), PGm (X.blk s H scope (compEnvC scope cl C X.env) fp) L.blk tg t vs)
    (ht : ∀ (s : Shared) (H : Hp) (C : Addr) (cl : List (Str × Addr)) (fp : List Addr), PQs (X.blk s H scope (compEnvC scope cl C X.env) fp) L.blk ifs q)
    (he : ∀ (s : Shared) (H : Hp) (C : Addr) (cl : List (Str × Addr)) (fp : List Addr), PV (X.blk s H scope (compEnvC scope cl C X.env) fp) L.blk elt me)
    (hs : ∀ x, foldedSetIterable iter X.env x = pure x := by intro _; rfl) : PV X L (.ListComp elt [⟨tg, iter, ifs, 0⟩] scope pos) (mLc (own.map (·.2)) mi t q me) :=
  (pe_lc hc hN hi ok hg ht he hs).imp fun σ H Q => tLc_of hv σ H Q
/-- name = [..] -/
theorem s_setLc (i : Nat) {y : Str} {py spos : Pos} (hv : ∀ j ∈ vs, j ∈ own.map (·.2)) (hc : X.calm = true) (hN : X.N.Nodup) (hi : PIm X L tg iter mi) (ok : BlkOk X.N X.env.scope scope own)
    (hg : ∀ (s : Shared) (H : Hp) (C : Addr) (cl : List (Str × Addr)) (fp : List Addr), PGm (X.blk s H scope (compEnvC scope cl C X.env) fp) L.blk tg t vs)
    (ht : ∀ (s : Shared) (H : Hp) (C : Addr) (cl : List (Str × Addr)) (fp : List Addr), PQs (X.blk s H scope (compEnvC scope cl C X.env) fp) L.blk ifs q)
    (he : ∀ (s : Shared) (H : Hp) (C : Addr) (cl : List (Str × Addr)) (fp : List Addr), PV (X.blk s H scope (compEnvC scope cl C X.env) fp) L.blk elt me)
    (hsw : swapsWith (.ListComp elt [⟨tg, iter, ifs, 0⟩] scope pos) (some (.Name y py)) spos.line X.env = pure true) (hy : X.N[i]? = some y := by rfl) (hyl : X.env.scope.names.lookup y = some .local := by rfl)
    (hs : ∀ x, foldedSetIterable iter X.env x = pure x := by intro _; rfl) : PSm X L (.Assign [.Name y py] (.ListComp elt [⟨tg, iter, ifs, 0⟩] scope pos) spos) (mSet i (mLc (own.map (·.2)) mi t q me)) :=
  (ps_setLc hc hN hy hyl hsw hi ok hg ht he hs).imp fun D σ H ⟨F, ρ, r, z⟩ => by
    refine tLc_of hv σ H _ ?_
    refine ⟨F, ρ, r, ?_⟩
    unfold mSet at z
    cases e : mLc (own.map (·.2)) mi t q me ρ with
    | bad => rw [e] at z; exact z.elim
    | ex c => rw [e] at z; exact exS.ok z r
    | ok d => rw [e] at z; exact fun v F' H' g rv => z _ F' H' ((r.grow g).setD rv) g.ff

/-! ### defs -/
/-- what a def with the mirror g promises -/
def spV (K : PySem.W.Frag) (mg : Str → Option Value) (n : Nat) (g : List D → R D) : Sp := fun vs H Q E => vs.length = n ∧ ∃ F ds, Same F H ∧ RpAll K F vs ds ∧ match g ds with
  | .ok d => ∀ v F' H', Grow F H F' H' → Rp K F' v d → Q v H'
  | .ex c => ∀ H', Same H H' → ∀ C, mg c = some C → E C none H'
  | .bad => False
def mFn (n : Nat) (g : List D → R D) (m : Rho → R (List D)) : Rho → R D := fun ρ => (m ρ).bind fun ds => if ds.length = n then g ds else .bad
theorem v_fn {k : Nat} {f : Addr} {fd : FuncData} {ps : List Str} {g : List D → R D} {x : Str} {p : Pos} {e : Expr} {es : List Expr} {m : Rho → R (List D)} (F : FnOk X.prog X.w X.K X.mg X.base (L2.CX X.prog X.w) k f fd ps (spV X.K X.mg ps.length g)) (hr : Room k X.A)
    (hm : X.mg x = some (.ref f)) (hk : PySem.W.keepIn X.K (.ref f) = true) (hb : Binds X.K fd ps []) (tk : Takes X L.W) (hK : L.K = X.K) (hM : L.mg = X.mg) (ha : PAV X L (e :: es) m) (hg : Gl X x := by rfl)
    (hdb : (x == ("__debug__" : Str)) = false := by decide) (he : starEach (e :: es) X.env = (false, eval e X.env) :: starEach es X.env := by rfl) (hpl : (backTo pos (starEach es X.env)).any (·.1) = false := by rfl) :
    PV X L (.Call (.Name x p) (e :: es) [] pos) (mFn ps.length g m) :=
  (pe_callS F hr hg hm hk hb (fun σ => passAt tk σ) ha hdb he hpl).imp fun σ H Q ⟨F, ρ, r, q⟩ => TL.go r q fun ds vs F1 H1 g1 r1 q1 => by
    by_cases hl : ds.length = ps.length
    · rw [if_pos hl] at q1
      refine ⟨by rw [r1.length]; exact hl, F1, ds, g1.fh, hK ▸ r1, ?_⟩
      cases eg : g ds with
      | bad => rw [eg] at q1; exact q1
      | ex c => rw [eg] at q1; exact fun H' s C e => q1 H' s C (by rw [hM]; exact e)
      | ok d => rw [eg] at q1; exact fun v F' H' gg rv => q1 v F' H' (g1.trans gg) (show Rp L.K F' v d from hK ▸ rv)
    · rw [if_neg hl] at q1; exact q1.elim
/-- the body run on its arguments; N: how many slots -/
def runB (N : Nat) (m : Rho → R Out) (ds : List D) : R D := match m (ds.map A.d ++ List.replicate (N - ds.length) A.un) with
  | .ok (.rt d) => .ok d
  | .ok (.nx _) => .ok .non
  | .ok _ => .bad
  | .ex c => .ex c
  | .bad => .bad
theorem rep_start {K : PySem.W.Frag} {F H : Hp} {vs : List V} {ds : List D} (s : Same F H) (ra : RpAll K F vs ds) (n : Nat) : Rep K F H F H (vs.map some ++ List.replicate n none) (ds.map A.d ++ List.replicate n A.un) := by
  have own : ∀ (i : Nat) (a : A), (ds.map A.d ++ List.replicate n A.un)[i]? = some a → a.own = true → False := fun i a e ho => by
    have z := List.mem_of_getElem? e
    rcases List.mem_append.mp z with z | z
    · obtain ⟨d, _, rfl⟩ := List.mem_map.mp z
      cases ho
    · rw [(List.mem_replicate.mp z).2] at ho
      cases ho
  refine ⟨s, Same.refl H, Same.refl F, fun _ _ z => z, by simp [ra.length], fun i a e => ?_, fun i j p a b _ ea _ ha _ _ _ => (own i a ea ha).elim⟩
  by_cases hi : i < ds.length
  · rw [List.getElem?_append_left (by rw [List.length_map]; exact hi), List.getElem?_map, List.getElem?_eq_getElem hi] at e
    cases e
    obtain ⟨v, hv, rp⟩ := ra.get (List.getElem?_eq_getElem hi)
    refine ⟨v, ?_, rp⟩
    rw [List.getElem?_append_left (by rw [List.length_map, ra.length]; exact hi), List.getElem?_map, hv]
    rfl
  · rw [List.getElem?_append_right (by rw [List.length_map]; omega)] at e
    have z := List.mem_of_getElem? e
    rw [(List.mem_replicate.mp z).2]
    trivial
/-- THE RULE for a def -/
theorem fnV {P : Program} {w : World} {K : PySem.W.Frag} {mg : Str → Option Value} {base : Heap} {x qual : Str} {params : Arguments} {body : List Stmt} {scope : Scope} {dvs : List V} {kws : List (Str × V)} {f : Addr} {fd : FuncData} {N ps : List Str} {k : Nat} {m : Rho → R Out}
    (F : FunD K x qual params body scope dvs kws f fd) (S : FnScope N ps scope)
    (hb : ∀ (cdv : Value) (A : Around) (outer : List Env) (s : Shared) (H F0 : Hp) (E : XK), Room k (A.deeper (envOfC qual scope s.heap.objs.size f cdv)) →
      Takes (cxOf (L2.CX P w) P w K mg base N qual scope f cdv A outer s H E) (fun cls d _ H' => E cls d H') →
      PassesOwn (model P w) (A.deeper (envOfC qual scope s.heap.objs.size f cdv)) (envOfC qual scope s.heap.objs.size f cdv) (cxOf (L2.CX P w) P w K mg base N qual scope f cdv A outer s H E).xe → Same F0 H →
      PSsm (cxOf (L2.CX P w) P w K mg base N qual scope f cdv A outer s H E) ⟨K, mg, fun cls d _ H' => E cls d H', F0, H⟩ body m) :
    FnOk P w K mg base (L2.CX P w) (k + 1) f fd ps (spV K mg ps.length (runB N.length m)) := by
  refine F.ok S (fun vs H Q E h => h.1) fun cdv A outer s H vs Q E hr h => ?_
  obtain ⟨hl, F0, ds, sm, ra, q⟩ := h
  refine ⟨_, hb cdv A outer s H F0 E hr (takes_of rfl rfl rfl rfl) (passes_of rfl) sm, F0, ds.map VL.A.d ++ List.replicate (N.length - ds.length) VL.A.un, ?_, ?_⟩
  · have z := rep_start sm ra (N.length - ds.length)
    unfold L2.start
    rw [ra.length]
    exact z
  · unfold runB at q
    cases em : m (ds.map VL.A.d ++ List.replicate (N.length - ds.length) VL.A.un) with
    | bad => rw [em] at q; exact q.elim
    | ex c => rw [em] at q; exact fun σ' H' s C e => q H' s C e
    | ok o =>
      rw [em] at q
      cases o with
      | nx ρ => exact fun σ' F' H' r _ => q .non F' H' r.anchor .non
      | rt d => exact fun v F' H' g rv => q v F' H' g rv
      | bk ρ => exact q.elim
      | ct ρ => exact q.elim

/-! ### raise, targets -/
def mRaise (c : Str) : Rho → R Out := fun _ => .ex c
theorem s_raise {C : Addr} {x m : Str} {j : Nat} {p p2 pos2 : Pos} (hc : X.calm = true) (tk : Takes X L.W) (hM : L.mg = X.mg) (gC : X.mg x = some (.ref C))
    (h : PySem.W.excIn X.K C He.veBase "ValueError.__new__" = true ∧ PySem.W.keepIn X.K (.ref C) = true ∧ PySem.W.subIn X.K (.ref C) (.type "BaseException") = some true ∧ PySem.W.typeIn X.K (.ref C) = some (.type "type"))
    (hg : Gl X x := by rfl) (hdb : (x == ("__debug__" : Str)) = false := by decide) : PSm X L (.Raise (some (.Call (.Name x p) [.Constant (.str m) j p2] [] pos)) none pos2) (mRaise x) :=
  (ps_raise hc tk (pmk_own PySem.F.excBase_ValueError h.1 gC h.2.1 (raises_own h.2.2.1 h.2.2.2) hg hdb)).imp fun D σ H ⟨F, ρ, r, q⟩ => q σ H r.aH (.ref C) (by rw [hM]; exact gC)
def mUnpack (t : D → Rho → R Rho) (m : Rho → R D) : Rho → R Out := fun ρ => (m ρ).bind fun d => match t d ρ with
  | .ok ρ' => .ok (.nx ρ')
  | _ => .bad
theorem s_unpack {e : Expr} {me : Rho → R D} (h : PV X L e me) (hg : PGm X L tg t vs) (hs : swapsWithSole [tg] e pos.line X.env = pure false := by rfl) (hw : swappedStores [tg] e X.env = pure none := by rfl)
    (h1 : (assignEach [tg] X.env).map (·.2) = [assign tg X.env] := by rfl) : PSm X L (.Assign [tg] e pos) (mUnpack t me) := (ps_asg h hg hs hw h1).imp fun D σ H ⟨F, ρ, r, q⟩ =>
  TM.goS r q fun d v F' H' g hv z => by
    cases et : t d ρ with
    | bad => rw [et] at z; exact z.elim
    | ex c => rw [et] at z; exact z.elim
    | ok ρ' =>
      rw [et] at z
      exact ⟨F', ρ, d, ρ', r.grow g, hv, et, fun σ' r' _ _ => z σ' F' H' r' g.ff⟩
def mPar2 (i j : Nat) (m : Rho → R (List D)) : Rho → R Out := fun ρ => (m ρ).bind fun ds => match ds with
  | [d, e] => .ok (.nx ((ρ.set i (.d d)).set j (.d e)))
  | _ => .bad
theorem s_par2 (i j : Nat) {x y : Str} {a b : Expr} {m : Rho → R (List D)} {px py pt pt2 : Pos} {kt k2 : Nat} (hc : X.calm = true) (hN : X.N.Nodup) (hij : i ≠ j) (ha : PAV X L [a, b] m) (hi : X.N[i]? = some x := by rfl) (hj : X.N[j]? = some y := by rfl)
    (hx : X.env.scope.names.lookup x = some .local := by rfl) (hy : X.env.scope.names.lookup y = some .local := by rfl)
    (hw : swappedStores [.Tuple [.Name x px, .Name y py] kt pt] (.Tuple [a, b] k2 pt2) X.env = pure (some [x, y]) := by rfl)
    (hs : swapsWithSole [.Tuple [.Name x px, .Name y py] kt pt] (.Tuple [a, b] k2 pt2) pos.line X.env = pure false := by rfl) :
    PSm X L (.Assign [.Tuple [.Name x px, .Name y py] kt pt] (.Tuple [a, b] k2 pt2) pos) (mPar2 i j m) :=
  (ps_par hc hN hi hj hij hx hy ha hw hs).imp fun D σ H ⟨F, ρ, r, q⟩ => TL.goS r q fun ds vs F' H' g ra z => by
    cases ra with
    | nil => exact z.elim
    | cons r1 ra =>
      cases ra with
      | nil => exact z.elim
      | cons r2 ra =>
        cases ra with
        | cons _ _ => exact z.elim
        | nil => exact ⟨_, _, rfl, z _ F' H' (((r.grow g).setD r1).setD r2) g.ff⟩
end
end VL

/-! VL9: further rules. -/
namespace VL
open PySem PySem.Spec PyProof.Rows L2
section
variable {X : Cx} {L : Lv} {pos : Pos} {a b c e : Expr} {ma mb mc me : Rho → R D} {rest : List Expr}
/-- the truth of data, as the layer has it -/
theorem truV_of {F H : Hp} {v : V} {d : D} {k : Bool} (s : Same F H) (r : Rb L.K F H v d) (h : tru d = .ok k) : TruV L.K v H k := by
  cases d with
  | bl b => cases r.bl; cases h; rfl
  | non => cases r.non; cases h; rfl
  | int i => cases r.int; cases h; rfl
  | str y =>
    cases r.str
    simp only [tru] at h
    by_cases hz : y.length ≤ 1000000
    · rw [if_pos hz] at h; cases h; exact ⟨line6 hz, rfl⟩
    · rw [if_neg hz] at h; cases h
  | tup xs =>
    obtain ⟨p, vs, rfl, hp, ra⟩ := r.tup
    cases h
    exact .inr (.inl ⟨vs, .inl (.inl (s _ _ hp)), by rw [empty_of ra]⟩)
  | lst xs =>
    obtain ⟨p, vs, rfl, hp, ra⟩ := r.lst s
    cases h
    exact .inl ⟨vs, .inl (.inl hp), by rw [empty_of ra]⟩
  | dic ks xs =>
    obtain ⟨p, kvs, rfl, hp, ek, ra⟩ := r.dic s
    cases h
    refine .inr (.inr ⟨kvs, hp, ?_⟩)
    have z := congrArg List.length ek
    rw [List.length_map, List.length_map] at z
    cases kvs <;> cases ks <;> first | rfl | (simp at z)
  | scr _ => cases h
theorem tru_noEx {d : D} {c : Str} : tru d ≠ .ex c := fun h => by
  cases d <;> simp only [tru] at h <;> first | (cases h; done) | (split at h <;> cases h)
def mNotT (m : Rho → R D) : Rho → R D := fun ρ => (m ρ).bind fun d => (tru d).bind fun k => .ok (.bl (!k))
theorem v_notT (hK : L.K = X.K) (h : PB X L a ma) : PV X L (.UnaryOp .Not a pos) (mNotT ma) := (pe_notT h).imp fun σ H Q ⟨F, ρ, rr, q⟩ => TM.go rr q fun d v F1 H1 g1 r1 q1 => by
  cases et : tru d with
  | bad => rw [et] at q1; exact q1.elim
  | ex c => exact (tru_noEx et).elim
  | ok k =>
    rw [et] at q1
    exact ⟨k, hK ▸ truV_of g1.fh r1 et, q1 _ F1 H1 g1 (.bl _)⟩
/-- x or y, by truth -/
def mOrT (m n : Rho → R D) : Rho → R D := fun ρ => (m ρ).bind fun d => (tru d).bind fun k => if k = true then .ok d else n ρ
theorem v_orT (hK : L.K = X.K) (h : PV X L a ma) (h2 : PV X L (.BoolOp .Or (b :: rest) pos) mb) : PV X L (.BoolOp .Or (a :: b :: rest) pos) (mOrT ma mb) := (pe_orT h h2).imp fun σ H Q ⟨F, ρ, rr, q⟩ => TM.go rr q fun d v F1 H1 g1 r1 q1 => by
  cases et : tru d with
  | bad => rw [et] at q1; exact q1.elim
  | ex c => exact (tru_noEx et).elim
  | ok k =>
    rw [et] at q1
    refine ⟨k, hK ▸ truV_of g1.fh (.inl r1) et, ?_⟩
    cases k with
    | true => exact iteT (q1 v F1 H1 g1 r1)
    | false => exact iteF (TM.then rr g1 (fun _ _ _ _ _ z => z) q1)
/-- a, b, c = x, y, z -/
def mPar3 (i j l : Nat) (m : Rho → R (List D)) : Rho → R Out := fun ρ => (m ρ).bind fun ds => match ds with
  | [d, e, f] => .ok (.nx (((ρ.set i (.d d)).set j (.d e)).set l (.d f)))
  | _ => .bad
theorem s_par3 (i j l : Nat) {x y z : Str} {m : Rho → R (List D)} {px py pz pt pt2 : Pos} {kt k2 : Nat} (hc : X.calm = true) (hN : X.N.Nodup) (hij : i ≠ j) (hil : i ≠ l) (hjl : j ≠ l) (ha : PAV X L [a, b, c] m) (hi : X.N[i]? = some x := by rfl) (hj : X.N[j]? = some y := by rfl) (hl : X.N[l]? = some z := by rfl)
    (hx : X.env.scope.names.lookup x = some .local := by rfl) (hy : X.env.scope.names.lookup y = some .local := by rfl) (hz : X.env.scope.names.lookup z = some .local := by rfl)
    (hw : swappedStores [.Tuple [.Name x px, .Name y py, .Name z pz] kt pt] (.Tuple [a, b, c] k2 pt2) X.env = pure (some [x, y, z]) := by rfl)
    (hs : swapsWithSole [.Tuple [.Name x px, .Name y py, .Name z pz] kt pt] (.Tuple [a, b, c] k2 pt2) pos.line X.env = pure false := by rfl) :
    PSm X L (.Assign [.Tuple [.Name x px, .Name y py, .Name z pz] kt pt] (.Tuple [a, b, c] k2 pt2) pos) (mPar3 i j l m) :=
  (ps_par3 hc hN hi hj hl hij hil hjl hx hy hz ha hw hs).imp fun D σ H ⟨F, ρ, r, q⟩ => TL.goS r q fun ds vs F' H' g ra z => by
    cases ra with
    | nil => exact z.elim
    | cons r1 ra =>
      cases ra with
      | nil => exact z.elim
      | cons r2 ra =>
        cases ra with
        | nil => exact z.elim
        | cons r3 ra =>
          cases ra with
          | cons _ _ => exact z.elim
          | nil => exact ⟨_, _, _, rfl, z _ F' H' ((((r.grow g).setD r1).setD r2).setD r3) g.ff⟩
/-! ### a list or a tuple walked -/
theorem _root_.L2.PI.or {X : Cx} {tg e : Expr} {t t' : TI} (h : PI X tg e t) (h' : PI X tg e t') : PI X tg e (fun σ H R => t σ H R ∨ t' σ H R) :=
  ⟨fun pins s σ H R I q => q.elim (fun q => h.run pins s σ H R I q) fun q => h'.run pins s σ H R I q⟩
def mItemsA (m : Rho → R D) : Rho → R (List D) := fun ρ => (m ρ).bind fun d => match d with
  | .tup xs => .ok xs
  | .lst xs => .ok xs
  | _ => .bad
theorem i_seq {tg : Expr} (hK : L.K = X.K) (h : PV X L a ma) : PIm X L tg a (mItemsA ma) := ((i_tup hK h).or (i_lst hK h)).imp fun σ H R ⟨F, ρ, r, q⟩ => by
  unfold mItemsA at q
  cases e : ma ρ with
  | bad => rw [e] at q; exact q.elim
  | ex c => rw [e] at q; exact .inl ⟨F, ρ, r, by unfold mItems; rw [e]; exact q⟩
  | ok d =>
    rw [e] at q
    cases d <;> first | exact q.elim | skip
    · exact .inl ⟨F, ρ, r, by unfold mItems; rw [e]; exact q⟩
    · exact .inr ⟨F, ρ, r, by unfold mItemsL; rw [e]; exact q⟩
def fEnum : List D → R (List D)
  | [.tup xs] => .ok (enumD 0 xs)
  | [.lst xs] => .ok (enumD 0 xs)
  | _ => .bad
theorem i_enum {elts : List Expr} {kk : Nat} {tpos p : Pos} {m : Rho → R (List D)} (hK : L.K = X.K) (hm : X.mg "enumerate" = none) (ha : PAV X L [e] m) (hg : Gl X "enumerate" := by rfl) (hs : starEach [e] X.env = [(false, eval e X.env)] := by rfl) :
    PIm X L (.Tuple elts kk tpos) (.Call (.Name "enumerate" p) [e] [] pos) (mIter fEnum m) := ((i_enumT hK hm ha hg hs).or (i_enumL hK hm ha hg hs)).imp fun σ H R ⟨F, ρ, r, q⟩ => by
  unfold mIter at q
  cases em : m ρ with
  | bad => rw [em] at q; exact q.elim
  | ex c => rw [em] at q; exact .inl ⟨F, ρ, r, by unfold mIter; rw [em]; exact q⟩
  | ok ds =>
    rw [em] at q
    simp only [VL.R.bind_ok] at q
    unfold fEnum at q
    split at q
    · exact .inl ⟨F, ρ, r, by unfold mIter; rw [em]; exact q⟩
    · exact .inr ⟨F, ρ, r, by unfold mIter; rw [em]; exact q⟩
    · exact q.elim
end
/-- a context for a def's body, or a block in it -/
structure Cc (X : Cx) (L : Lv) (k : Nat) : Prop where
  hK : L.K = X.K
  hM : L.mg = X.mg
  calm : X.calm = true
  nd : X.N.Nodup
  room : Room k X.A
  tk : Takes X L.W
theorem Cc.blk {X : Cx} {L : Lv} {k : Nat} (c : Cc X L k) (s : Shared) (H : Hp) (scope : Scope) (env : Env) (fp : List Addr) : Cc (X.blk s H scope env fp) L.blk k :=
  ⟨c.hK, c.hM, c.calm, c.nd, c.room, takes0⟩
section
variable {X : Cx} {L : Lv} {pos : Pos} {k : Nat} {elt tg iter : Expr} {ifs : List Expr} {scope : Scope} {own : List (Str × Nat)} {vs : List Nat} {mi : Rho → R (List D)} {t : D → Rho → R Rho} {q : Rho → R Bool} {me : Rho → R D}
theorem v_lcc (hv : ∀ j ∈ vs, j ∈ own.map (·.2)) (c : Cc X L k) (hi : PIm X L tg iter mi) (ok : BlkOk X.N X.env.scope scope own)
    (hg : ∀ (s : Shared) (H : Hp) (C : Addr) (cl : List (Str × Addr)) (fp : List Addr), Cc (X.blk s H scope (compEnvC scope cl C X.env) fp) L.blk k → PGm (X.blk s H scope (compEnvC scope cl C X.env) fp) L.blk tg t vs)
    (ht : ∀ (s : Shared) (H : Hp) (C : Addr) (cl : List (Str × Addr)) (fp : List Addr), Cc (X.blk s H scope (compEnvC scope cl C X.env) fp) L.blk k → PQs (X.blk s H scope (compEnvC scope cl C X.env) fp) L.blk ifs q)
    (he : ∀ (s : Shared) (H : Hp) (C : Addr) (cl : List (Str × Addr)) (fp : List Addr), Cc (X.blk s H scope (compEnvC scope cl C X.env) fp) L.blk k → PV (X.blk s H scope (compEnvC scope cl C X.env) fp) L.blk elt me)
    (hs : ∀ x, foldedSetIterable iter X.env x = pure x := by intro _; rfl) : PV X L (.ListComp elt [⟨tg, iter, ifs, 0⟩] scope pos) (mLc (own.map (·.2)) mi t q me) :=
  v_lc hv c.calm c.nd hi ok (fun s H C cl fp => hg s H C cl fp (c.blk s H scope _ fp)) (fun s H C cl fp => ht s H C cl fp (c.blk s H scope _ fp)) (fun s H C cl fp => he s H C cl fp (c.blk s H scope _ fp)) hs
theorem s_setLcc (i : Nat) {y : Str} {py spos : Pos} (hv : ∀ j ∈ vs, j ∈ own.map (·.2)) (c : Cc X L k) (hi : PIm X L tg iter mi) (ok : BlkOk X.N X.env.scope scope own)
    (hg : ∀ (s : Shared) (H : Hp) (C : Addr) (cl : List (Str × Addr)) (fp : List Addr), Cc (X.blk s H scope (compEnvC scope cl C X.env) fp) L.blk k → PGm (X.blk s H scope (compEnvC scope cl C X.env) fp) L.blk tg t vs)
    (ht : ∀ (s : Shared) (H : Hp) (C : Addr) (cl : List (Str × Addr)) (fp : List Addr), Cc (X.blk s H scope (compEnvC scope cl C X.env) fp) L.blk k → PQs (X.blk s H scope (compEnvC scope cl C X.env) fp) L.blk ifs q)
    (he : ∀ (s : Shared) (H : Hp) (C : Addr) (cl : List (Str × Addr)) (fp : List Addr), Cc (X.blk s H scope (compEnvC scope cl C X.env) fp) L.blk k → PV (X.blk s H scope (compEnvC scope cl C X.env) fp) L.blk elt me)
    (hsw : swapsWith (.ListComp elt [⟨tg, iter, ifs, 0⟩] scope pos) (some (.Name y py)) spos.line X.env = pure true) (hy : X.N[i]? = some y := by rfl) (hyl : X.env.scope.names.lookup y = some .local := by rfl)
    (hs : ∀ x, foldedSetIterable iter X.env x = pure x := by intro _; rfl) : PSm X L (.Assign [.Name y py] (.ListComp elt [⟨tg, iter, ifs, 0⟩] scope pos) spos) (mSet i (mLc (own.map (·.2)) mi t q me)) :=
  s_setLc i hv c.calm c.nd hi ok (fun s H C cl fp => hg s H C cl fp (c.blk s H scope _ fp)) (fun s H C cl fp => ht s H C cl fp (c.blk s H scope _ fp)) (fun s H C cl fp => he s H C cl fp (c.blk s H scope _ fp)) hsw hy hyl hs
end
/-! ### a def by its name -/
/-- the module's name x is a def of n parameters with the mirror g, at level k -/
def Fok (P : Program) (w : World) (K : PySem.W.Frag) (mg : Str → Option Value) (base : Heap) (k : Nat) (x : Str) (n : Nat) (g : List D → R D) : Prop :=
  ∃ (f : Addr) (fd : FuncData) (ps : List Str), ps.length = n ∧ FnOk P w K mg base (L2.CX P w) k f fd ps (spV K mg n g) ∧ mg x = some (.ref f) ∧ PySem.W.keepIn K (.ref f) = true ∧ L2.Binds K fd ps []
theorem Fok.mono {P : Program} {w : World} {K : PySem.W.Frag} {mg : Str → Option Value} {base : Heap} {j k : Nat} {x : Str} {n : Nat} {g : List D → R D} (h : Fok P w K mg base j x n g) (hk : j ≤ k) : Fok P w K mg base k x n g := by
  obtain ⟨f, fd, ps, h1, h2, h3⟩ := h
  exact ⟨f, fd, ps, h1, h2.mono hk, h3⟩
theorem v_fok {X : Cx} {L : Lv} {pos : Pos} {k n : Nat} {g : List D → R D} {x : Str} {p : Pos} {e : Expr} {es : List Expr} {m : Rho → R (List D)} (G : Fok X.prog X.w X.K X.mg X.base k x n g) (hr : Room k X.A)
    (tk : Takes X L.W) (hK : L.K = X.K) (hM : L.mg = X.mg) (ha : PAV X L (e :: es) m) (hg : Gl X x := by rfl)
    (hdb : (x == ("__debug__" : Str)) = false := by decide) (he : starEach (e :: es) X.env = (false, eval e X.env) :: starEach es X.env := by rfl) (hpl : (backTo pos (starEach es X.env)).any (·.1) = false := by rfl) :
    PV X L (.Call (.Name x p) (e :: es) [] pos) (mFn n g m) := by
  obtain ⟨f, fd, ps, rfl, hF, hm, hk, hb⟩ := G
  exact v_fn hF hr hm hk hb tk hK hM ha hg hdb he hpl
theorem fokV {P : Program} {w : World} {K : PySem.W.Frag} {mg : Str → Option Value} {base : Heap} {x qual : Str} {params : Arguments} {body : List Stmt} {scope : Scope} {kws : List (Str × V)} {f : Addr} {fd : FuncData} {N ps : List Str} {k n : Nat} {m : Rho → R Out} {g : List D → R D}
    (F : FunD K x qual params body scope [] kws f fd) (S : FnScope N ps scope) (gx : mg x = some (.ref f)) (hn : ps.length = n) (hg : g = runB N.length m)
    (bi : ∀ (kV doc pm : Value) (an : Option Addr) (cdv ct : Value) (us : List Value), us.length = ps.length → bindArgs (PySem.W.fnOf x qual params body scope .none kV doc pm an cdv ct) ⟨us, []⟩ = pure (ps.zip us))
    (hb : ∀ (cdv : Value) (A : Around) (outer : List Env) (s : Shared) (H F0 : Hp) (E : XK), Room k (A.deeper (envOfC qual scope s.heap.objs.size f cdv)) →
      Takes (cxOf (L2.CX P w) P w K mg base N qual scope f cdv A outer s H E) (fun cls d _ H' => E cls d H') →
      PassesOwn (model P w) (A.deeper (envOfC qual scope s.heap.objs.size f cdv)) (envOfC qual scope s.heap.objs.size f cdv) (cxOf (L2.CX P w) P w K mg base N qual scope f cdv A outer s H E).xe → Same F0 H →
      PSsm (cxOf (L2.CX P w) P w K mg base N qual scope f cdv A outer s H E) ⟨K, mg, fun cls d _ H' => E cls d H', F0, H⟩ body m) : Fok P w K mg base (k + 1) x n g := by
  subst hn hg
  exact ⟨f, fd, ps, rfl, fnV F S hb, gx, F.kp, F.bindsN bi⟩
end VL

/-! VL10: try with several clauses, each with a name; isinstance of what is caught. -/
namespace VL
open PySem PySem.Spec PyProof.Rows L2

abbrev Suite := Addr → Value → Option Addr → TS
/-- the ends of a suite whose name stands in slot i -/
def endsAs (i : Nat) (D : Ends) : Ends := ⟨fun σ' H' => D.nx (σ'.set i none) H', D.rt, fun σ' H' => D.bk (σ'.set i none) H', fun σ' H' => D.ct (σ'.set i none) H'⟩
/-- what the clauses wish, one after the other -/
def wEach (K : PySem.W.Frag) (ln i : Nat) (Wout : WX) (D : Ends) : List (Value × Suite) → WX
  | [] => Wout
  | (c, ts) :: r => fun cls d σ H => ∃ b, PySem.W.exmOne K cls c = some b ∧ (b = true → σ.length = ln → ∀ a, H a = none → ts a cls d (endsAs i D) (σ.set i (some (.ref a))) H) ∧ (b = false → wEach K ln i Wout D r cls d σ H)
inductive HdAs (X : Cx) (n : Str) : List ExceptHandler → List (Value × Suite) → Prop
  | nil : HdAs X n [] []
  | cons {x : Str} {c : Value} {ts : Suite} {b₀ : Stmt} {suite : List Stmt} {np hp : Pos} {hds : List ExceptHandler} {l : List (Value × Suite)} (hc : Names X x c)
      (hsu : ∀ (a : Addr) (oe : Obj) (cls : Value) (d : Option Addr) (pn : List (Addr × Obj)), Zc cls d oe → (∃ vs, oe.data = .fields vs) → PSs (X.suite a ((a, oe) :: pn)) (b₀ :: suite) (ts a cls d)) (r : HdAs X n hds l) :
      HdAs X n (.ExceptHandler (some (.Name x np)) (some n) (b₀ :: suite) hp :: hds) ((c, ts) :: l)
section
variable {X : Cx} {n : Str} {i : Nat} {body : List Stmt} {h₀ : ExceptHandler} {hds : List ExceptHandler} {l : List (Value × Suite)} {pos : Pos} {tb : WX → TS} {Wout : WX}
/-- the clauses, tried at an exception on the ground -/
theorem each_clause (hf : X.env.frame = some X.env.locals) (hs : X.stack = X.env :: X.outer) (hN : X.N.Nodup) (hi : X.N[i]? = some n) (hln : X.env.kindOf n = some .local) (tk : Takes X Wout) {pins : List (Addr × Obj)} {D : Ends} {a : Addr} {B : Heap} {sI s' : Shared} {σ' : L2.St} {H' : Hp} {cls : Value} {d : Option Addr} {h3 : Heap}
    (ok : X.Ok) (J : Inv X pins σ' H' sI) (nb : ∀ b o, sI.heap.get? b = some o → b ∉ frs X.stack → B.get? b = some o) (up : sI.heap.UpToSlots h3) (fl : HandSPX.FlyingZ B (X.env :: X.outer) a (Zc cls d) h3) (na : H' a = none) (os : s'.os = sI.os) (ag : AllBare s'.gens) :
    ∀ {hds' : List ExceptHandler} {l' : List (Value × Suite)}, HdAs X n hds' l' → wEach X.K X.N.length i Wout D l' cls d σ' H' → wpAny (model X.prog X.w) X.A (handleBy (.ref a) X.env hds') (SP X pins D) X.xe { s' with heap := h3 } := by
  have J3 : Inv X pins σ' H' { s' with heap := h3 } := J.landed nb fl.1 up os ag
  obtain ⟨oe, vs, he, hz, hd⟩ := fl.there
  have off : a ∉ frs (X.env :: X.outer) := fun hm => by
    obtain ⟨_, o', e', no⟩ := fl.2.2.1.mem hm
    rw [he] at e'
    cases e'
    exact no _ hd
  have nL : a ≠ X.env.locals := fun z => off (List.mem_filterMap.mpr ⟨X.env, List.mem_cons_self, by rw [hf, z]⟩)
  have nF : a ∉ X.fs := fun hm => by
    obtain ⟨e, he', q⟩ := List.mem_filterMap.mp hm
    exact off (List.mem_filterMap.mpr ⟨e, List.mem_cons_of_mem _ he', q⟩)
  have S3 := J3.suite he hd na nL nF
  intro hds' l' hk
  induction hk with
  | nil =>
    intro wsh
    refine wpAny_handleBy_nil ?_
    obtain ⟨_, _, _, oe', vs', T, oT, ts', he', hz', hd', h1', _⟩ := id fl
    unfold PySem.passOn
    refine wpAny_bind (wpAny_field he' hd' h1' ?_)
    rw [if_neg (by simp : ¬ ((Value.ref T == Value.none) = true))]
    have fin : wpAny (model X.prog X.w) X.A (setFlight (.ref a) X.env.frame) (fun _ t => wpAny (model X.prog X.w) X.A (throw (.ref a) : Sem Flow) (SP X pins D) X.xe t) X.xe { s' with heap := h3 } := by
      rw [hf]
      refine HandSPX.setFlight_upZ fl fun h4 hh up4 => wpAny_throw (tk _ _ ⟨a, B, sI, pins, σ', H', cls, d, rfl, J, nb, up.trans up4, .inr (.inr (by rw [hs]; exact hh)), na, os, ag, wsh⟩)
    first
      | exact wpAny_bind (wpAny_pure (wpAny_bind fin))
      | exact wpAny_bind fin
  | @cons x c ts b₀ suite np hp hds2 l2 hc hsu r ih =>
    intro wsh
    obtain ⟨b, hb, yes, no⟩ := wsh
    refine wpAny_handleBy_cons (codeAny_handlers_test ?_) (by intro q; cases q)
    have ty : PySem.W.Looks (model X.prog X.w) h3 (typeOf (.ref a)) cls := fun A Q E s k q => wpAny_typeOf_ref (k _ _ he) (by rw [hz.1]; exact q)
    have fits := PySem.W.exm_one (M := model X.prog X.w) J3.kIn ty hb
    have named : ∀ {Q : Value → Shared → Prop} {E : Value → Shared → Prop}, Q c { s' with heap := h3 } → wpAny (model X.prog X.w) (X.A.mark (some (.ref a))) (eval (.Name x np) X.env) Q E { s' with heap := h3 } := fun {Q E} q => by
      obtain ⟨hg, hdbg, hm | ⟨hm, hv, hnn⟩⟩ := hc
      · exact ld_glob (X := X.suite a ((a, oe) :: (X.pn ++ pins))) S3 hg hm q hdbg
      · exact ld_blt (X := X.suite a ((a, oe) :: (X.pn ++ pins))) S3 hg hm hv q hnn hdbg
    refine named (fits.here ?_)
    cases b with
    | false => exact ih (no rfl)
    | true =>
      refine codeAny_handlers_suite_as (HandSPX.lands_againZ fl fun h4 fl4 up4 => ?_)
      have J4 : Inv X pins σ' H' { s' with heap := h4 } := J.landed nb fl4.1 (up.trans up4) os ag
      obtain ⟨oe4, vs4, he4, hz4, hd4⟩ := fl4.there
      have S4 := J4.suite he4 hd4 na nL nF
      refine store_ok (X := X.suite a ((a, oe4) :: (X.pn ++ pins))) (v := .ref a) S4 hN hi (.inl hln) rfl (fun s5 S5 => ?_) (.inr hln)
      refine wpAny_mono ((hsu a oe4 cls d (X.pn ++ pins) hz4 ⟨_, hd4⟩).run [] s5 _ H' _ S5 (yes rfl J4.len a na)) (fun f s6 hsp => ?_) (fun _ _ z => False.elim z)
      have behind : ∀ {σ6 : L2.St} {H6 : Hp} {Q : Shared → Prop}, Inv (X.suite a ((a, oe4) :: (X.pn ++ pins))) [] σ6 H6 s6 → (∀ s7, Inv X pins (σ6.set i none) H6 s7 → Q s7) →
          wpAny (model X.prog X.w) X.A (do bindName X.env n .none; unbindBehindTheSuite X.env n hp) (fun _ s7 => Q s7) X.xe s6 := fun {σ6 H6 Q} S6 hq => gone_ok (S6.unsuite ok) hN hi hln hq
      cases f with
      | next => obtain ⟨σ6, H6, S6, q6⟩ := hsp; exact behind S6 fun s7 J7 => ⟨_, _, J7, q6⟩
      | brk => obtain ⟨σ6, H6, S6, q6⟩ := hsp; exact behind S6 fun s7 J7 => ⟨_, _, J7, q6⟩
      | cont => obtain ⟨σ6, H6, S6, q6⟩ := hsp; exact behind S6 fun s7 J7 => ⟨_, _, J7, q6⟩
      | ret u => obtain ⟨v6, σ6, H6, S6, r6, q6⟩ := hsp; exact behind S6 fun s7 J7 => ⟨_, _, _, J7, r6, q6⟩
theorem ps_try_each (hs : X.stack = X.env :: X.outer) (hf : X.env.frame = some X.env.locals) (hN : X.N.Nodup) (hi : X.N[i]? = some n) (hln : X.env.kindOf n = some .local) (tk : Takes X Wout)
    (hb : ∀ (W : WX) (pn : List (Addr × Obj)) (xe : Value → Shared → Prop), Takes (X.tr pn xe) W → PassesOwn (model X.prog X.w) X.A X.env xe → PSs (X.tr pn xe) body (tb W))
    (hh : HdAs X n (h₀ :: hds) l) : PS X (.Try body (h₀ :: hds) [] [] pos) (fun D σ H => tb (wEach X.K X.N.length i Wout D l) D σ H) := by
  refine ⟨fun pins s σ H D I h => ?_⟩
  have ok := I.ok
  have hfr : X.A.frames = some (X.env :: X.outer) := by rw [ok.frames, hs]
  refine wpAny_Try_except (wpAny_mono ((hb (wEach X.K X.N.length i Wout D l) (X.pn ++ pins) (fun e s1 => wpAny (model X.prog X.w) X.A (noteFrame e X.env) (fun _ s2 => wpAny (model X.prog X.w) X.A (setFlight e none) (fun _ s3 =>
    wpAny (model X.prog X.w) X.A (handleBy e X.env (h₀ :: hds)) (SP X pins D) X.xe s3) X.xe s2) X.xe s1) (fun u s' xx => ?_) PassesOwn.looking).run [] s σ H D (I.toTry _) h) (fun f s1 hsp => ?_) (fun e s1 he => he))
  · obtain ⟨a, B, sI, pins', σ', H', cls, d, rfl, J', nb, up, sky, na, os, ag, wsh⟩ := xx
    rw [show (X.tr (X.pn ++ pins) _).stack = X.env :: X.outer from hs] at sky
    exact Sky.land Zc.steady hfr hf sky fun h3 fl3 up3 => each_clause hf hs hN hi hln tk ok (J'.ofTry ok) nb (up.trans up3) fl3 na os ag hh wsh
  · cases f with
    | next => obtain ⟨σ', H', J', q⟩ := hsp; exact wpAny_execs_nil ⟨σ', H', J'.ofTry ok, q⟩
    | brk => obtain ⟨σ', H', J', q⟩ := hsp; exact ⟨σ', H', J'.ofTry ok, q⟩
    | cont => obtain ⟨σ', H', J', q⟩ := hsp; exact ⟨σ', H', J'.ofTry ok, q⟩
    | ret u => obtain ⟨v, σ', H', J', r, q⟩ := hsp; exact ⟨v, σ', H', J'.ofTry ok, r, q⟩
end
end VL

/-! VL11: dicts: a display of one pair, a dict of one's own, its copy. -/
namespace VL
open PySem PySem.Spec PyProof.Rows L2
section
variable {X : Cx} {L : Lv} {pos : Pos}
/-- {k: v} -/
def mDisp (mk mv : Rho → R D) : Rho → R D := fun ρ => (mk ρ).bind fun k => (mv ρ).bind fun v => match k with
  | .int i => .ok (.dic [i] [v])
  | _ => .bad
theorem v_disp {k v : Expr} {mk mv : Rho → R D} (hk : PV X L k mk) (hv : PV X L v mv) : PV X L (.Dict [some k] [v] pos) (mDisp mk mv) :=
  (pe_disp (pps_cons hk hv pps_nil) rfl rfl (by simp) (by simp)).imp fun σ H Q ⟨F, ρ, r, q⟩ => by
    intro p hp
    have g0 : Grow F H F (upd H p (.dK [])) := Grow.loose r.sub hp
    have r0 := r.grow g0
    have q0 : Post L σ (upd H p (.dK [])) (mDisp mk mv ρ) fun a => ∀ v F' H', Grow F H F' H' → Rp L.K F' v a → Q v H' := by
      revert q
      cases mDisp mk mv ρ with
      | ok a => exact fun q => q
      | bad => exact fun q => q
      | ex c => exact fun q H' s C e => q H' (g0.hh.trans s) C e
    refine TM.go r0 q0 fun d v F1 H1 g1 r1 q1 => ?_
    refine TM.go (r0.grow g1) q1 fun e w F2 H2 g2 r2 q2 => ?_
    cases d <;> simp only [] at q2 <;> first | exact q2.elim | skip
    rename_i i
    cases r1
    have g := g1.trans g2
    have h2 : H2 p = some (.dK []) := g.hh p _ upd_same
    have f2 : F2 p = none := g.new p (by rw [upd_same]; exact Option.some_ne_none _) (r.sub.free hp)
    refine ⟨h2, [(Sum.inl i, w)], rfl, by simp, ?_⟩
    have hm : mergeK [] [((Sum.inl i : Key), w)] = [(Sum.inl i, w)] := rfl
    rw [hm]
    refine q2 _ (upd F2 p (.dK [(Sum.inl i, w)])) _ ⟨fun b x e => ?_, fun b x e => ?_, g.fh.upd2, fun b h1 h0 => ?_⟩ (.dic upd_same rfl (.cons (r2.mono (upd_new f2)) .nil))
    · have hb : b ≠ p := ne_of_none e hp
      rw [upd_ne hb]
      exact g.hh b x (by rw [upd_ne hb]; exact e)
    · have hb : b ≠ p := ne_of_none e (r.sub.free hp)
      rw [upd_ne hb]
      exact g.ff b x e
    · have hb : b ≠ p := fun z => h1 (by rw [z]; exact hp)
      rw [upd_ne hb]
      exact g.new b (by rw [upd_ne hb]; exact h1) h0
/-- x = {} -/
def mNewD (i : Nat) : Rho → R Out := fun ρ => .ok (.nx (ρ.set i (.md [] [])))
theorem s_newD (i : Nat) {x : Str} {p q : Pos} (hN : X.N.Nodup) (hi : X.N[i]? = some x := by rfl) (hx : Loc X.env.scope x := by first | exact Or.inl rfl | exact Or.inr rfl) (hs : swapsWith (.Dict [] [] q) (some (.Name x p)) pos.line X.env = pure false := by rfl)
    (hf : X.fn x = true ∨ X.env.scope.names.lookup x = some .local := by first | exact .inl rfl | exact .inr rfl | assumption) : PSm X L (.Assign [.Name x p] (.Dict [] [] q) pos) (mNewD i) :=
  (ps_set hN hi hx pe_dnewK hs hf).imp fun D σ H ⟨F, ρ, r, q⟩ => by
    intro p hp
    have g : Grow F H F (upd H p (.dK [])) := Grow.loose r.sub hp
    refine q _ F _ ((r.grow g).setOwn (a := .md [] []) rfl ⟨p, [], rfl, upd_same, r.sub.free hp, r.aH.free hp, rfl, .nil⟩ fun j b hj e ho es => ?_) g.ff
    exact fresh_own (F' := F) (H' := H) r hp e ho es
/-- x[k] = e, x a dict of one's own -/
def putI (k : Int) (d : D) : List Int → List D → List Int × List D
  | j :: ks, e :: vs => if j = k then (j :: ks, d :: vs) else ((j :: (putI k d ks vs).1), e :: (putI k d ks vs).2)
  | _, _ => ([k], [d])
def mDPut (i : Nat) (mk mv : Rho → R D) : Rho → R Out := fun ρ => (mv ρ).bind fun d => match ρ[i]? with
  | some (.md ks vs) => (mk ρ).bind fun k => match k with
    | .int k => if k ∉ ks ∧ ks.length < 1000000 then .ok (.nx (ρ.set i (.md (ks ++ [k]) (vs ++ [d])))) else .bad
    | _ => .bad
  | _ => .bad
theorem own_dict {σ : L2.St} {F H G : Hp} {ρ : Rho} {i : Nat} {g : List Int → List D → R Out} {D : Ends} (r : Rep L.K L.F0 L.H0 F H σ ρ) (q : PostS L G (match ρ[i]? with
    | some (.md ks xs) => g ks xs
    | _ => .bad) D) : ∃ ks xs p kvs, ρ[i]? = some (.md ks xs) ∧ σ[i]? = some (some (.ref p)) ∧ H p = some (.dK kvs) ∧ F p = none ∧ L.H0 p = none ∧ kvs.map (·.1) = ks.map Sum.inl ∧ RpAll L.K F (kvs.map (·.2)) xs ∧ PostS L G (g ks xs) D := by
  cases e : ρ[i]? with
  | none => rw [e] at q; exact q.elim
  | some a =>
    rw [e] at q
    cases a with
    | un => exact q.elim
    | d x => exact q.elim
    | m xs => exact q.elim
    | md ks xs =>
      obtain ⟨p, vs, e1, h1, f, h0, ek, rr⟩ := r.slot i _ e
      exact ⟨ks, xs, p, vs, rfl, e1, h1, f, h0, ek, rr, q⟩
theorem putK_new {kvs : List (Key × V)} {ks : List Int} {k : Int} {v : V} (ek : kvs.map (·.1) = ks.map Sum.inl) (hk : k ∉ ks) : putK kvs (Sum.inl k) v = kvs ++ [(Sum.inl k, v)] := by
  unfold putK
  rw [if_neg]
  intro h
  obtain ⟨kv, hm, he⟩ := List.any_eq_true.mp h
  have e := of_decide_eq_true he
  have : kv.1 ∈ kvs.map (·.1) := List.mem_map.mpr ⟨kv, hm, rfl⟩
  rw [ek, e] at this
  obtain ⟨j, hj, ej⟩ := List.mem_map.mp this
  cases ej
  exact hk hj
theorem s_dput {k0 : Nat} (i : Nat) {x : Str} {px p2 : Pos} {j e : Expr} {mj me : Rho → R D} (hr : Room k0 X.A) (hx : PE X (.Name x px) (tVar i)) (hj : PV X L j mj) (h : PV X L e me)
    (hs : swapsWith e (some (.Subscript (.Name x px) j p2)) pos.line X.env = pure false := by rfl) :
    PSm X L (.Assign [.Subscript (.Name x px) j p2] e pos) (mDPut i mj me) :=
  (ps_dput (hu_of hr) hx hj h hs).imp fun D σ H ⟨F, ρ, r, q⟩ => by
    refine TM.goS r q fun d v F1 H1 g1 hv q => ?_
    obtain ⟨ks, xs, p, kvs, ei, es, hp, f, h0, ek, rr, q⟩ := own_dict (r.grow g1) q
    refine ⟨.ref p, es, ?_⟩
    refine TM.goS (r.grow g1) q fun d2 v2 F2 H2 g2 hv2 z => ?_
    have hp' : H2 p = some (.dK kvs) := g2.hh _ _ hp
    have f' : F2 p = none := g2.new p (by rw [hp]; exact Option.some_ne_none _) f
    cases d2 <;> simp only [] at z <;> first | exact z.elim | skip
    rename_i k
    cases hv2
    by_cases hc : k ∉ ks ∧ ks.length < 1000000
    · rw [if_pos hc] at z
      have hl : kvs.length = ks.length := by have := congrArg List.length ek; simpa using this
      refine ⟨p, _, rfl, DPut.k (k := Sum.inl k) hp' (line6' (by rw [hl]; exact hc.2)), ?_⟩
      refine z _ F2 _ (((r.grow g1).grow g2).write ei rfl rfl es ⟨p, _, rfl, upd_same, f', h0, ?_, ?_⟩ f' h0) (g1.ff.trans g2.ff)
      · rw [putK_new ek hc.1, List.map_append, List.map_append, ek]; rfl
      · rw [putK_new ek hc.1, List.map_append]
        exact (rr.mono g2.ff).append (.one (hv.mono g2.ff))
    · rw [if_neg hc] at z; exact z.elim
/-- return x, x a dict of one's own -/
def mRetD (i : Nat) : Rho → R Out := fun ρ => match ρ[i]? with
  | some (.md ks xs) => .ok (.rt (.dic ks xs))
  | _ => .bad
theorem s_retD (i : Nat) {x : Str} {p : Pos} (hN : X.N[i]? = some x := by rfl) (hv : Vis X.env.scope x := by first | exact Or.inl rfl | exact Or.inr (Or.inl rfl) | exact Or.inr (Or.inr rfl)) (hd : (x == ("__debug__" : Str)) = false := by decide)
    (hcd : (x == ("__classdict__" : Str)) = false := by decide) : PSm X L (.Return (some (.Name x p)) pos) (mRetD i) := (ps_ret (pe_var hN hv hd hcd)).imp fun D σ H ⟨F, ρ, r, q⟩ => by
  obtain ⟨ks, xs, p, kvs, ei, es, hp, f, h0, ek, rr, q⟩ := own_dict r q
  have ff : Same F (upd F p (.dK kvs)) := upd_new f
  refine ⟨_, es, q _ (upd F p (.dK kvs)) H ⟨r.aH, r.aF.trans ff, fun b x e => ?_, fun b h1 h2 => ?_⟩ (.dic upd_same ek (rr.mono ff))⟩
  · by_cases hb : b = p
    · subst hb; rw [upd_same] at e; cases e; exact hp
    · rw [upd_ne hb] at e; exact r.sub b x e
  · rw [upd_ne (show b ≠ p from fun z => h1 (by rw [z]; exact h0))]; exact r.an b h1 h2
/-- for o in t: f[o] = t[o], f an empty dict of one's own -/
def mCopyD (f t o : Nat) : Rho → R Out := fun ρ => match ρ[f]? with
  | some (.md ks0 _) => (match ρ[t]? with
    | some (.d (.dic ks vs)) => if ks0 = [] ∧ ks.Nodup ∧ ks ≠ [] ∧ ks.length ≤ 1000000 ∧ o < ρ.length then .ok (.nx ((ρ.set f (.md ks vs)).set o .un)) else .bad
    | _ => .bad)
  | _ => .bad
theorem valV_at {kvs : List (Key × V)} (nd : (kvs.map (·.1)).Nodup) : ∀ {i : Nat} {k : Key} {v : V}, kvs[i]? = some (k, v) → valV kvs k = some v := by
  induction kvs with
  | nil => intro i k v h; simp at h
  | cons p r ih =>
    intro i k v h
    rw [List.map_cons, List.nodup_cons] at nd
    cases i with
    | zero => simp at h; subst h; exact valV_pos rfl
    | succ i =>
      have h' : r[i]? = some (k, v) := by simpa using h
      rw [valV_neg (fun z => nd.1 (by rw [z]; exact List.mem_map.mpr ⟨_, List.mem_of_getElem? h', rfl⟩))]
      exact ih nd.2 h'
theorem s_copyD {k0 : Nat} (f t o : Nat) {xf xt xo : Str} {p1 p2 p3 p4 p5 p6 p7 p8 p9 : Pos} (hft : f ≠ t) (hfo : f ≠ o) (hto : t ≠ o) (hr : Room k0 X.A) (hp : PassesOwn (model X.prog X.w) X.A X.env X.xe) (hc : X.calm = true) (hN : X.N.Nodup)
    (e2 : PE X (.Name xt p2) (tVar t)) (e3 : PE X (.Name xf p3) (tVar f)) (e4 : PE X (.Name xo p4) (tVar o)) (e6 : PE X (.Name xt p6) (tVar t)) (e7 : PE X (.Name xo p7) (tVar o))
    (ho : X.N[o]? = some xo := by rfl) (hx : Loc X.env.scope xo := by first | exact Or.inl rfl | exact Or.inr rfl) (hf : X.fn xo = true ∨ X.env.scope.names.lookup xo = some .local := by first | exact .inl rfl | exact .inr rfl | assumption)
    (hsl : NoSl (.Name xo p7) := by exact fun _ _ => rfl) (hs : swapsWith (.Subscript (.Name xt p6) (.Name xo p7) p8) (some (.Subscript (.Name xf p3) (.Name xo p4) p5)) p9.line X.env = pure false := by rfl)
    (hfs : ∀ x, foldedSetIterable (.Name xt p2) X.env x = pure x := by intro _; rfl) :
    PSm X L (.For (.Name xo p1) (.Name xt p2) [.Assign [.Subscript (.Name xf p3) (.Name xo p4) p5] (.Subscript (.Name xt p6) (.Name xo p7) p8) p9] [] pos) (mCopyD f t o) :=
  (ps_lock (ps_for hp hc (pi_keys e2) (pg_name hN ho hx hf) (pss_one (ps_dput (hu_of hr) e3 e4 (pe_dget (hu_of hr) e6 e7 hsl) hs)) hfs)).imp fun D σ H ⟨F, ρ, r, q⟩ => by
    obtain ⟨ks0, xs0, p, kv0, ei, es, hp, fp, h0, ek0, rr0, q⟩ := own_dict r q
    cases et : ρ[t]? with
    | none => rw [et] at q; exact q.elim
    | some a =>
      rw [et] at q
      cases a with
      | un => exact q.elim
      | m xs => exact q.elim
      | md _ _ => exact q.elim
      | d x =>
        cases x <;> simp only [] at q <;> first | exact q.elim | skip
        rename_i ks vs
        by_cases hcnd : ks0 = [] ∧ ks.Nodup ∧ ks ≠ [] ∧ ks.length ≤ 1000000 ∧ o < ρ.length
        · rw [if_pos hcnd] at q
          obtain ⟨rfl, nd, hne, hlen, hol⟩ := hcnd
          obtain rfl : kv0 = [] := by simpa using ek0
          obtain ⟨v, et1, rp⟩ := r.slot t _ et
          cases rp with
          | @dic d kvs _ _ fd ek ra =>
            have hd : H d = some (.dK kvs) := r.sub _ _ fd
            have hdp : d ≠ p := fun z => by rw [z, fp] at fd; cases fd
            have hl : kvs.length = ks.length := by have := congrArg List.length ek; simpa using this
            have ndk : (kvs.map (·.1)).Nodup := by rw [ek]; exact List.Pairwise.map _ (fun a b h z => h (Sum.inl.inj z)) nd
            have il : t < σ.length := (List.getElem?_eq_some_iff.mp et1).1
            have ifl : f < σ.length := (List.getElem?_eq_some_iff.mp es).1
            rw [r.len] at hol
            refine ⟨d, .dK kvs, hd, trivial, fun od => ⟨.ref d, et1, d, od, rfl, .inl ⟨kvs, upd_same, ?_⟩⟩⟩
            refine ⟨fun i m σ' H' => m = kvs.length - i ∧ i ≤ kvs.length ∧ (∃ x, σ' = σ.set o x ∨ (i = 0 ∧ σ' = σ)) ∧ H' p = some (.dK (kvs.take i)) ∧ H' d = some (.frz od (.dK kvs)) ∧ ∀ b, b ≠ p → b ≠ d → H' b = H b,
              ⟨_, rfl, Nat.zero_le _, ⟨none, .inr ⟨rfl, rfl⟩⟩, by rw [upd_ne (Ne.symm hdp), hp]; rfl, upd_same, fun b _ h2 => upd_ne h2⟩, ?_⟩
            rintro i m σ' H' ⟨rfl, hle, ⟨x0, hσ⟩, hp', hd', hb'⟩
            by_cases hlt : i < kvs.length
            · refine .inr ⟨⟨hd', hlt⟩, fun σ2 H2 => (∃ x, σ2 = σ.set o x) ∧ H2 p = some (.dK (kvs.take (i + 1))) ∧ H2 d = some (.frz od (.dK kvs)) ∧ ∀ b, b ≠ p → b ≠ d → H2 b = H b,
                fun σ2 H2 ⟨⟨x, e1⟩, h2, h3, h4⟩ => ⟨kvs.length - (i + 1), by omega, rfl, hlt, ⟨x, .inl e1⟩, h2, h3, h4⟩, ?_⟩
              rintro x H2 ⟨rfl, k, v, hkv, rfl⟩
              have hσ2 : σ'.set o (some (kV k)) = σ.set o (some (kV k)) := by
                rcases hσ with rfl | ⟨_, rfl⟩
                · rw [List.set_set]
                · rfl
              have ht2 : (σ'.set o (some (kV k)))[t]? = some (some (.ref d)) := by rw [hσ2, List.getElem?_set_ne (Ne.symm hto)]; exact et1
              have hf2 : (σ'.set o (some (kV k)))[f]? = some (some (.ref p)) := by rw [hσ2, List.getElem?_set_ne (Ne.symm hfo)]; exact es
              have ho2 : (σ'.set o (some (kV k)))[o]? = some (some (kV k)) := by rw [hσ2, List.getElem?_set_self hol]
              have hnk : ∀ kv ∈ kvs.take i, kv.1 ≠ k := fun kv hm z => by
                obtain ⟨j, hj⟩ := List.getElem?_of_mem hm
                have hji : j < i := by
                  have := (List.getElem?_eq_some_iff.mp hj).1
                  rw [List.length_take] at this
                  omega
                rw [List.getElem?_take_of_lt hji] at hj
                have h1 : (kvs.map (·.1))[j]? = some k := by rw [List.getElem?_map, hj, ← z]; rfl
                have h2 : (kvs.map (·.1))[i]? = some k := by rw [List.getElem?_map, hkv]; rfl
                have := (List.getElem?_inj (i := j) (j := i) (by rw [List.length_map]; omega) ndk).mp (h1.trans h2.symm)
                omega
              have hput : putK (kvs.take i) k v = kvs.take (i + 1) := by
                unfold putK
                rw [if_neg, List.take_add_one, hkv]
                · rfl
                · intro h
                  obtain ⟨kv, hm, he⟩ := List.any_eq_true.mp h
                  exact hnk kv hm (of_decide_eq_true he)
              refine ⟨_, ht2, _, ho2, d, v, rfl, .inl ⟨kvs, k, .inr ⟨od, hd'⟩, rfl, (valV_at ndk hkv).symm⟩, _, hf2, _, ho2, p, _, rfl, DPut.k hp' (by rw [sizeLine_eq, List.length_take]; omega), ⟨_, hσ2⟩, ?_, ?_, fun b h1 h2 => ?_⟩
              · rw [upd_same, hput]
              · rw [upd_ne hdp]; exact hd'
              · rw [upd_ne h1]; exact hb' b h1 h2
            · have e : i = kvs.length := by omega
              subst e
              refine .inl ⟨⟨hd', Nat.le_refl _⟩, hd', ?_⟩
              have eH : upd H' d (.dK kvs) = upd H p (.dK kvs) := by
                funext b
                by_cases hb1 : b = d
                · subst hb1; rw [upd_same, upd_ne hdp, hd]
                · rw [upd_ne hb1]
                  by_cases hb2 : b = p
                  · subst hb2; rw [upd_same, hp', List.take_length]
                  · rw [upd_ne hb2]; exact hb' b hb2 hb1
              rw [eH]
              have rw1 := r.write (b := .md ks vs) ei rfl rfl es ⟨p, kvs, rfl, upd_same, fp, h0, ek, ra⟩ fp h0
              have hσ3 : ∃ x, σ' = σ.set o x := by
                rcases hσ with h | ⟨h, _⟩
                · exact ⟨_, h⟩
                · exact absurd (List.length_eq_zero_iff.mp (by rw [← hl, h])) hne
              obtain ⟨x, rfl⟩ := hσ3
              exact q _ F _ (rw1.setUn o x) (Same.refl F)
        · rw [if_neg hcnd] at q; exact q.elim
end
end VL

/-! VL12: try by its mirror, isinstance of what is caught. -/
namespace VL
open PySem PySem.Spec PyProof.Rows L2
/-- the package's exceptions: all stand right under HeightError -/
def subN (c x : Str) : Bool := decide (c = x) || decide (x = "HeightError")
/-- what the classes say, one way to look -/
def excB (K : PySem.W.Frag) (D : Addr) : Bool :=
  decide (PySem.W.findIn K (.ref D) "__getattribute__" = some (some (.builtin "BaseException.__getattribute__"))) && (decide (PySem.W.findIn K (.ref D) "__getattr__" = some none) && (decide (PySem.W.subIn K (.ref D) (.type "BaseException") = some true) &&
  (PySem.W.hasDictIn K D && (decide (PySem.W.findIn K (.ref D) "__class__" = some (some (.builtin "object.__class__"))) && (decide (PySem.W.specialIn K (.builtin "object.__class__") "__get__" = some (some (.builtin "getset_descriptor.__get__"))) &&
  (decide (PySem.W.takesIn K (.builtin "object.__class__") = some true) && decide (PySem.W.mroIn K D (.type "object") = some true)))))))
theorem excB_ok {K : PySem.W.Frag} {D : Addr} (h : excB K D = true) : ExcC K D := by
  unfold excB at h
  simp only [Bool.and_eq_true, decide_eq_true_eq] at h
  obtain ⟨h1, h2, h3, h4, h5, h6, h7, h8⟩ := h
  exact ⟨h1, h2, h3, h4, h5, h6, h7, h8⟩
def exPair (K : PySem.W.Frag) (c x : Str) : Bool := decide (PySem.W.exmOne K (.ref (He.ga K c)) (.ref (He.ga K x)) = some (subN c x)) && decide (PySem.W.kitOne K (.ref (He.ga K c)) (.ref (He.ga K x)) = some (subN c x))
def exAll (K : PySem.W.Frag) (cs xs : List Str) : Bool := cs.all fun c => excB K (He.ga K c) && xs.all fun x => exPair K c x
/-- the table of the exceptions: cs those that are raised, xs those that are asked for -/
structure ExT (K : PySem.W.Frag) (mg : Str → Option Value) (cs xs : List Str) : Prop where
  gc : ∀ c ∈ cs, mg c = some (.ref (He.ga K c))
  gx : ∀ x ∈ xs, mg x = some (.ref (He.ga K x))
  all : exAll K cs xs = true
theorem ExT.exc {K : PySem.W.Frag} {mg : Str → Option Value} {cs xs : List Str} (T : ExT K mg cs xs) {c : Str} (hc : c ∈ cs) : ExcC K (He.ga K c) := by
  have h := List.all_eq_true.mp T.all c hc
  rw [Bool.and_eq_true] at h
  exact excB_ok h.1
theorem ExT.pair {K : PySem.W.Frag} {mg : Str → Option Value} {cs xs : List Str} (T : ExT K mg cs xs) {c x : Str} (hc : c ∈ cs) (hx : x ∈ xs) : PySem.W.exmOne K (.ref (He.ga K c)) (.ref (He.ga K x)) = some (subN c x) ∧ PySem.W.kitOne K (.ref (He.ga K c)) (.ref (He.ga K x)) = some (subN c x) := by
  have h := List.all_eq_true.mp T.all c hc
  rw [Bool.and_eq_true] at h
  have h2 := List.all_eq_true.mp h.2 x hx
  unfold exPair at h2
  rw [Bool.and_eq_true, decide_eq_true_eq, decide_eq_true_eq] at h2
  exact h2
/-- the clauses, by the class's name: what each returns -/
def tryH (c : Str) : List (Str × (Str → Str)) → R Out
  | [] => .ex c
  | (x, h) :: r => if subN c x = true then .ok (.rt (.str (h c))) else tryH c r
def mTry (cs : List Str) (mb : Rho → R Out) (hs : List (Str × (Str → Str))) : Rho → R Out := fun ρ => match mb ρ with
  | .ex c => if c ∈ cs then tryH c hs else .bad
  | r => r
/-- return s1 if isinstance(e, x) and not isinstance(e, y) else s2 -/
def hRet (s1 s2 x y : Str) (c : Str) : Str := if (subN c x && !subN c y) = true then s1 else s2
/-- a suite for all exceptions of the table that fit x: it returns h c -/
abbrev tSu (K : PySem.W.Frag) (cs : List Str) (x : Str) (i : Nat) (h : Str → Str) : Suite := fun a cls d E σ H => ∃ c, c ∈ cs ∧ cls = .ref (He.ga K c) ∧ d = none ∧ subN c x = true ∧ σ[i]? = some (some (.ref a)) ∧ E.rt (.str (h c)) H
def SuOk (X : Cx) (cs : List Str) (x : Str) (i : Nat) (h : Str → Str) (b : List Stmt) : Prop := ∀ c ∈ cs, subN c x = true → ∀ (a : Addr) (oe : Obj) (pn : List (Addr × Obj)), Zc (.ref (He.ga X.K c)) none oe → (∃ vs, oe.data = .fields vs) →
  PSs (X.suite a ((a, oe) :: pn)) b (fun E σ H => σ[i]? = some (some (.ref a)) ∧ E.rt (.str (h c)) H)
inductive HdM (X : Cx) (cs xs : List Str) (i : Nat) (n : Str) : List ExceptHandler → List (Str × (Str → Str)) → Prop
  | nil : HdM X cs xs i n [] []
  | cons {x : Str} {h : Str → Str} {b₀ : Stmt} {suite : List Stmt} {np hp : Pos} {hds : List ExceptHandler} {l : List (Str × (Str → Str))} (hx : x ∈ xs) (hg : Gl X x) (hd : (x == ("__debug__" : Str)) = false)
      (hsu : SuOk X cs x i h (b₀ :: suite)) (r : HdM X cs xs i n hds l) : HdM X cs xs i n (.ExceptHandler (some (.Name x np)) (some n) (b₀ :: suite) hp :: hds) ((x, h) :: l)
section
variable {X : Cx} {L : Lv} {pos : Pos} {cs xs : List Str} {i : Nat} {n : Str}
theorem HdM.as (T : ExT X.K X.mg cs xs) : ∀ {hds : List ExceptHandler} {l : List (Str × (Str → Str))}, HdM X cs xs i n hds l → HdAs X n hds (l.map fun p => (Value.ref (He.ga X.K p.1), tSu X.K cs p.1 i p.2))
  | _, _, .nil => .nil
  | _, _, .cons hx hg hd hsu r => .cons ⟨hg, hd, .inl (T.gx _ hx)⟩ (fun a oe cls d pn hz hf => ⟨fun pins s σ H E I q => by
      obtain ⟨c, hc, rfl, rfl, hs, e1, q⟩ := q
      exact (hsu c hc hs a oe pn hz hf).run pins s σ H E I ⟨e1, q⟩⟩) (HdM.as T r)
theorem try_wish (T : ExT X.K X.mg cs xs) (hM : L.mg = X.mg) (hS : Same L.F0 L.H0) (hil : i < X.N.length) {F : Hp} {D : Ends} {c : Str} (hc : c ∈ cs) {C : Value} (hC : L.mg c = some C) {σ : L2.St} {H : Hp} (s : Same L.H0 H) :
    ∀ {hds : List ExceptHandler} {l : List (Str × (Str → Str))}, HdM X cs xs i n hds l → PostS L F (tryH c l) D → wEach X.K X.N.length i L.W D (l.map fun p => (Value.ref (He.ga X.K p.1), tSu X.K cs p.1 i p.2)) C none σ H
  | _, _, .nil, q => q σ H s C hC
  | _, _, @HdM.cons _ _ _ _ _ x h b₀ suite np hp hds l hx hg hd hsu r, q => by
    have eC : C = .ref (He.ga X.K c) := by
      rw [hM, T.gc c hc] at hC
      exact (Option.some.inj hC).symm
    refine ⟨subN c x, by rw [eC]; exact (T.pair hc hx).1, fun hb hl a ha => ⟨c, hc, eC, rfl, hb, ?_, ?_⟩, fun hb => ?_⟩
    · rw [List.getElem?_set_self (by rw [hl]; exact hil)]
    · rw [tryH, if_pos hb] at q
      exact q _ L.F0 H ⟨s, Same.refl _, hS.trans s, fun p _ h2 => h2⟩ (.str _)
    · rw [tryH, if_neg (by rw [hb]; exact Bool.false_ne_true)] at q
      exact try_wish T hM hS hil hc hC s r q
theorem s_try {k0 : Nat} (c : Cc X L k0) (T : ExT X.K X.mg cs xs) (hS : Same L.F0 L.H0) {body : List Stmt} {mb : Rho → R Out} {h₀ : ExceptHandler} {hds : List ExceptHandler} {l : List (Str × (Str → Str))} (hi : X.N[i]? = some n) (hln : X.env.kindOf n = some .local)
    (hb : ∀ (W : WX) (pn : List (Addr × Obj)) (xe : Value → Shared → Prop), Cc (X.tr pn xe) { L with W := W } k0 → PassesOwn (model X.prog X.w) X.A X.env xe → PSsm (X.tr pn xe) { L with W := W } body mb)
    (hh : HdM X cs xs i n (h₀ :: hds) l) (hs : X.stack = X.env :: X.outer := by rfl) (hf : X.env.frame = some X.env.locals := by rfl) : PSm X L (.Try body (h₀ :: hds) [] [] pos) (mTry cs mb l) :=
  (ps_try_each hs hf c.nd hi hln c.tk (fun W pn xe tk po => hb W pn xe ⟨c.hK, c.hM, c.calm, c.nd, c.room, tk⟩ po) (hh.as T)).imp fun D σ H ⟨F, ρ, r, q⟩ => by
    refine ⟨F, ρ, ⟨r.sub, r.aH, r.aF, r.an, r.len, r.slot, r.sep⟩, ?_⟩
    unfold mTry at q
    cases em : mb ρ with
    | bad => rw [em] at q; exact q
    | ok o =>
      rw [em] at q
      cases o <;> exact q
    | ex cn =>
      rw [em] at q
      simp only [] at q
      by_cases hc : cn ∈ cs
      · rw [if_pos hc] at q
        exact fun σ' H' s C hC => try_wish T c.hM hS (List.getElem?_eq_some_iff.mp hi).1 hc hC s hh q
      · rw [if_neg hc] at q; exact q.elim
/-- isinstance(e, y) in the suite -/
theorem e_isE {c y : Str} {a : Addr} {oe : Obj} {pn : List (Addr × Obj)} {p1 p2 p3 p4 : Pos} (T : ExT X.K X.mg cs xs) (hc : c ∈ cs) (hy : y ∈ xs) (hz : Zc (.ref (He.ga X.K c)) none oe) (hf : ∃ vs, oe.data = .fields vs) (hm : X.mg "isinstance" = none)
    (he : PE (X.suite a ((a, oe) :: pn)) (.Name n p2) (tVar i)) (hg : Gl X "isinstance" := by rfl) (hgy : Gl X y := by rfl) (hdb : (y == ("__debug__" : Str)) = false := by decide)
    (hs1 : starEach [.Name n p2, .Name y p3] X.env = (false, eval (.Name n p2) X.env) :: starEach [.Name y p3] X.env := by rfl) (hs2 : starEach [.Name y p3] X.env = (false, eval (.Name y p3) X.env) :: starEach [] X.env := by rfl)
    (hpl : (backTo p4 (starEach [.Name y p3] X.env)).any (·.1) = false := by rfl) :
    PE (X.suite a ((a, oe) :: pn)) (.Call (.Name "isinstance" p1) [.Name n p2, .Name y p3] [] p4) (fun σ H Q => σ[i]? = some (some (.ref a)) ∧ Q (.bl (subN c y)) H) :=
  (pe_callB (p := p1) (X := X.suite a ((a, oe) :: pn)) (call_isE (T.exc hc) hz hf) hg hm (by decide +kernel) (pa_cons he (pa_cons (pe_glob (X := X.suite a ((a, oe) :: pn)) (v := .ref (He.ga X.K y)) hgy (T.gx y hy) rfl hdb) pa_nil hs2) hs1) (by decide) (by decide) hs1 hpl).imp fun σ H Q ⟨e, q⟩ =>
    ⟨_, e, _, _, _, rfl, fun u r => r, (T.pair hc hy).2, q⟩
theorem su_ret {x y z s1 s2 : Str} {p1 p2 p3 p4 p5 p6 p7 p8 p9 q1 q2 q3 q4 q5 : Pos} {j1 j2 : Nat} (T : ExT X.K X.mg cs xs) (hm : X.mg "isinstance" = none) (hy : y ∈ xs) (hz : z ∈ xs)
    (he : ∀ (a : Addr) (oe : Obj) (pn : List (Addr × Obj)) (p : Pos), PE (X.suite a ((a, oe) :: pn)) (.Name n p) (tVar i)) (hg : Gl X "isinstance" := by rfl) (hgy : Gl X y := by rfl) (hgz : Gl X z := by rfl) (hdy : (y == ("__debug__" : Str)) = false := by decide) (hdz : (z == ("__debug__" : Str)) = false := by decide)
    (hs1 : starEach [.Name n p2, .Name y p3] X.env = (false, eval (.Name n p2) X.env) :: starEach [.Name y p3] X.env := by rfl) (hs2 : starEach [.Name y p3] X.env = (false, eval (.Name y p3) X.env) :: starEach [] X.env := by rfl)
    (hpl : (backTo p4 (starEach [.Name y p3] X.env)).any (·.1) = false := by rfl)
    (hs3 : starEach [.Name n p6, .Name z p7] X.env = (false, eval (.Name n p6) X.env) :: starEach [.Name z p7] X.env := by rfl) (hs4 : starEach [.Name z p7] X.env = (false, eval (.Name z p7) X.env) :: starEach [] X.env := by rfl)
    (hpl2 : (backTo p8 (starEach [.Name z p7] X.env)).any (·.1) = false := by rfl)
    (ht1 : ∀ whole, isTrue (.Call (.Name "isinstance" p1) [.Name n p2, .Name y p3] [] p4) X.env whole = (do let v ← whole; standAt p4; holding [v] (truthy v)) := by intro _; rfl)
    (ht2 : ∀ whole, isTrue (.Call (.Name "isinstance" p5) [.Name n p6, .Name z p7] [] p8) X.env whole = (do let v ← whole; standAt p8; holding [v] (truthy v)) := by intro _; rfl) :
    SuOk X cs x i (hRet s1 s2 y z) [.Return (some (.IfExp (.BoolOp .And [.Call (.Name "isinstance" p1) [.Name n p2, .Name y p3] [] p4, .UnaryOp .Not (.Call (.Name "isinstance" p5) [.Name n p6, .Name z p7] [] p8) p9] q1) (.Constant (.str s1) j1 q2) (.Constant (.str s2) j2 q3) q4)) q5] := by
  intro c hc hs a oe pn hzc hf
  refine (pss_one (ps_ret (pe_ifExp (PW.pt (pw_and (pt_val (e_isE T hc hy hzc hf hm (he a oe pn p2) hg hgy hdy hs1 hs2 hpl) ht1) (pw_and1 (pt_not (pt_val (e_isE T hc hz hzc hf hm (he a oe pn p6) hg hgz hdz hs3 hs4 hpl2) ht2))))) pe_str pe_str))).imp fun D σ H ⟨e, q⟩ => ?_
  refine ⟨e, _, rfl, ?_⟩
  unfold hRet at q
  cases h1 : subN c y with
  | false =>
    rw [h1] at q
    exact iteF q
  | true =>
    refine iteT ⟨e, _, rfl, ?_⟩
    rw [h1] at q
    cases h2 : subN c z with
    | false => rw [h2] at q; exact iteT q
    | true => rw [h2] at q; exact iteF q
end
end VL

/-! VL13: the head's Hook with a Bool more; a law's end. -/
namespace VL
open PySem PySem.Spec PyProof.Rows L2
abbrev AlE : Type := He.AlD × Bool
def obsE (n : Nat) (fa : List He.Fa) (fn : List He.DefD) (ex : PySem.W.Frag → Bool) (g : Addr → Option Obj) : AlE := (He.obsD fa fn (He.frG g (He.asD g n)), ex (He.frG g (He.asD g n)))
def hookE (n : Nat) (fa : List He.Fa) (fn : List He.DefD) (ex : PySem.W.Frag → Bool) : PySem.W.Hook where
  α := AlE
  obs := fun s => obsE n fa fn ex s.heap.get?
  val := fun _ => (He.valD fn, true)
  says := fun _ h => ∃ K : PySem.W.Frag, K.In h ∧ He.SaysD fa fn K ∧ ex K = true
  of := fun _ _ e => ⟨_, He.frG_in, congrArg (fun z : AlE => z.1) e, congrArg (fun z : AlE => z.2) e⟩
  keeps := fun _ _ _ ⟨K, hK, c⟩ k => ⟨K, PySem.W.Frag.In.keeps hK k, c⟩
theorem obsE_eq {n : Nat} {fa : List He.Fa} {fn : List He.DefD} {ex : PySem.W.Frag → Bool} {g : Addr → Option Obj} {s : Shared} (h : ∀ a, g a = s.heap.get? a) : obsE n fa fn ex g = (hookE n fa fn ex).obs s := by
  have e : g = s.heap.get? := funext h
  rw [e] <;> rfl
/-- a law's end: the law's def by its name and mirror -/
theorem walk_law {l : PySem.W.OpenLaw} {n k : Nat} {q : Program} {loose : List Str} {XP : (Str → Option Value) → Heap → Prop} {YP : World → Heap → Prop} {d : DefRec} {g : List D → R D}
    (hn : l.most = some n) (hn2 : n ≤ sizeLine) (hdf : d.params.defaults = []) (hr : Room k callerA)
    (hg : ∀ ns : List Int, ns.length ≤ n → g [.scr ns] = .ok (.bl true))
    (F : ∀ (w : World) (mg : Str → Option Value) (fa : Addr) (h : Heap), YP w h → h.Ns mainGlobals mg → mg d.name = some (.ref fa) →
      ∃ (K : PySem.W.Frag) (fd : FuncData) (x : Str), K.In h ∧ (∀ (s : Shared) (u : Value), BindsTo s fd ⟨[u], []⟩ [(x, u)]) ∧
        ∀ base : Heap, FnOk l.prog w K mg base (L2.CX l.prog w) k fa fd [x] (spV K mg 1 g)) :
    PySem.W.WalkO q loose XP YP l.row.toRowW d [] (fun f vs => PySem.call f vs) := by
  refine Att.attach_call hn hdf fun w s₀ s₁ mg mb fa o pm cd doc a vs ns G Y ho hd hcd hmg hobj hints hlen hgg => ?_
  obtain ⟨K, fd, x, KX, hb, hF⟩ := F w mg fa _ Y G.T.g hmg
  refine law_call KX G.T.g G.T.b G.T.builtins G.T.nolimit hgg hobj hints (Nat.le_trans hlen hn2) hr (fun base _ _ => hF base) hb (fun H hO hS => ?_) fun H e s' hx => ?_
  · refine ⟨rfl, H, [.scr ns], Same.refl H, .cons (.scr hS) .nil, ?_⟩
    rw [hg ns hlen]
    intro v F' H' _ rp
    cases rp
    rfl
  · obtain ⟨_, _, _, _, _, _, _, _, _, _, _, _, z⟩ := hx
    exact z
end VL

/-! VL14: a tuple repeated. -/
namespace VL
open PySem PySem.Spec PyProof.Rows L2
section
variable {X : Cx} {L : Lv} {pos : Pos} {a b : Expr} {ma mb : Rho → R D}
def oMulT : D → D → R D
  | .tup xs, .int k => if xs ≠ [] ∧ 2 ≤ k ∧ k ≤ 1000 ∧ xs.length ≤ 1000 then .ok (.tup (List.replicate k.toNat xs).flatten) else .bad
  | _, _ => .bad
theorem noEx_oMulT : noEx oMulT := fun d e c h => by
  unfold oMulT at h
  split at h
  · split at h <;> cases h
  · cases h
theorem ob_mulT : OpB L (rRepT L.K) oMulT := by
  intro F H v w d e z Q s r1 r2 hz q
  cases d <;> cases e <;> simp only [oMulT] at hz <;> first | (cases hz; done) | skip
  rename_i xs k
  obtain ⟨p, vs, rfl, hp, ra⟩ := r1.tup
  cases r2.int
  by_cases hc : xs ≠ [] ∧ 2 ≤ k ∧ k ≤ 1000 ∧ xs.length ≤ 1000
  · rw [if_pos hc] at hz
    cases hz
    refine ⟨p, k, vs, rfl, rfl, .inl (.inl (s _ _ hp)), fun z => hc.1 ?_, hc.2.1, hc.2.2.1, by rw [ra.length]; exact hc.2.2.2, fun l hl => ?_⟩
    · have := ra.length
      rw [z] at this
      exact List.length_eq_zero_iff.mp this.symm
    · exact q _ _ _ (Grow.frozen s hl) (.tup upd_same ((ra.rep _).mono (upd_new (s.free hl))))
  · rw [if_neg hc] at hz; cases hz
theorem v_mulT (hK : L.K = X.K) (ha : PB X L a ma) (hb : PB X L b mb) : PV X L (.BinOp a .Mult b pos) (mBin oMulT ma mb) := v_bin op_repT (hK ▸ ob_mulT) noEx_oMulT ha hb
end
end VL

/-! VL15: a tuple turned round, t[::-1]. -/
namespace VL
open PySem PySem.Spec PyProof.Rows L2
section
variable {prog : Program} {w : World} {A : Around} {E : Value → Shared → Prop} {s : Shared}
theorem rev_adjust (n : Nat) : Builtin.Slice.sliceAdjust none none (-1) (n : Int) = ((n : Int) - 1, -1) := by
  simp [Builtin.Slice.sliceAdjust]
theorem rev_places (n : Nat) : Builtin.Slice.slicePlaces ((n : Int) - 1) (-1) (-1) = n := by
  simp [Builtin.Slice.slicePlaces]
  omega
theorem rev_applied {z : Addr} {va vb vc : Value} {n : Nat} {Q : Int × Int × Nat → Shared → Prop} (ys : s.heap.IsSliceOf z va vb vc) (p1 : IsPart va none) (p2 : IsPart vb none) (p3 : IsPart vc (some (-1))) (k : Q ((n : Int) - 1, -1, n) s) :
    wpAny (model prog w) A (Builtin.Slice.sliceApplied (.ref z) (pure (n : Int))) Q E s := by
  obtain ⟨oz, y1, y2, y3⟩ := id ys
  unfold Builtin.Slice.sliceApplied Builtin.Slice.sliceFields
  refine wpAny_bind (wpAny_bind (wpAny_field y1 y3 (x := va) rfl (wpAny_bind (wpAny_field y1 y3 (x := vb) rfl (wpAny_bind (wpAny_field y1 y3 (x := vc) rfl (wpAny_pure ?_)))))))
  refine wpAny_bind (HT.slicePart_ p3 ?_)
  show wpAny _ _ (if ((-1 : Int) == 0) = true then _ else _) _ _ s
  rw [if_neg (show ¬ (((-1 : Int) == 0) = true) by decide)]
  refine wpAny_bind (HT.slicePart_ p1 (wpAny_bind (HT.slicePart_ p2 (wpAny_bind (wpAny_pure ?_)))))
  show wpAny _ _ (match Builtin.Slice.sliceAdjust none none (-1) (n : Int) with | (lo, hi) => pure (lo, (-1 : Int), Builtin.Slice.slicePlaces lo hi (-1))) _ _ s
  rw [rev_adjust n]
  show wpAny _ _ (pure ((n : Int) - 1, (-1 : Int), Builtin.Slice.slicePlaces ((n : Int) - 1) (-1) (-1))) _ _ s
  rw [rev_places]
  exact wpAny_pure k
theorem rev_pick (xs : Array Value) : ((List.range xs.size).filterMap fun (m : Nat) => xs[(((xs.size : Int) - 1) + (m : Int) * (-1)).toNat]?).toArray = xs.toList.reverse.toArray := by
  congr 1
  apply List.ext_getElem?
  intro i
  have e : ((List.range xs.size).filterMap fun (m : Nat) => xs[(((xs.size : Int) - 1) + (m : Int) * (-1)).toNat]?) = (List.range xs.size).map fun m => xs[xs.size - 1 - m]?.getD .none := by
    rw [← List.filterMap_eq_map]
    have key : ∀ l : List Nat, (∀ m ∈ l, m < xs.size) → (l.filterMap fun (m : Nat) => xs[(((xs.size : Int) - 1) + (m : Int) * (-1)).toNat]?) = l.filterMap (some ∘ fun m => xs[xs.size - 1 - m]?.getD .none) := by
      intro l
      induction l with
      | nil => intro _; rfl
      | cons a l ih =>
        intro h
        have ha := h a List.mem_cons_self
        have e1 : (((xs.size : Int) - 1) + (a : Int) * (-1)).toNat = xs.size - 1 - a := by omega
        rw [List.filterMap_cons, List.filterMap_cons, e1, ih fun m hm => h m (List.mem_cons_of_mem _ hm), Array.getElem?_eq_getElem (by omega)]
        simp only [Function.comp, Array.getElem?_eq_getElem (show xs.size - 1 - a < xs.size by omega), Option.getD_some]
    exact key _ fun m hm => List.mem_range.mp hm
  rw [e]
  by_cases hi : i < xs.size
  · rw [List.getElem?_map, List.getElem?_range hi, List.getElem?_reverse (by simpa using hi), Array.length_toList, Array.getElem?_toList, Option.map_some, Array.getElem?_eq_getElem (show xs.size - 1 - i < xs.size by omega)]
    rfl
  · rw [List.getElem?_eq_none (by simp; omega), List.getElem?_eq_none (by simp; omega)]
theorem getItem_rev {a z : Addr} {xs : Array Value} {va vb vc : Value} {Q : Value → Shared → Prop} (hx : IsTup s.heap a xs) (ys : s.heap.IsSliceOf z va vb vc) (p1 : IsPart va none) (p2 : IsPart vb none) (p3 : IsPart vc (some (-1)))
    (k : Q (.ref s.heap.objs.size) { s with heap := s.heap.push { cls := .type "tuple", data := .seq xs.toList.reverse.toArray } }) (hl : xs.size ≤ sizeLine) : wpAny (model prog w) A (getItem (.ref a) (.ref z)) Q E s := by
  have hsz : sizeOk (.seq xs.toList.reverse.toArray) := by
    show xs.toList.reverse.toArray.size ≤ sizeLine
    simpa using hl
  obtain ⟨oz, y1, y2, y3⟩ := id ys
  have yT : s.TypeIs (.ref z) "slice" := ⟨oz, y1, y2⟩
  unfold getItem
  try with_reducible refine wpAny_holding ?_
  first
    | refine wpAny_bind (wpAny_pure ?_)
    | skip
  refine wpAny_bind (wpAny_sequenceKey hx.typeIs (by decide) ?_)
  refine wpAny_bind (wpAny_callSpecial?_slot (name := Str.ofString "__getitem__") hx.typeIs PyProof.Rows.slot_tuple_getitem (wpAny_call_entry PyProof.Rows.slot_tuple_getitem hx.typeIs entry_tuple_getitem ?_ (args_tuple_getitem _ _)))
  show wpAny _ _ (Builtin.Tuple.tupleItemsOf (.ref a) >>= _) _ _ s
  refine wpAny_bind (tupleItemsOf_ hx (wpAny_bind (wpAny_typeOf yT ?_)))
  rw [if_pos (show _ = true by decide)]
  refine wpAny_bind (rev_applied ys p1 p2 p3 ?_)
  show wpAny _ _ (if ((((xs.size : Int) - 1) == 0 && (-1 : Int) == 1 && xs.size == xs.size) = true) then _ else _) _ _ s
  rw [if_neg (by simp), rev_pick]
  first
    | exact wpAny_bind (m := Builtin.Tuple.tupleExact _) (wpAny_newObj_type (wpAny_pure ⟨_, rfl, wpAny_pure k⟩) hsz)
    | exact wpAny_bind (m := Builtin.Tuple.tupleExact _) (wpAny_newObj_type (wpAny_bind (wpAny_pure (wpAny_pure ⟨_, rfl, wpAny_pure k⟩))) hsz)
    | exact wpAny_bind (wpAny_bind (m := Builtin.Tuple.tupleExact _) (wpAny_newObj_type (wpAny_pure (wpAny_pure ⟨_, rfl, wpAny_pure k⟩)) hsz))
    | exact wpAny_bind (wpAny_bind (m := Builtin.Tuple.tupleExact _) (wpAny_newObj_type (wpAny_pure ⟨_, rfl, wpAny_pure k⟩) hsz))
end
/-- t[::-1], t a tuple -/
def tRevT (K : PySem.W.Frag) (te : TE) : TE := fun σ H Q => te σ H fun x H1 => ∃ a xs, x = .ref a ∧ SqT K H1 a xs ∧ ∀ p, H1 p = none → Q (.ref p) (upd H1 p (.tup xs.reverse))
section
variable {X : Cx} {L : Lv} {pos : Pos}
theorem pe_revT {e : Expr} {te : TE} {k : Nat} {p1 p2 p3 : Pos} (he : PE X e te) : PE X (.Subscript e (.Slice none none (some (.UnaryOp .USub (.Constant (.int 1) k p1) p2)) p3) pos) (tRevT X.K te) := by
  refine ⟨fun pins s0 σ H Q I0 w0 => ?_⟩
  refine Subscript_ (thn (he.run pins s0 σ H _ I0 w0) fun v s1 ⟨x, H1, J1, r1, q1⟩ => ?_)
  obtain ⟨a, xs, rfl, hx, q⟩ := q1
  cases r1
  have st : PO X (some (.UnaryOp .USub (.Constant (.int 1) k p1) p2)) (tPart (tUn (rU fun i => .int (-i)) (tC (.int 1)))) := po_some (pe_un un_neg pe_int)
  refine wpAny_Slice (thn (po_none.run pins s1 σ H1 (fun o K2 => o = none ∧ K2 = H1) J1 ⟨rfl, rfl⟩) fun va s2 ⟨oa, K2, J2, pa, ea, ka⟩ => ?_)
  subst ea ka
  refine thn (po_none.run pins s2 σ K2 (fun o K3 => o = none ∧ K3 = K2) J2 ⟨rfl, rfl⟩) fun vb s3 ⟨ob, K3, J3, pb, eb, kb⟩ => ?_
  subst eb kb
  refine thn (st.run pins s3 σ K3 (fun o K4 => o = some (-1) ∧ K4 = K3) J3 ⟨1, rfl, -1, rfl, rfl, rfl⟩) fun vc s4 ⟨oc, K4, J4, pc, ec, kc⟩ => ?_
  subst ec kc
  have J5 : Inv X pins σ K4 { s4 with heap := s4.heap.push { cls := .type "slice", data := .fields #[va, vb, vc] } } := J4.kept (t' := s4.toks) fun b o z => Heap.get?_push_of_some _ z
  obtain ⟨its, rr, tt, zz⟩ := J5.tuple hx
  have hlen := rr.length
  show wpAny (model X.prog X.w) X.A (subscriptTail e (.Slice none none (some (.UnaryOp .USub (.Constant (.int 1) k p1) p2)) p3) (.ref a) (.ref s4.heap.objs.size)) (EP X pins σ Q) X.xe { s4 with heap := s4.heap.push { cls := .type "slice", data := .fields #[va, vb, vc] } }
  refine tail_any (ops := [.ref a, .ref s4.heap.objs.size]) tt.typeIs PyProof.Rows.slot_tuple_getitem.lookup ?_ (by with_unfolding_all rfl)
  refine getItem_rev tt (Heap.IsSliceOf.new _ va vb vc) pa pb pc ?_ (by rw [List.size_toArray, ← hlen]; exact zz)
  exact ⟨.ref _, _, J5.laid (t' := s4.toks) (o := .tup xs.reverse) (fun b o z => Heap.get?_push_of_some _ z) (Nat.le_refl _) (show ObjOk X.prog X.w _ _ _ (.tup xs.reverse) from ⟨by rw [List.length_reverse]; exact zz, _, rr.reverse, IsTup.new _ _⟩), rfl, q _ (J5.hok.fresh (Nat.le_refl _))⟩
def mRev (m : Rho → R D) : Rho → R D := fun ρ => (m ρ).bind fun d => match d with
  | .tup xs => .ok (.tup xs.reverse)
  | _ => .bad
theorem v_rev {a : Expr} {ma : Rho → R D} {k : Nat} {p1 p2 p3 : Pos} (hK : L.K = X.K) (ha : PB X L a ma) : PV X L (.Subscript a (.Slice none none (some (.UnaryOp .USub (.Constant (.int 1) k p1) p2)) p3) pos) (mRev ma) := (pe_revT ha).imp fun σ H Q ⟨F, ρ, rr, q⟩ => by
  refine TM.go rr q fun d v F1 H1 g1 r1 q1 => ?_
  cases d <;> simp only [] at q1 <;> first | exact q1.elim | skip
  obtain ⟨p, vs, rfl, hp, ra⟩ := r1.tup
  exact ⟨p, vs, rfl, .inl (.inl (g1.fh _ _ hp)), fun l hl => q1 _ _ _ (g1.trans (Grow.frozen g1.fh hl)) (.tup upd_same (ra.reverse.mono (upd_new (g1.fh.free hl))))⟩
end
end VL

/-! VL16: a tuple taken once, t * 1. -/
namespace VL
open PySem PySem.Spec PyProof.Rows L2
theorem tuple_mul1 (l : Addr) (items : Array Value) (n : Nat) (dd : Option Addr) (sl : Array (Option Value)) (x : Int) (u : Tok) (c0 : (decide (x < -(2 ^ 63)) || decide (x ≥ 2 ^ 63)) = false) (c1 : (items.isEmpty || x == 1) = true) :
    Meets (Builtin.«tuple.__mul__» ⟨[.ref l, .int x u], []⟩) (fun _ R s => s.heap.get? l = some { cls := .type "tuple", dict := dd, data := .seq items n, slots := sl } ∧ R (.ok (.ret (Value.ref l))) s) :=
  .of_wp fun prog w A R s h => by
    obtain ⟨hp, g, d, tk, os⟩ := s
    obtain ⟨hl, h⟩ := h
    have f1 := AutoSeq1.idx_int
    wp_walk using wpAny_loadPart' hl
    repeat (first
      | (refine wpAny_ite_false (decide_eq_false (by rw [c0]; exact Bool.false_ne_true)) ?_; wp_walk using wpAny_loadPart' hl)
      | (refine wpAny_ite_true (decide_eq_true c1) ?_; wp_walk using wpAny_loadPart' hl))
    exact ⟨_, rfl, h⟩
def rRep1 (K : PySem.W.Frag) : R2 := fun x y H Q => ∃ l xs, x = .ref l ∧ y = .int 1 ∧ SqT K H l xs ∧ Q (.ref l) H
section
variable {X : Cx} {L : Lv} {pos : Pos} {a b : Expr} {ma mb : Rho → R D}
theorem op_rep1 : OpR X (binaryOp .Mult) (rRep1 X.K) := by
  intro pins s σ H x y v u Q I rx ry h
  obtain ⟨l, xs, rfl, rfl, hT, q⟩ := h
  cases rx
  obtain ⟨t, rfl⟩ := ry
  obtain ⟨its, r, ⟨⟨cls, dd, data, sl⟩, ho, hc, n, hd⟩, hs⟩ := I.tuple hT
  simp only at hc hd
  subst hc hd
  have c0 : (decide ((1 : Int) < -(2 ^ 63)) || decide ((1 : Int) ≥ 2 ^ 63)) = false := by decide
  have c1 : (its.toArray.isEmpty || (1 : Int) == 1) = true := by simp
  refine wpAny_binaryOp_repeat_ref (T := "tuple") (U := "int") (by decide) ⟨_, ho, rfl⟩ (fun s' => typeIs_int s' 1 t) noFill_tuple_mul F.fills_int_mul F.slot_int_rmul repeat_tuple F.slot_int_index.lookup
    (call_meets F.slot_int_rmul (typeIs_int s 1 t) F.entry_int_rmul (F.args_int_rmul_2 _ _) (int_rmul_tuple 1 t l its.toArray n dd sl)
      ⟨ho, rfl, ⟨_, ho, rfl⟩, call_meets F.slot_tuple_mul ⟨_, ho, rfl⟩ F.entry_tuple_mul (F.args_tuple_mul_2 _ _) (tuple_mul1 l its.toArray n dd sl 1 t c0 c1) ⟨ho, ?_⟩⟩)
  exact ⟨.ref l, H, I, rfl, q⟩
def oMulU : D → D → R D
  | .tup xs, .int k => if xs ≠ [] ∧ 1 ≤ k ∧ k ≤ 1000 ∧ xs.length ≤ 1000 then .ok (.tup (List.replicate k.toNat xs).flatten) else .bad
  | _, _ => .bad
theorem noEx_oMulU : noEx oMulU := fun d e c h => by
  unfold oMulU at h
  split at h
  · split at h <;> cases h
  · cases h
theorem ob_mulU : OpB L (fun x y H Q => rRepT L.K x y H Q ∨ rRep1 L.K x y H Q) oMulU := by
  intro F H v w d e z Q s r1 r2 hz q
  cases d <;> cases e <;> simp only [oMulU] at hz <;> first | (cases hz; done) | skip
  rename_i xs k
  by_cases hc : xs ≠ [] ∧ 1 ≤ k ∧ k ≤ 1000 ∧ xs.length ≤ 1000
  · rw [if_pos hc] at hz
    by_cases h1 : k = 1
    · right
      subst h1
      cases hz
      obtain ⟨p, vs, rfl, hp, ra⟩ := r1.tup
      cases r2.int
      refine ⟨p, vs, rfl, rfl, .inl (.inl (s _ _ hp)), q _ F H (Grow.refl s) ?_⟩
      have e : (List.replicate (1 : Int).toNat xs).flatten = xs := by simp
      rw [e]
      exact .tup hp ra
    · left
      exact ob_mulT F H v w (.tup xs) (.int k) z Q s r1 r2 (by simp only [oMulT]; rw [if_pos ⟨hc.1, by omega, hc.2.2⟩]; exact hz) q
  · rw [if_neg hc] at hz; cases hz
theorem v_mulU (hK : L.K = X.K) (ha : PB X L a ma) (hb : PB X L b mb) : PV X L (.BinOp a .Mult b pos) (mBin oMulU ma mb) := v_bin (op_repT.or op_rep1) (hK ▸ ob_mulU) noEx_oMulU ha hb
end
end VL

/-! VL17: list(zip(a, b)), a and b tuples or lists, over the raw heap. -/
namespace VL
open PySem PySem.Spec PyProof.Rows L2
section
variable {prog : Program} {w : World} {A : Around} {E : Value → Shared → Prop} {s : Shared} {z TI TO i1 i2 : Addr} {fp1 fp2 : List Addr} {n1 n2 i : Nat} {P1 P2 : Nat → Value → Prop} {St1 St2 : Nat → Heap → Prop}
/-- next(zip) while the tuple T that it gave out is alive: one more tuple -/
theorem zh_item {T : Addr} {f : Bool} {oT : Obj} {Q : Value → Shared → Prop} (S : ZipSep2 z TI TO i1 i2 fp1 fp2) (D1 : Draws prog w A i1 fp1 n1 P1 St1) (D2 : Draws prog w A i2 fp2 n2 P2 St2)
    (hz : IsZipHeld s.heap z TI TO T f) (hT : s.heap.get? T = some oT) (hTI : IsTupOf2 s.heap TI (.ref i1) (.ref i2)) (st1 : St1 i s.heap) (st2 : St2 i s.heap) (k1 : i < n1) (k2 : i < n2)
    (hQ : ∀ x1 x2 h' tk, P1 i x1 → P2 i x2 → IsZipHeld h' z TI TO T true → St1 (i + 1) h' → St2 (i + 1) h' → IsTupOf2 h' s.heap.objs.size x1 x2 → h'.objs.size = s.heap.objs.size + 1 →
      (∀ c o, c ≠ z → c ≠ i1 → c ≠ i2 → s.heap.get? c = some o → h'.get? c = some o) → Q (.ref s.heap.objs.size) { s with heap := h', toks := tk }) :
    wpAny (model prog w) A (Builtin.«zip.__next__» ⟨[.ref z], []⟩) (fun fin s' => ∃ v, fin = .done (.ret v) ∧ Q v s') E s := by
  obtain ⟨hp, g, d, t0, os⟩ := s
  have tail : ∀ (h1 : Heap), IsZipHeld h1 z TI TO T true → Heap.SameBut z hp h1 → ∀ x1 (p1 : Heap) (t1 : Nat), P1 i x1 → St1 (i + 1) p1 → Heap.SameBut i1 h1 p1 → ∀ x2 (p2 : Heap) (t2 : Nat), P2 i x2 → St2 (i + 1) p2 → Heap.SameBut i2 p1 p2 →
      Q (.ref p2.objs.size) ⟨p2.push { cls := .type "tuple", data := .seq #[x1, x2] }, g, d, t2, os⟩ := by
    intro h1 hz1 s1 x1 p1 t1 hx1 sa1 sb1 x2 p2 t2 hx2 sa2 sb2
    have sz : p2.objs.size = hp.objs.size := by rw [sb2.1, sb1.1, s1.1]
    have hz2 : IsZipHeld p2 z TI TO T true := sb2.extBut _ _ S.zi2 (sb1.extBut _ _ S.zi1 hz1)
    have pr : IsTupOf2 (p2.push { cls := .type "tuple", data := .seq #[x1, x2] }) p2.objs.size x1 x2 := Heap.get?_push_size _ rfl
    have sp : (p2.push { cls := .type "tuple", data := .seq #[x1, x2] }).objs.size = p2.objs.size + 1 := Heap.size_push ..
    rw [sz] at pr sp ⊢
    refine hQ x1 x2 _ t2 hx1 hx2 (Heap.get?_push_of_some _ hz2) (D1.frame _ _ _ (D1.over sa1 sb2 S.sep2_1) fun b _ o q => Heap.get?_push_of_some _ q) (D2.frame _ _ _ sa2 fun b _ o q => Heap.get?_push_of_some _ q) pr sp fun c o c1 c2 c3 q => ?_
    exact Heap.get?_push_of_some _ (sb2.extBut _ _ c3 (sb1.extBut _ _ c2 (s1.extBut _ _ c1 q)))
  show wpAny _ _ (field (.ref z) 2 >>= _) _ _ _
  refine wpAny_bind (wpAny_field hz rfl (x := .bool false) rfl ?_)
  show wpAny _ _ (field (.ref z) 3 >>= _) _ _ _
  refine wpAny_bind (wpAny_field hz rfl (x := .ref TI) rfl (wpAny_bind (wpAny_seqItems hTI rfl ?_)))
  show wpAny _ _ (Builtin.SmallTypes.ownedTupleIsFree (.ref z) >>= _) _ _ _
  refine wpAny_bind (wpAny_tupleHeld_zip hz hT fun h1 hz1 s1 => ?_)
  replace s1 : Heap.SameBut z hp h1 := s1
  rw [if_neg Bool.false_ne_true]
  refine wpAny_bind ?_
  rw [← Array.forIn_toList]
  rw [List.forIn_cons]
  refine wpAny_bind (wpAny_bind (wpAny_holding ?_))
  show wpAny _ _ (Builtin.SmallTypes.nextOf (.ref i1) >>= _) _ _ ⟨h1, g, d, t0, os⟩
  refine wpAny_bind (D1.item i _ _ _ k1 (D1.over st1 s1 S.zf1) fun x1 p1 t1 hx1 sa1 sb1 => wpAny_pure (wpAny_pure ?_))
  replace sb1 : Heap.SameBut i1 h1 p1 := sb1
  simp only [List.forIn_cons, List.forIn_nil]
  refine wpAny_bind (wpAny_bind (wpAny_holding ?_))
  show wpAny _ _ (Builtin.SmallTypes.nextOf (.ref i2) >>= _) _ _ ⟨p1, g, d, t1, os⟩
  refine wpAny_bind (D2.item i _ _ _ k2 (D2.over (D2.over st2 s1 S.zf2) sb1 S.sep1_2) fun x2 p2 t2 hx2 sa2 sb2 => wpAny_pure (wpAny_pure (wpAny_pure ?_)))
  show wpAny _ _ (newTuple [x1, x2] >>= _) _ _ _
  exact wpAny_bind (wpAny_newTuple (wpAny_pure ⟨_, rfl, tail h1 hz1 s1 x1 p1 t1 hx1 sa1 sb1 x2 p2 t2 hx2 sa2 sb2⟩))
/-- .. and its end -/
theorem zh_end {T : Addr} {f : Bool} {oT : Obj} {Q : Fin → Shared → Prop} (S : ZipSep2 z TI TO i1 i2 fp1 fp2) (D1 : Draws prog w A i1 fp1 n1 P1 St1) (D2 : Draws prog w A i2 fp2 n2 P2 St2)
    (hz : IsZipHeld s.heap z TI TO T f) (hT : s.heap.get? T = some oT) (hTI : IsTupOf2 s.heap TI (.ref i1) (.ref i2)) (st1 : St1 i s.heap) (st2 : St2 i s.heap) (k1 : i ≤ n1) (k2 : i ≤ n2) (hend : i = n1 ∨ i = n2)
    (hE : ∀ h' tk e, (∀ c o, c ≠ z → c ≠ i1 → c ≠ i2 → s.heap.get? c = some o → h'.get? c = some o) → (∃ o, h'.get? e = some o ∧ o.cls = .type "StopIteration") → E (.ref e) { s with heap := h', toks := tk }) :
    wpAny (model prog w) A (Builtin.«zip.__next__» ⟨[.ref z], []⟩) Q E s := by
  obtain ⟨hp, g, d, t0, os⟩ := s
  show wpAny _ _ (field (.ref z) 2 >>= _) _ _ _
  refine wpAny_bind (wpAny_field hz rfl (x := .bool false) rfl ?_)
  show wpAny _ _ (field (.ref z) 3 >>= _) _ _ _
  refine wpAny_bind (wpAny_field hz rfl (x := .ref TI) rfl (wpAny_bind (wpAny_seqItems hTI rfl ?_)))
  show wpAny _ _ (Builtin.SmallTypes.ownedTupleIsFree (.ref z) >>= _) _ _ _
  refine wpAny_bind (wpAny_tupleHeld_zip hz hT fun h1 hz1 s1 => ?_)
  replace s1 : Heap.SameBut z hp h1 := s1
  rw [if_neg Bool.false_ne_true]
  refine wpAny_bind ?_
  rw [← Array.forIn_toList]
  rw [List.forIn_cons]
  refine wpAny_bind (wpAny_bind (wpAny_holding ?_))
  show wpAny _ _ (Builtin.SmallTypes.nextOf (.ref i1) >>= _) _ _ ⟨h1, g, d, t0, os⟩
  by_cases k : i = n1
  · refine wpAny_bind (D1.done ⟨h1, g, d, t0, os⟩ _ _ (by rw [← k]; exact D1.over st1 s1 S.zf1) fun q e hq he => ?_)
    exact hE q t0 e (fun c o c1 c2 _ y => hq _ _ c2 (s1.extBut _ _ c1 y)) he
  · have k' : i = n2 := by omega
    refine wpAny_bind (D1.item i _ _ _ (by omega) (D1.over st1 s1 S.zf1) fun x1 p1 t1 hx1 sa1 sb1 => wpAny_pure (wpAny_pure ?_))
    replace sb1 : Heap.SameBut i1 h1 p1 := sb1
    simp only [List.forIn_cons, List.forIn_nil]
    refine wpAny_bind (wpAny_bind (wpAny_holding ?_))
    show wpAny _ _ (Builtin.SmallTypes.nextOf (.ref i2) >>= _) _ _ ⟨p1, g, d, t1, os⟩
    refine wpAny_bind (D2.done ⟨p1, g, d, t1, os⟩ _ _ (by rw [← k']; exact D2.over (D2.over st2 s1 S.zf2) sb1 S.sep1_2) fun q e hq he => ?_)
    exact hE q t1 e (fun c o c1 c2 c3 y => hq _ _ c3 (sb1.extBut _ _ c2 (s1.extBut _ _ c1 y))) he
theorem zh_pyItem {T : Addr} {f : Bool} {oT : Obj} {Q : Option Value → Shared → Prop} (S : ZipSep2 z TI TO i1 i2 fp1 fp2) (D1 : Draws prog w A.in1 i1 fp1 n1 P1 St1) (D2 : Draws prog w A.in1 i2 fp2 n2 P2 St2)
    (hz : IsZipHeld s.heap z TI TO T f) (hT : s.heap.get? T = some oT) (hTI : IsTupOf2 s.heap TI (.ref i1) (.ref i2)) (st1 : St1 i s.heap) (st2 : St2 i s.heap) (k1 : i < n1) (k2 : i < n2)
    (hQ : ∀ x1 x2 h' tk, P1 i x1 → P2 i x2 → IsZipHeld h' z TI TO T true → St1 (i + 1) h' → St2 (i + 1) h' → IsTupOf2 h' s.heap.objs.size x1 x2 → h'.objs.size = s.heap.objs.size + 1 →
      (∀ c o, c ≠ z → c ≠ i1 → c ≠ i2 → s.heap.get? c = some o → h'.get? c = some o) → Q (some (.ref s.heap.objs.size)) { s with heap := h', toks := tk }) :
    wpAny (model prog w) A (pyNext (.ref z)) Q E s := by
  have hTy : s.TypeIs (.ref z) "zip" := ⟨_, hz, rfl⟩
  unfold pyNext
  exact wpAny_bind (wpAny_attempt (wpAny_callSpecial?_slot (name := Str.ofString "__next__") hTy F.slot_zip_next (wpAny_call_entry F.slot_zip_next hTy F.entry_zip_next
    (zh_item S D1 D2 hz hT hTI st1 st2 k1 k2 fun x1 x2 h' tk a b c d e f g y => wpAny_pure (hQ x1 x2 h' tk a b c d e f g y)) (F.args_zip_next_1 _))))
theorem zh_pyEnd {T : Addr} {f : Bool} {oT : Obj} {Q : Option Value → Shared → Prop} (S : ZipSep2 z TI TO i1 i2 fp1 fp2) (D1 : Draws prog w A.in1 i1 fp1 n1 P1 St1) (D2 : Draws prog w A.in1 i2 fp2 n2 P2 St2)
    (hz : IsZipHeld s.heap z TI TO T f) (hT : s.heap.get? T = some oT) (hTI : IsTupOf2 s.heap TI (.ref i1) (.ref i2)) (st1 : St1 i s.heap) (st2 : St2 i s.heap) (k1 : i ≤ n1) (k2 : i ≤ n2) (hend : i = n1 ∨ i = n2)
    (hQ : ∀ h' tk, (∀ c o, c ≠ z → c ≠ i1 → c ≠ i2 → s.heap.get? c = some o → h'.get? c = some o) → Q none { s with heap := h', toks := tk }) : wpAny (model prog w) A (pyNext (.ref z)) Q E s := by
  have hTy : s.TypeIs (.ref z) "zip" := ⟨_, hz, rfl⟩
  unfold pyNext
  refine wpAny_bind (wpAny_attempt (wpAny_callSpecial?_slot (name := Str.ofString "__next__") hTy F.slot_zip_next (wpAny_call_entry F.slot_zip_next hTy F.entry_zip_next
    (zh_end S D1 D2 hz hT hTI st1 st2 k1 k2 hend fun h' tk e hk ⟨o, ho, hc⟩ => ?_) (F.args_zip_next_1 _))))
  exact wpAny_bind (wpAny_isInstance (T := "StopIteration") (b := true) ⟨o, ho, hc⟩ isSubtype_stop (wpAny_pure (hQ _ _ hk)))
end
theorem ne_above {a b t : Addr} (h : a < b) (h' : b ≤ t) : t ≠ a := fun e => absurd h' (by rw [e]; exact Nat.not_le.mpr h)
/-- the list of the tuples Ts at L -/
abbrev lstObj (Ts : List Addr) (c : Nat) : Obj := { cls := .type "list", dict := none, data := .seq (Ts.map Value.ref).toArray c, slots := #[] }
section
variable {prog : Program} {w : World} {A : Around} {R : Result → Shared → Prop} {z TI TO i1 i2 L : Addr} {fp1 fp2 : List Addr} {n1 n2 : Nat} {P1 P2 : Nat → Value → Prop} {St1 St2 : Nat → Heap → Prop}
/-- between two turns -/
structure ZLoop (P1 P2 : Nat → Value → Prop) (St1 St2 : Nat → Heap → Prop) (z TI TO i1 i2 L base i : Nat) (Ts : List Addr) (h : Heap) : Prop where
  ti : IsTupOf2 h TI (.ref i1) (.ref i2)
  s1 : St1 i h
  s2 : St2 i h
  zz : (IsZip h z TI TO .none ∧ ∃ a b, IsTupOf2 h TO a b) ∨ ∃ T f oT, IsZipHeld h z TI TO T f ∧ h.get? T = some oT ∧ base ≤ T
  ln : Ts.length = i
  pw : Ts.Pairwise (· < ·)
  lo : ∀ T ∈ Ts, base ≤ T ∧ T < h.objs.size
  pr : ∀ j T, Ts[j]? = some T → ∃ x y, P1 j x ∧ P2 j y ∧ IsTupOf2 h T x y
theorem zip_extend (S : ZipSep2 z TI TO i1 i2 fp1 fp2) (D1 : Draws prog w A.in1.in1 i1 fp1 n1 P1 St1) (D2 : Draws prog w A.in1.in1 i2 fp2 n2 P2 St2) (base : Nat) (b1 : z < base) (b2 : TI < base) (b3 : TO < base) (b4 : i1 < base) (b5 : i2 < base) (b6 : L < base)
    (a1 : L ≠ z) (a2 : L ≠ TI) (a3 : L ≠ TO) (a4 : L ∉ fp1) (a5 : L ∉ fp2) (hn : min n1 n2 ≤ 1000000) (res : Value) :
    ∀ (k i : Nat) (s : Shared) (c : Nat) (Ts : List Addr), min n1 n2 - i = k → i ≤ min n1 n2 → base ≤ s.heap.objs.size → ZLoop P1 P2 St1 St2 z TI TO i1 i2 L base i Ts s.heap → s.heap.get? L = some (lstObj Ts c) →
    (∀ h' tk Ts' c', Ts'.length = min n1 n2 → Ts'.Pairwise (· < ·) → (∀ T ∈ Ts', base ≤ T) → (∀ j T, Ts'[j]? = some T → ∃ x y, P1 j x ∧ P2 j y ∧ IsTupOf2 h' T x y) → h'.get? L = some (lstObj Ts' c') →
      (∀ b o, b ≠ L → b ≠ z → b ≠ TO → b ≠ i1 → b ≠ i2 → s.heap.get? b = some o → h'.get? b = some o) → R (.ok (.ret res)) { s with heap := h', toks := tk }) →
    codeAny (model prog w) A (.builtin "list.extend.loop" ⟨[.ref L, .ref z, res], []⟩) R s := by
  have l1 : L ≠ i1 := fun e => a4 (e ▸ S.mem1)
  have l2 : L ≠ i2 := fun e => a5 (e ▸ S.mem2)
  intro k
  induction k with
  | zero =>
    intro i s c Ts hk hi hb Z hL hR
    refine codeAny_builtin F.entry_extend_loop ?_
    rw [Around.under_plainId F.plain_extend_loop _]
    show wpAny _ A.in1 (pyNext (.ref z) >>= _) _ _ s
    have hin : i = n1 ∨ i = n2 := by omega
    have fin : ∀ h' tk, (∀ c o, c ≠ z → c ≠ TO → c ≠ i1 → c ≠ i2 → s.heap.get? c = some o → h'.get? c = some o) → R (.ok (.ret res)) { s with heap := h', toks := tk } := fun h' tk hk' => by
      refine hR h' tk Ts c (by rw [Z.ln]; omega) Z.pw (fun T hT => (Z.lo T hT).1) (fun j T hj => ?_) (hk' L _ a1 a3 l1 l2 hL) fun b o _ c1 c2 c3 c4 e => hk' b o c1 c2 c3 c4 e
      obtain ⟨x, y, p1, p2, q⟩ := Z.pr j T hj
      have := (Z.lo T (List.mem_of_getElem? hj)).1
      exact ⟨x, y, p1, p2, hk' T _ (ne_above b1 this) (ne_above b3 this) (ne_above b4 this) (ne_above b5 this) q⟩
    rcases Z.zz with ⟨hz, a, b, hTO⟩ | ⟨T, f, oT, hz, hT, hTb⟩
    · exact wpAny_bind (wpAny_pyNext_zipD2_end S D1 D2 hz Z.ti hTO Z.s1 Z.s2 (by omega) (by omega) hin fun h' tk hk' => wpAny_pure (fin h' tk hk'))
    · exact wpAny_bind (zh_pyEnd S D1 D2 hz hT Z.ti Z.s1 Z.s2 (by omega) (by omega) hin fun h' tk hk' => wpAny_pure (fin h' tk fun c o c1 _ c3 c4 e => hk' c o c1 c3 c4 e))
  | succ k ih =>
    intro i s c Ts hk hi hb Z hL hR
    refine codeAny_builtin F.entry_extend_loop ?_
    rw [Around.under_plainId F.plain_extend_loop _]
    show wpAny _ A.in1 (pyNext (.ref z) >>= _) _ _ s
    have step : ∀ x1 x2 (h' : Heap) tk, P1 i x1 → P2 i x2 → ((∃ T f oT, IsZipHeld h' z TI TO T f ∧ h'.get? T = some oT ∧ base ≤ T)) → St1 (i + 1) h' → St2 (i + 1) h' → IsTupOf2 h' s.heap.objs.size x1 x2 → h'.objs.size = s.heap.objs.size + 1 →
        (∀ c o, c ≠ z → c ≠ TO → c ≠ i1 → c ≠ i2 → s.heap.get? c = some o → h'.get? c = some o) →
        wpAny (model prog w) A.in1 (updateSeq L (·.push (.ref s.heap.objs.size)) >>= fun _ => again (.builtin "list.extend.loop" ⟨[.ref L, .ref z, res], []⟩))
          (fun fin s' => match fin with | .done f => R (.ok f) s' | .again c' => c'.quiet = true ∧ codeAny (model prog w) A c' R s') (fun e s' => R (.error e) s') { s with heap := h', toks := tk } := by
      intro x1 x2 h' tk p1 p2 hzz t1 t2 pr sz hk'
      have hL' : h'.get? L = some (lstObj Ts c) := hk' L _ a1 a3 l1 l2 hL
      have lt : (Ts.map Value.ref).toArray.size < 1000000 := by simp; rw [Z.ln]; omega
      have sl := sizeLine_eq
      refine wpAny_bind (wpAny_updateSeq hL' rfl (wpAny_pure ⟨plainId_quiet F.plain_extend_loop _, ?_⟩) (by omega) (by show ((Ts.map Value.ref).toArray.push _).size ≤ sizeLine + 1; rw [Array.size_push]; omega))
      have hU := Heap.get?_update_self (Obj.mapSeq (·.push (Value.ref s.heap.objs.size))) hL' rfl
      have oth : ∀ b o, b ≠ L → h'.get? b = some o → (h'.update L (Obj.mapSeq (·.push (Value.ref s.heap.objs.size)))).get? b = some o := fun b o hb e => (Heap.get?_update_other _ _ (Ne.symm hb)).trans e
      have szu : (h'.update L (Obj.mapSeq (·.push (Value.ref s.heap.objs.size)))).objs.size = h'.objs.size := Heap.size_update ..
      refine ih (i + 1) { s with heap := h'.update L (Obj.mapSeq (·.push (Value.ref s.heap.objs.size))), toks := tk } (c + 1) (Ts ++ [s.heap.objs.size]) (by omega) (by omega) (by show base ≤ (h'.update L _).objs.size; rw [szu, sz]; omega) ?_ ?_ ?_
      · refine ⟨oth _ _ (Ne.symm a2) (hk' TI _ S.TIz S.TITO S.TIi1 S.TIi2 Z.ti), D1.frame _ _ _ t1 fun b hb o e => oth b o (fun q => a4 (q ▸ hb)) e, D2.frame _ _ _ t2 fun b hb o e => oth b o (fun q => a5 (q ▸ hb)) e, .inr ?_, by simp [Z.ln], ?_, fun T hT => ?_, fun j T hj => ?_⟩
        · obtain ⟨T, f, oT, q1, q2, q3⟩ := hzz
          exact ⟨T, f, oT, oth _ _ (Ne.symm a1) q1, oth _ _ (ne_above b6 q3) q2, q3⟩
        · refine List.pairwise_append.mpr ⟨Z.pw, List.pairwise_singleton _ _, fun a ha b hb => ?_⟩
          rw [List.mem_singleton.mp hb]
          exact (Z.lo a ha).2
        · show base ≤ T ∧ T < (h'.update L _).objs.size
          rw [szu, sz]
          rcases List.mem_append.mp hT with q | q
          · have := Z.lo T q
            exact ⟨this.1, Nat.lt_succ_of_lt this.2⟩
          · rw [List.mem_singleton.mp q]
            exact ⟨hb, Nat.lt_succ_self _⟩
        · by_cases c : j < Ts.length
          · rw [List.getElem?_append_left c] at hj
            obtain ⟨x, y, q1, q2, q3⟩ := Z.pr j T hj
            have := (Z.lo T (List.mem_of_getElem? hj)).1
            exact ⟨x, y, q1, q2, oth T _ (ne_above b6 this) (hk' T _ (ne_above b1 this) (ne_above b3 this) (ne_above b4 this) (ne_above b5 this) q3)⟩
          · rw [List.getElem?_append_right (by omega)] at hj
            have e0 : j - Ts.length = 0 := by
              have := (List.getElem?_eq_some_iff.mp hj).1
              simp at this
              omega
            rw [e0] at hj
            cases hj
            have ej : j = i := by have := Z.ln; omega
            subst ej
            exact ⟨x1, x2, p1, p2, oth _ _ (ne_above b6 hb) pr⟩
      · rw [hU]
        simp [Obj.mapSeq]
      · intro h'' tk' Ts' c' q1 q2 q3 q4 q5 q6
        exact hR h'' tk' Ts' c' q1 q2 q3 q4 q5 fun b o c0 c1 c2 c3 c4 e => q6 b o c0 c1 c2 c3 c4 (oth b o c0 (hk' b o c1 c2 c3 c4 e))
    rcases Z.zz with ⟨hz, a, b, hTO⟩ | ⟨T, f, oT, hz, hT, hTb⟩
    · refine wpAny_bind (wpAny_pyNext_zipD2_item S D1 D2 hz Z.ti hTO Z.s1 Z.s2 (by omega) (by omega) fun x1 x2 h' tk p1 p2 zh _ t1 t2 pr sz hk' => ?_)
      exact step x1 x2 h' tk p1 p2 ⟨s.heap.objs.size, false, _, zh, pr, hb⟩ t1 t2 pr sz hk'
    · refine wpAny_bind (zh_pyItem S D1 D2 hz hT Z.ti Z.s1 Z.s2 (by omega) (by omega) fun x1 x2 h' tk p1 p2 zh t1 t2 pr sz hk' => ?_)
      exact step x1 x2 h' tk p1 p2 ⟨T, true, oT, zh, hk' T _ (ne_above b1 hTb) (ne_above b4 hTb) (ne_above b5 hTb) hT, hTb⟩ t1 t2 pr sz fun c o c1 _ c3 c4 e => hk' c o c1 c3 c4 e
end
end VL

/-! VL18: list(zip(a, b)) as an expression. -/
namespace VL
open PySem PySem.Spec PyProof.Rows L2
theorem zip_nolen : typeLookup (.type "zip") "__len__" = pure none := am_miss_of_fast (by decide +kernel)
theorem zip_nohint : typeLookup (.type "zip") "__length_hint__" = pure none := am_miss_of_fast (by decide +kernel)
section
variable {prog : Program} {w : World} {A : Around} {E : Value → Shared → Prop} {s : Shared} {z TI TO i1 i2 : Addr} {fp1 fp2 : List Addr} {n1 n2 : Nat} {P1 P2 : Nat → Value → Prop} {St1 St2 : Nat → Heap → Prop} {a b : Value}
theorem list_of_zip {Q : Value → Shared → Prop} (S : ZipSep2 z TI TO i1 i2 fp1 fp2) (D1 : Draws prog w A.in1.in1.in1 i1 fp1 n1 P1 St1) (D2 : Draws prog w A.in1.in1.in1 i2 fp2 n2 P2 St2) (f1 : ∀ c ∈ fp1, c < s.heap.objs.size) (f2 : ∀ c ∈ fp2, c < s.heap.objs.size)
    (hz : IsZip s.heap z TI TO .none) (hTI : IsTupOf2 s.heap TI (.ref i1) (.ref i2)) (hTO : IsTupOf2 s.heap TO a b) (st1 : St1 0 s.heap) (st2 : St2 0 s.heap) (hn : min n1 n2 ≤ 1000000)
    (hQ : ∀ h' tk Ts c, Ts.length = min n1 n2 → Ts.Pairwise (· < ·) → (∀ T ∈ Ts, s.heap.objs.size < T) → (∀ j T, Ts[j]? = some T → ∃ x y, P1 j x ∧ P2 j y ∧ IsTupOf2 h' T x y) → h'.get? s.heap.objs.size = some (lstObj Ts c) →
      (∀ b o, b ≠ z → b ≠ TO → b ≠ i1 → b ≠ i2 → s.heap.get? b = some o → h'.get? b = some o) → Q (.ref s.heap.objs.size) { s with heap := h', toks := tk }) :
    wpAny (model prog w) A (call (.type "list") [.ref z]) Q E s := by
  have i1m : i1 < s.heap.objs.size := f1 _ S.mem1
  have i2m : i2 < s.heap.objs.size := f2 _ S.mem2
  have zlt := Heap.lt_size hz
  have tilt := Heap.lt_size hTI
  have tolt := Heap.lt_size hTO
  refine callType_codes (Q₁ := fun obj s₁ => obj = .ref s.heap.objs.size ∧ s₁ = { s with heap := s.heap.push { cls := .type "list", data := .seq #[] } }) F.called_list (F.typeCall_list_1 _) F.entry_list_init (code_list_new _ ⟨rfl, rfl⟩) ?_
  rintro obj s₁ ⟨rfl, rfl⟩
  generalize hL : s.heap.objs.size = L at *
  have hS : (s.heap.push { cls := .type "list", data := .seq #[] }).get? L = some { cls := .type "list", data := .seq #[] } := by rw [← hL]; exact Heap.get?_push_size _ rfl
  have ne : ∀ {c : Addr}, c < L → c ≠ L := fun q => Nat.ne_of_lt q
  have szp : (s.heap.push { cls := .type "list", data := .seq #[] }).objs.size = L + 1 := by rw [Heap.size_push, hL]
  generalize hh0 : s.heap.push { cls := .type "list", data := .seq #[] } = h0 at *
  have k0 : ∀ b o, s.heap.get? b = some o → h0.get? b = some o := fun b o e => by rw [← hh0]; exact Heap.get?_push_of_some _ e
  refine ⟨⟨_, hS, rfl⟩, F.args_list_init_2 _ _, ?_⟩
  show wpAny _ _ (do let old ← Builtin.List.listItems (.ref L); Builtin.List.listUpdate (.ref L) (fun _ => #[]); letGo old.toList.reverse; Builtin.List.listExtendWith (.ref L) (.ref z) .none) _ _ _
  refine wpAny_bind ?_
  unfold Builtin.List.listItems
  refine wpAny_bind (wpAny_seqItems hS rfl (wpAny_pure ?_))
  show wpAny _ _ (updateSeq L (fun _ => #[]) >>= fun _ => letGo (#[] : Array Value).toList.reverse >>= fun _ => Builtin.List.listExtendWith (.ref L) (.ref z) .none) _ _ _
  refine wpAny_bind (wpAny_updateSeq hS rfl (wpAny_bind (wpAny_letGo ?_)))
  have hS2 := Heap.get?_update_self (Obj.mapSeq (fun _ => (#[] : Array Value))) hS rfl
  have k1 : ∀ b o, b ≠ L → s.heap.get? b = some o → (h0.update L (Obj.mapSeq (fun _ => (#[] : Array Value)))).get? b = some o := fun b o hb e => (Heap.get?_update_other _ _ (Ne.symm hb)).trans (k0 b o e)
  have sz1 : (h0.update L (Obj.mapSeq (fun _ => (#[] : Array Value)))).objs.size = L + 1 := (Heap.size_update ..).trans szp
  generalize h0.update L (Obj.mapSeq (fun _ => (#[] : Array Value))) = g1 at *
  have hz1 : IsZip g1 z TI TO .none := k1 _ _ (ne zlt) hz
  unfold Builtin.List.listExtendWith
  refine wpAny_bind (wpAny_typeOf (T := "zip") ⟨_, hz1, rfl⟩ ?_)
  have e1 : Builtin.List.listSameRef (.ref L) (.ref z) = false := by simp [Builtin.List.listSameRef, Ne.symm (ne zlt)]
  have e2 : (Value.type "zip" == Value.type "list") = false := by decide
  have e3 : (Value.type "zip" == Value.type "tuple") = false := by decide
  simp only [e1, e2, e3, Bool.or_false, Bool.false_eq_true, if_false]
  refine wpAny_bind (wpAny_pyIter_zip hz1 (wpAny_bind (wpAny_holding ?_)))
  unfold Builtin.List.listLengthHint
  refine wpAny_bind (wpAny_specialOf (T := "zip") ⟨_, hz1, rfl⟩ zip_nolen ?_)
  show wpAny _ _ (specialOf (Value.ref z) (Str.ofString "__length_hint__") >>= _) _ _ _
  refine wpAny_bind (wpAny_specialOf (T := "zip") ⟨_, hz1, rfl⟩ zip_nohint (wpAny_pure ?_))
  show wpAny _ _ (rule "list.extend.makes-room" >>= fun _ => Builtin.List.listTouch (.ref L) >>= fun _ => again (.builtin "list.extend.loop" ⟨[.ref L, .ref z, .none], []⟩)) _ _ _
  refine wpAny_bind (wpAny_rule (wpAny_bind ?_))
  show wpAny _ _ (updateSeq L (·.push .none) >>= fun _ => updateSeq L (·.pop)) _ _ _
  refine wpAny_bind (wpAny_updateSeq hS2 rfl ?_)
  have hS3 := Heap.get?_update_self (Obj.mapSeq (·.push Value.none)) hS2 rfl
  refine wpAny_updateSeq (hz := by seq_fits) hS3 rfl ?_
  have hS4 := Heap.get?_update_self (Obj.mapSeq (·.pop)) hS3 rfl
  have k2 : ∀ b o, b ≠ L → s.heap.get? b = some o → ((g1.update L (Obj.mapSeq (·.push Value.none))).update L (Obj.mapSeq (·.pop))).get? b = some o := fun b o hb e => (Heap.get?_update_other _ _ (Ne.symm hb)).trans ((Heap.get?_update_other _ _ (Ne.symm hb)).trans (k1 b o hb e))
  have sz2 : ((g1.update L (Obj.mapSeq (·.push Value.none))).update L (Obj.mapSeq (·.pop))).objs.size = L + 1 := (Heap.size_update ..).trans ((Heap.size_update ..).trans sz1)
  generalize (g1.update L (Obj.mapSeq (·.push Value.none))).update L (Obj.mapSeq (·.pop)) = g2 at *
  refine wpAny_pure ⟨plainId_quiet F.plain_extend_loop _, zip_extend (L := L) S D1 D2 (L + 1) (Nat.lt_succ_of_lt zlt) (Nat.lt_succ_of_lt tilt) (Nat.lt_succ_of_lt tolt) (Nat.lt_succ_of_lt i1m) (Nat.lt_succ_of_lt i2m) (Nat.lt_succ_self _) (Ne.symm (ne zlt)) (Ne.symm (ne tilt)) (Ne.symm (ne tolt))
    (fun q => Nat.lt_irrefl _ (f1 _ q)) (fun q => Nat.lt_irrefl _ (f2 _ q)) hn .none (min n1 n2) 0 _ _ [] rfl (Nat.zero_le _) (by show L + 1 ≤ g2.objs.size; rw [sz2]; exact Nat.le_refl _) ?_ hS4 ?_⟩
  · exact ⟨k2 _ _ (ne tilt) hTI, D1.frame _ _ _ st1 fun b hb o e => k2 b o (ne (f1 b hb)) e, D2.frame _ _ _ st2 fun b hb o e => k2 b o (ne (f2 b hb)) e, .inl ⟨k2 _ _ (ne zlt) hz, a, b, k2 _ _ (ne tolt) hTO⟩, rfl, List.Pairwise.nil, by simp, by simp⟩
  · intro h' tk Ts c q1 q2 q3 q4 q5 q6
    exact ⟨rfl, hQ h' tk Ts c q1 q2 (fun T hT => q3 T hT) q4 q5 fun b o c1 c2 c3 c4 e => q6 b o (ne (by rw [← hL]; exact Heap.lt_size e)) c1 c2 c3 c4 (k2 b o (ne (by rw [← hL]; exact Heap.lt_size e)) e)⟩
end
end VL

/-! VL19: list(zip(a, b)) in the value layer. -/
namespace VL
open PySem PySem.Spec PyProof.Rows L2
section
variable {X : Cx} {pins : List (Addr × Obj)} {σ : L2.St} {H H' : Hp} {s : Shared} {h' : Heap}
/-- many new objects are laid at once -/
theorem _root_.L2.Inv.laidMany {t' : Nat} (I : Inv X pins σ H s) (k : ∀ b u, s.heap.get? b = some u → h'.get? b = some u) (ext : ∀ b, b < s.heap.objs.size → H' b = H b)
    (new : ∀ b u, s.heap.objs.size ≤ b → H' b = some u → ObjOk X.prog X.w H' h' b u) : Inv X pins σ H' { s with heap := h', toks := t' } := by
  have lt : ∀ b u, H b = some u → b < s.heap.objs.size := fun b u e => by
    rcases Nat.lt_or_ge b s.heap.objs.size with q | q
    · exact q
    · rw [I.hok.fresh q] at e; cases e
  have up : ∀ b u, H b = some u → H' b = some u := fun b u e => by rw [ext b (lt b u e)]; exact e
  refine I.un ⟨fun b u q _ _ _ => k b u q, fun b u q _ _ _ => ⟨u.slots, k b u q⟩, fun b u q n _ => by rw [ext b (Heap.lt_size q)]; exact n, fun b u q _ => ⟨u, k b u q⟩, fun b xs q => up b _ q, fun b u xs q => up b _ q, fun b ps q => ⟨#[], by rw [up b _ q]; simp⟩⟩ fun b u e => ?_
  rcases Nat.lt_or_ge b s.heap.objs.size with q | q
  · rw [ext b q] at e
    exact (I.hok b u e).stay (fun c v _ z => k c v z) (fun c z => up c _ z) fun c xs z => up c _ z
  · exact new b u q e
end
/-- pairs laid at the addresses Ts -/
def layT (H : Hp) : List Addr → List (V × V) → Hp
  | T :: Ts, p :: ps => layT (upd H T (.tup [p.1, p.2])) Ts ps
  | _, _ => H
theorem layT_out : ∀ {Ts : List Addr} {ps : List (V × V)} {H : Hp} {b : Addr}, b ∉ Ts → layT H Ts ps b = H b
  | [], _, _, _, _ => rfl
  | _ :: _, [], _, _, _ => rfl
  | T :: Ts, p :: ps, H, b, h => by
    rw [layT, layT_out (fun z => h (List.mem_cons_of_mem _ z)), upd_ne (show b ≠ T from fun z => h (by rw [z]; exact List.mem_cons_self))]
theorem layT_at : ∀ {Ts : List Addr} {ps : List (V × V)} {H : Hp} {j : Nat} {T : Addr} {p : V × V}, Ts.Nodup → Ts[j]? = some T → ps[j]? = some p → layT H Ts ps T = some (.tup [p.1, p.2])
  | [], _, _, _, _, _, _, h, _ => by simp at h
  | _ :: _, [], _, _, _, _, _, _, h => by simp at h
  | T0 :: Ts, p0 :: ps, H, 0, T, p, nd, h1, h2 => by
    simp at h1 h2
    subst h1 h2
    rw [layT, layT_out (List.nodup_cons.mp nd).1, upd_same]
  | T0 :: Ts, p0 :: ps, H, j + 1, T, p, nd, h1, h2 => by
    rw [layT]
    exact layT_at (List.nodup_cons.mp nd).2 (by simpa using h1) (by simpa using h2)
def tZipL (K : PySem.W.Frag) (ta : TA) : TE := fun σ H Q => ta σ H fun vs H1 => ∃ a b xs ys, vs = [.ref a, .ref b] ∧ SqT K H1 a xs ∧ SqT K H1 b ys ∧ min xs.length ys.length ≤ 1000000 ∧
  ∀ (L : Addr) (Ts : List Addr), H1 L = none → (∀ T ∈ Ts, H1 T = none) → Ts.Nodup → L ∉ Ts → Ts.length = (xs.zip ys).length → Q (.ref L) (upd (layT H1 Ts (xs.zip ys)) L (.lst (Ts.map V.ref)))
section
variable {X : Cx} {L : Lv} {pos : Pos}
theorem vals_refs : ∀ Ts : List Addr, Vals (Ts.map V.ref) (Ts.map Value.ref)
  | [] => .nil
  | T :: Ts => .cons rfl (vals_refs Ts)
theorem pe_zipL {e1 e2 : Expr} {ta : TA} {p p2 p3 p4 : Pos} (hc : X.calm = true) (hgl : Gl X "list") (hml : X.mg "list" = none) (hgz : Gl X "zip") (hmz : X.mg "zip" = none) (ha : PA X [e1, e2] ta)
    (hs : starEach [e1, e2] X.env = (false, eval e1 X.env) :: starEach [e2] X.env := by rfl) (hpl : (backTo p3 (starEach [e2] X.env)).any (·.1) = false := by rfl)
    (hs1 : starEach [.Call (.Name "zip" p2) [e1, e2] [] p3] X.env = [(false, eval (.Call (.Name "zip" p2) [e1, e2] [] p3) X.env)] := by rfl) (hpl1 : (backTo p4 (starEach [] X.env)).any (·.1) = false := by rfl) :
    PE X (.Call (.Name "list" p) [.Call (.Name "zip" p2) [e1, e2] [] p3] [] p4) (tZipL X.K ta) := by
  refine ⟨fun pins s σ H Q I q => ?_⟩
  refine Call_ (ld_blt I hgl hml boot_list (callWith_type1 (args_cons ?_ hs1) hs1 hpl1))
  refine Call_ (ld_blt I hgz hmz PyProof.Rows.boot_zip (callWith_type1 (thn (ha.run p3 pins s σ H _ I q) fun us s1 ⟨vs, H1, I1, r1, q1⟩ => ?_) hs hpl))
  obtain ⟨a, b, xs, ys, rfl, hx, hy, hlen, fin⟩ := q1
  cases r1 with
  | cons r rr =>
    cases rr with
    | cons r' rr =>
      cases rr
      cases r
      cases r'
      obtain ⟨its, rv, p1, _⟩ := I1.tuple hx
      obtain ⟨its2, rv2, p2, _⟩ := I1.tuple hy
      have hh := I1.ok.hd hc
      refine zip_begins2 (begins_tuple a its.toArray) (begins_tuple b its2.toArray) p1 p2 fun h' hz hTI hTO g1 g2 hsz hk => args_nil ?_
      have la : a < s1.heap.objs.size := p1.lt
      have lb : b < s1.heap.objs.size := p2.lt
      generalize hn0 : s1.heap.objs.size = n0 at *
      have S : ZipSep2 (n0 + 4) (n0 + 2) (n0 + 3) n0 (n0 + 1) [n0, a] [n0 + 1, b] := by
        constructor <;> first | exact Nat.ne_of_gt (by omega) | exact Nat.ne_of_lt (by omega) | (simp; done) | (simp only [List.mem_cons, List.not_mem_nil, or_false, not_or]; constructor <;> first | exact Nat.ne_of_gt (by omega) | exact Nat.ne_of_lt (by omega) | exact Nat.ne_of_gt (Nat.lt_of_lt_of_le la (by omega)) | exact Nat.ne_of_gt (Nat.lt_of_lt_of_le lb (by omega)))
      have D1 := Draws.tuple (prog := X.prog) (w := X.w) (A := X.A.in1.in1.in1) hh n0 a (Nat.ne_of_lt la) its.toArray
      have D2 := Draws.tuple (prog := X.prog) (w := X.w) (A := X.A.in1.in1.in1) hh (n0 + 1) b (Nat.ne_of_lt (Nat.lt_succ_of_lt lb)) its2.toArray
      have f1 : ∀ c ∈ [n0, a], c < h'.objs.size := fun c hc => by
        rw [hsz]
        rcases List.mem_cons.mp hc with e | e
        · rw [e]; omega
        · rw [List.mem_singleton.mp e]; exact Nat.lt_of_lt_of_le la (by omega)
      have f2 : ∀ c ∈ [n0 + 1, b], c < h'.objs.size := fun c hc => by
        rw [hsz]
        rcases List.mem_cons.mp hc with e | e
        · rw [e]; omega
        · rw [List.mem_singleton.mp e]; exact Nat.lt_of_lt_of_le lb (by omega)
      have lx := rv.length
      have ly := rv2.length
      refine list_of_zip S D1 D2 f1 f2 hz hTI hTO ⟨⟨_, g1, rfl, rfl⟩, (show h'.IsTuple a its.toArray from let ⟨o, e, r⟩ := p1; ⟨o, hk _ _ e, r⟩)⟩ ⟨⟨_, g2, rfl, rfl⟩, (show h'.IsTuple b its2.toArray from let ⟨o, e, r⟩ := p2; ⟨o, hk _ _ e, r⟩)⟩ (by simpa [← lx, ← ly] using hlen) fun h2 tk Ts c q1 q2 q3 q4 q5 q6 => ?_
      have hsz' : h'.objs.size = n0 + 5 := hsz
      have hLs : ({ s1 with heap := h' } : Shared).heap.objs.size = n0 + 5 := hsz
      rw [hLs] at q3 q5 ⊢
      have nd : Ts.Nodup := q2.imp fun h => Nat.ne_of_lt h
      have fr : ∀ c, n0 ≤ c → H1 c = none := fun c h => I1.hok.fresh (by rw [hn0]; exact h)
      have LT : n0 + 5 ∉ Ts := fun h => Nat.lt_irrefl _ (q3 _ h)
      have q1' : Ts.length = (xs.zip ys).length := by rw [q1]; simp [lx, ly]
      refine ⟨.ref (n0 + 5), upd (layT H1 Ts (xs.zip ys)) (n0 + 5) (.lst (Ts.map V.ref)), ?_, rfl, fin (n0 + 5) Ts (fr _ (by omega)) (fun T hT => fr T (Nat.le_of_lt (Nat.lt_of_le_of_lt (by omega) (q3 T hT)))) nd LT q1'⟩
      refine I1.laidMany (t' := tk) (h' := h2) (fun b u e => q6 b u ?_ ?_ ?_ ?_ (hk b u e)) (fun b hb => ?_) fun b u hb e => ?_
      · exact Nat.ne_of_lt (Nat.lt_of_lt_of_le (Heap.lt_size e) (by omega))
      · exact Nat.ne_of_lt (Nat.lt_of_lt_of_le (Heap.lt_size e) (by omega))
      · exact Nat.ne_of_lt (Nat.lt_of_lt_of_le (Heap.lt_size e) (by omega))
      · exact Nat.ne_of_lt (Nat.lt_of_lt_of_le (Heap.lt_size e) (by omega))
      · rw [hn0] at hb
        rw [upd_ne (Nat.ne_of_lt (Nat.lt_of_lt_of_le hb (by omega))), layT_out fun h => absurd (q3 _ h) (Nat.not_lt.mpr (Nat.le_of_lt (Nat.lt_of_lt_of_le hb (by omega))))]
      · rw [hn0] at hb
        by_cases c1 : b = n0 + 5
        · subst c1
          rw [upd_same] at e
          cases e
          exact ⟨by rw [List.length_map, q1, sizeLine_eq]; simp [← lx, ← ly]; omega, _, c, vals_refs Ts, q5⟩
        · rw [upd_ne c1] at e
          by_cases c2 : b ∈ Ts
          · obtain ⟨j, hj⟩ := List.getElem?_of_mem c2
            obtain ⟨x, y, px, py, tp⟩ := q4 j b hj
            have hjl : j < (xs.zip ys).length := by rw [← q1']; exact (List.getElem?_eq_some_iff.mp hj).1
            obtain ⟨pp, hpp⟩ : ∃ pp, (xs.zip ys)[j]? = some pp := ⟨_, List.getElem?_eq_getElem hjl⟩
            rw [layT_at nd hj hpp] at e
            cases e
            obtain ⟨hxj, hyj⟩ := List.getElem?_zip_eq_some.mp hpp
            obtain ⟨u1, hu1, ru1⟩ := rv.get hxj
            obtain ⟨u2, hu2, ru2⟩ := rv2.get hyj
            have ex : x = u1 := by
              have : its.toArray[j]? = some x := px
              simp [hu1] at this
              exact this.symm
            have ey : y = u2 := by
              have : its2.toArray[j]? = some y := py
              simp [hu2] at this
              exact this.symm
            subst ex ey
            exact ⟨by show 2 ≤ sizeLine; decide, [x, y], .cons ru1 (.cons ru2 .nil), ⟨_, tp, rfl, _, rfl⟩⟩
          · rw [layT_out c2, fr b hb] at e
            cases e
theorem grow_layT : ∀ {Ts : List Addr} {ps : List (V × V)} {F H : Hp}, Same F H → (∀ T ∈ Ts, H T = none) → Ts.Nodup → Grow F H (layT F Ts ps) (layT H Ts ps)
  | [], _, _, _, s, _, _ => by simpa [layT] using Grow.refl s
  | _ :: _, [], _, _, s, _, _ => by simpa [layT] using Grow.refl s
  | T :: Ts, p :: ps, F, H, s, hf, nd => by
    have g := Grow.frozen (o := .tup [p.1, p.2]) s (hf T List.mem_cons_self)
    have nd' := List.nodup_cons.mp nd
    refine g.trans (grow_layT g.fh (fun T' hT' => ?_) nd'.2)
    rw [upd_ne (show T' ≠ T from fun z => nd'.1 (by rw [← z]; exact hT'))]
    exact hf T' (List.mem_cons_of_mem _ hT')
theorem rp_lay {K : PySem.W.Frag} {F : Hp} : ∀ {Ts : List Addr} {vs ws : List V} {xs ys : List D}, RpAll K F vs xs → RpAll K F ws ys → Ts.length = (vs.zip ws).length → (∀ (j : Nat) (T : Addr) (p : V × V), Ts[j]? = some T → (vs.zip ws)[j]? = some p → F T = some (.tup [p.1, p.2])) → RpAll K F (Ts.map V.ref) (zipD xs ys)
  | [], _, _, _, _, r1, r2, hl, _ => by
    cases r1 with
    | nil => simp [zipD]; exact .nil
    | cons a b =>
      cases r2 with
      | nil => simp [zipD]; exact .nil
      | cons c d => simp at hl
  | T :: Ts, _, _, _, _, r1, r2, hl, h => by
    cases r1 with
    | nil => simp at hl
    | cons a b =>
      cases r2 with
      | nil => simp at hl
      | cons c d =>
        rw [zipD, List.map_cons]
        exact .cons (.tup (h 0 T _ rfl rfl) (.cons a (.cons c .nil))) (rp_lay b d (by simpa using hl) fun j T' p h1 h2 => h (j + 1) T' p (by simpa using h1) (by simpa using h2))
def fZipL : List D → R D
  | [.tup xs, .tup ys] => if xs.length ≤ 1000000 then .ok (.lst (zipD xs ys)) else .bad
  | _ => .bad
theorem fZipL_ok {xs ys : List D} (h : xs.length ≤ 1000000) : fZipL [.tup xs, .tup ys] = .ok (.lst (zipD xs ys)) := if_pos h
theorem v_zipL {e1 e2 : Expr} {m : Rho → R (List D)} {p p2 p3 p4 : Pos} (hK : L.K = X.K) (hc : X.calm = true) (hml : X.mg "list" = none) (hmz : X.mg "zip" = none) (ha : PAV X L [e1, e2] m) (hgl : Gl X "list" := by rfl) (hgz : Gl X "zip" := by rfl)
    (hs : starEach [e1, e2] X.env = (false, eval e1 X.env) :: starEach [e2] X.env := by rfl) (hpl : (backTo p3 (starEach [e2] X.env)).any (·.1) = false := by rfl)
    (hs1 : starEach [.Call (.Name "zip" p2) [e1, e2] [] p3] X.env = [(false, eval (.Call (.Name "zip" p2) [e1, e2] [] p3) X.env)] := by rfl) (hpl1 : (backTo p4 (starEach [] X.env)).any (·.1) = false := by rfl) :
    PV X L (.Call (.Name "list" p) [.Call (.Name "zip" p2) [e1, e2] [] p3] [] p4) (mCall fZipL m) := (pe_zipL (p := p) (p2 := p2) (p3 := p3) (p4 := p4) hc hgl hml hgz hmz ha hs hpl hs1 hpl1).imp fun σ H Q ⟨F, ρ, rr, q⟩ => by
  refine TL.go rr q fun ds vs F1 H1 g1 r1 q1 => ?_
  unfold fZipL at q1
  split at q1
  · rename_i xs ys
    split at q1
    · rename_i hl
      cases r1 with
      | cons ra rb =>
        cases rb with
        | cons rb rc =>
          cases rc
          cases ra with
          | tup fa ra =>
            cases rb with
            | tup fb rb =>
              rename_i a vs b ws
              refine ⟨a, b, vs, ws, rfl, hK ▸ .inl (.inl (g1.fh _ _ fa)), hK ▸ .inl (.inl (g1.fh _ _ fb)), ?_, fun l Ts hl1 hl2 nd nl hlen => ?_⟩
              · rw [ra.length]
                omega
              · have g2 := grow_layT (ps := vs.zip ws) g1.fh hl2 nd
                have hl3 : layT H1 Ts (vs.zip ws) l = none := by rw [layT_out nl]; exact hl1
                have g3 := Grow.frozen (o := .lst (Ts.map V.ref)) g2.fh hl3
                have sm : Same F1 (upd (layT F1 Ts (vs.zip ws)) l (.lst (Ts.map V.ref))) := g2.ff.trans g3.ff
                refine q1 _ _ _ ((g1.trans g2).trans g3) (.lst upd_same (rp_lay (ra.mono sm) (rb.mono sm) hlen fun j T pp h1 h2 => ?_))
                rw [upd_ne (show T ≠ l from fun z => nl (by rw [← z]; exact List.mem_of_getElem? h1))]
                exact layT_at nd h1 h2
    · exact q1.elim
  · exact q1.elim
end
end VL

/-! VL20: methods of builtins by values (list.count); zip of a tuple and a list. -/
namespace VL
open PySem PySem.Spec PyProof.Rows L2
section
variable {X : Cx} {L : Lv} {pos : Pos}
/-- f is what the method does, on data -/
def MeB (L : Lv) (r : V → List V → Hp → VK → Prop) (f : D → List D → R D) : Prop := ∀ (F H : Hp) (v : V) (vs : List V) (d : D) (ds : List D) (z : D) (Q : VK), Same F H → Rb L.K F H v d → RbAll L.K F H vs ds → f d ds = .ok z → (∀ u F' H', Grow F H F' H' → Rp L.K F' u z → Q u H') → r v vs H Q
def noExM (f : D → List D → R D) : Prop := ∀ d ds c, f d ds ≠ .ex c
def mMeth (T : String) (f : D → List D → R D) (mo : Rho → R D) (m : Rho → R (List D)) : Rho → R D := fun ρ => (mo ρ).bind fun d => if tyName d = T then (m ρ).bind fun ds => f d ds else .bad
theorem tyV_lst {F H : Hp} {v : V} {xs : List D} (s : Same F H) (r : Rb L.K F H v (.lst xs)) : tyV L.K "list" v H := by
  obtain ⟨p, vs, rfl, hp, _⟩ := r.lst s
  exact .inl ⟨rfl, vs, .inl (.inl hp)⟩
theorem tyV_scr {F H : Hp} {v : V} {xs : List Int} (s : Same F H) (r : Rb L.K F H v (.scr xs)) : tyV L.K "list" v H := by
  obtain ⟨p, rfl, hp⟩ := r.scr s
  exact .inl ⟨rfl, _, hp⟩
theorem tyV_str {F H : Hp} {v : V} {x : Str} (r : Rb L.K F H v (.str x)) : tyV L.K "str" v H := by
  cases r.str
  rfl
variable {o e : Expr} {es : List Expr} {mo : Rho → R D} {m : Rho → R (List D)} {name : Str} {apos cpos : Pos} {T id : String} {r : V → List V → Hp → VK → Prop} {f : D → List D → R D}
theorem v_bm (hK : L.K = X.K) (pa : PlainAttrs T) (slot : PySem.Slot T name id) (hty : typeOf (.builtin id) = pure (.type "method_descriptor")) (hm : MtR X id r) (hf : MeB L r f) (hx : noExM f) (ht : ∀ F H v d, Same F H → Rb L.K F H v d → tyName d = T → tyV L.K T v H) (ho : PB X L o mo) (ha : PAB X L (e :: es) m)
    (hbase : attributeBase o name X.env (eval o X.env) = eval o X.env := by rfl)
    (hfew : ((backTo cpos (starEach (e :: es) X.env)).all (fun x => !x.1) && (backToKw cpos (keywordEach [] X.env)).all (fun x => x.1.isSome)
      && decide ((e :: es).length + ([] : List Keyword).length + (if ([] : List Keyword).isEmpty then 0 else 1) < 30)) = true := by rfl)
    (hline : (apos.endLine == cpos.line) = true := by rfl) (hs : starEach (e :: es) X.env = (false, eval e X.env) :: starEach es X.env := by rfl) (hplain : (backTo cpos (starEach es X.env)).any (·.1) = false := by rfl) :
    PV X L (.Call (.Attribute o name apos) (e :: es) [] cpos) (mMeth T f mo m) := (pe_bm pa slot hty hm ho ha hbase hfew hline hs hplain).imp fun σ H Q ⟨F, ρ, rr, q⟩ => by
  refine TM.go rr q fun d v F1 H1 g1 r1 q1 => ?_
  by_cases c : tyName d = T
  · rw [if_pos c] at q1
    refine ⟨hK ▸ ht F1 H1 v d g1.fh r1 c, ?_⟩
    refine TL.go (rr.grow g1) q1 fun ds vs F2 H2 g2 r2 q2 => ?_
    cases ef : f d ds with
    | bad => rw [ef] at q2; exact q2.elim
    | ex c => exact (hx d ds c ef).elim
    | ok z =>
      rw [ef] at q2
      exact hf F2 H2 v vs d ds z Q g2.fh (r1.grow g2) r2 ef fun u F' H' g => q2 u F' H' ((g1.trans g2).trans g)
  · rw [if_neg c] at q1; exact q1.elim
/-! ### list.count, of ints -/
def fCount : D → List D → R D
  | .lst xs, [.int k] => intsOk (fun ns => .ok (.int ((ns.count k : Nat) : Int))) xs
  | _, _ => .bad
theorem noEx_fCount : noExM fCount := fun d ds c h => by
  unfold fCount at h
  split at h
  · exact intsOk_ex (fun ns z => by cases z) h
  · cases h
theorem me_count : MeB L (rCntI L.K) fCount := by
  intro F H v vs d ds z Q s r1 r2 hz q
  unfold fCount at hz
  split at hz
  · obtain ⟨ns, rfl, hz'⟩ := intsOk_ok hz
    cases hz'
    obtain ⟨p, ws, rfl, hp, ra⟩ := r1.lst s
    obtain ⟨w, rfl, rw⟩ := r2.one
    cases rw.int
    rw [ra.ints] at hp
    exact ⟨p, ns, _, rfl, rfl, .inl (.inl hp), q _ F H (Grow.refl s) (.int _)⟩
  · cases hz
theorem v_count (hK : L.K = X.K) (ho : PB X L o mo) (ha : PAB X L (e :: es) m)
    (hbase : attributeBase o "count" X.env (eval o X.env) = eval o X.env := by rfl)
    (hfew : ((backTo cpos (starEach (e :: es) X.env)).all (fun x => !x.1) && (backToKw cpos (keywordEach [] X.env)).all (fun x => x.1.isSome)
      && decide ((e :: es).length + ([] : List Keyword).length + (if ([] : List Keyword).isEmpty then 0 else 1) < 30)) = true := by rfl)
    (hline : (apos.endLine == cpos.line) = true := by rfl) (hs : starEach (e :: es) X.env = (false, eval e X.env) :: starEach es X.env := by rfl) (hplain : (backTo cpos (starEach es X.env)).any (·.1) = false := by rfl) :
    PV X L (.Call (.Attribute o "count" apos) (e :: es) [] cpos) (mMeth "list" fCount mo m) :=
  v_bm hK F.plainAttrs_list PySem.F.slot_list_count (by show builtinType _ = _; rw [builtinType_eq_fast]; kernel_rfl) mt_lcount (hK ▸ me_count) noEx_fCount (fun F H v d s rb ht => by
    cases d <;> simp only [tyName] at ht <;> first | exact tyV_lst s rb | exact tyV_scr s rb | (exfalso; revert ht; decide)) ho ha hbase hfew hline hs hplain
end
end VL
namespace VL
open PySem PySem.Spec PyProof.Rows L2
/-! ### zip of a tuple and a list -/
def ItzM (K : PySem.W.Frag) (a b : Addr) : It :=
  ⟨fun i H => ∃ (xs ys : List V) (x y : V), SqT K H a xs ∧ SqL K H b ys ∧ xs[i]? = some x ∧ ys[i]? = some y,
    fun i H v H' => ∃ T x y, v = .ref T ∧ H T = none ∧ H' = upd H T (.tup [x, y]) ∧ (∀ xs, SqT K H a xs → xs[i]? = some x) ∧ ∀ ys, SqL K H b ys → ys[i]? = some y,
    fun i H => ∃ xs ys : List V, SqT K H a xs ∧ SqL K H b ys ∧ (xs.length = i ∧ i ≤ ys.length ∨ ys.length = i ∧ i ≤ xs.length)⟩
theorem sep_of {z TI TO i1 i2 a b : Addr} (D : ZipApart z TI TO i1 i2 a b) : ZipSep2 z TI TO i1 i2 [i1, a] [i2, b] where
  TIz := D.TIz
  TOz := D.TOz
  TITO := D.TITO
  TIi1 := D.TIi1
  mem1 := by simp
  zf1 := by simp only [List.mem_cons, List.not_mem_nil, or_false, not_or]; exact ⟨D.i1z.symm, D.l1z.symm⟩
  Tf1 := by simp only [List.mem_cons, List.not_mem_nil, or_false, not_or]; exact ⟨D.TOi1, D.l1TO.symm⟩
  TIi2 := D.TIi2
  mem2 := by simp
  zf2 := by simp only [List.mem_cons, List.not_mem_nil, or_false, not_or]; exact ⟨D.i2z.symm, D.l2z.symm⟩
  Tf2 := by simp only [List.mem_cons, List.not_mem_nil, or_false, not_or]; exact ⟨D.TOi2, D.l2TO.symm⟩
  sep1_2 := by simp only [List.mem_cons, List.not_mem_nil, or_false, not_or]; exact ⟨D.i12, D.l2i1.symm⟩
  sep2_1 := by simp only [List.mem_cons, List.not_mem_nil, or_false, not_or]; exact ⟨D.i12.symm, D.l1i2.symm⟩
theorem turn_zipM {P : Program} {w : World} {K : PySem.W.Frag} {elts : List Expr} {kk : Nat} {tpos : Pos} {a b z TI TO i1 i2 : Addr} (D : ZipApart z TI TO i1 i2 a b) :
    Turn P w K (.Tuple elts kk tpos) (ItzM K a b) [z, TI, TO, i1, i2] z (fun i h => IsZip h z TI TO .none ∧ IsTupOf2 h TI (.ref i1) (.ref i2) ∧ (∃ x y, IsTupOf2 h TO x y) ∧ h.IsTupleIter i1 a i ∧ h.IsListIter i2 b i) where
  mem := by simp
  obj := fun i h ⟨hz, hTI, ⟨x, y, hTO⟩, ⟨o1, e1, _, d1⟩, ⟨o2, e2, _, d2⟩⟩ c hc => by
    simp only [List.mem_cons, List.not_mem_nil, or_false] at hc
    rcases hc with rfl | rfl | rfl | rfl | rfl
    · exact ⟨_, hz, fun v q => nomatch q⟩
    · exact ⟨_, hTI, fun v q => nomatch q⟩
    · exact ⟨_, hTO, fun v q => nomatch q⟩
    · exact ⟨o1, e1, fun v q => by rw [d1] at q; cases q⟩
    · exact ⟨o2, e2, fun v q => by rw [d2] at q; cases q⟩
  keep := fun i h h' ⟨hz, hTI, ⟨x, y, hTO⟩, h1, h2⟩ k => ⟨k z (by simp) _ hz, k TI (by simp) _ hTI, ⟨x, y, k TO (by simp) _ hTO⟩, h1.at fun o q => k i1 (by simp) o q, h2.at fun o q => k i2 (by simp) o q⟩
  item := by
    intro X hP hw hK hc i pins s σ H E I hf ⟨hz, hTI, ⟨x0, y0, hTO⟩, h1, h2⟩ ⟨xs, ys, x, y, hqx, hqy, hx, hy⟩
    subst hP hw hK
    obtain ⟨its, rv, p, _⟩ := I.tuple hqx
    obtain ⟨its2, rv2, p2, _⟩ := I.list hqy
    obtain ⟨u, hu, ru⟩ := rv.get hx
    obtain ⟨u2, hu2, ru2⟩ := rv2.get hy
    have hh := I.ok.hd hc
    have hzl : z < s.heap.objs.size := Heap.lt_size hz
    have l1 : i < its.toArray.size := by simpa using (List.getElem?_eq_some_iff.mp hu).1
    have l2 : i < its2.toArray.size := by simpa using (List.getElem?_eq_some_iff.mp hu2).1
    refine wpAny_pyNext_zipD2_item (sep_of D) (Draws.tuple (A := X.A.in1) hh i1 a D.l1i1 its.toArray) (Draws.list (A := X.A.in1) hh i2 b D.l2i2 its2.toArray) hz hTI hTO ⟨h1, p⟩ ⟨h2, p2.isList⟩ l1 l2 fun x1 x2 h' tk q1 q2 z' TO' h1' h2' hT hsz hk => ?_
    have e1 : x1 = u := by simp [hu] at q1; exact q1.symm
    have e2 : x2 = u2 := by simp [hu2] at q2; exact q2.symm
    subst e1 e2
    refine ⟨_, rfl, wpAny_letOwnedTupleGo_zip (s := { s with heap := h', toks := tk }) z' fun h'' z'' sb => ?_⟩
    have hT2 : h''.get? s.heap.objs.size = some { cls := .type "tuple", data := .seq #[x1, x2] } := (sb.2 _ (Nat.ne_of_gt hzl)).trans hT
    have new : ObjOk X.prog X.w (upd H s.heap.objs.size (.tup [x, y])) h'' s.heap.objs.size (.tup [x, y]) := ⟨by show 2 ≤ sizeLine; decide, [x1, x2], .cons ru (.cons ru2 .nil), ⟨_, hT2, rfl, _, rfl⟩⟩
    have I1 : Inv X pins σ (upd H s.heap.objs.size (.tup [x, y])) { s with heap := h'', toks := tk } := I.turnedNew (t' := tk) (ch := [z, TI, TO, i1, i2]) (fun c o hb q => by
      simp only [List.mem_cons, List.not_mem_nil, or_false, not_or] at hb
      exact (sb.2 c hb.1).trans (hk c o hb.1 hb.2.2.1 hb.2.2.2.1 hb.2.2.2.2 q)) hf (Nat.le_refl _) new
    refine ⟨.ref s.heap.objs.size, _, I1, rfl, ⟨_, x, y, rfl, I.hok.fresh (Nat.le_refl _), rfl, fun l hl => by rw [I.tuple_inj hl hqx]; exact hx, fun l hl => by rw [I.list_inj hl hqy]; exact hy⟩, ⟨z'', ?_, ⟨x1, x2, ?_⟩, ?_, ?_⟩, fun c hcm => ?_⟩
    · exact (sb.2 _ D.TIz).trans (hk _ _ D.TIz D.TITO D.TIi1 D.TIi2 hTI)
    · exact (sb.2 _ D.TOz).trans TO'
    · exact h1'.1.at fun o q => (sb.2 _ D.i1z).trans q
    · exact h2'.1.at fun o q => (sb.2 _ D.i2z).trans q
    · have hlt : c < s.heap.objs.size := by
        simp only [List.mem_cons, List.not_mem_nil, or_false] at hcm
        rcases hcm with rfl | rfl | rfl | rfl | rfl
        · exact hzl
        · exact Heap.lt_size hTI
        · exact Heap.lt_size hTO
        · obtain ⟨_, e1, _⟩ := h1; exact Heap.lt_size e1
        · obtain ⟨_, e2, _⟩ := h2; exact Heap.lt_size e2
      rw [upd_ne (Nat.ne_of_lt hlt)]
      exact (hf c hcm).1
  done := by
    intro X hP hw hK hc i pins s σ H E I hf ⟨hz, hTI, ⟨x0, y0, hTO⟩, h1, h2⟩ ⟨xs, ys, hqx, hqy, hend⟩
    subst hP hw hK
    obtain ⟨its, rv, p, _⟩ := I.tuple hqx
    obtain ⟨its2, rv2, p2, _⟩ := I.list hqy
    have k1 := rv.length
    have k2 := rv2.length
    have hh := I.ok.hd hc
    refine wpAny_pyNext_zipD2_end (sep_of D) (Draws.tuple (A := X.A.in1) hh i1 a D.l1i1 its.toArray) (Draws.list (A := X.A.in1) hh i2 b D.l2i2 its2.toArray) hz hTI hTO ⟨h1, p⟩ ⟨h2, p2.isList⟩ (by simp; omega) (by simp; omega) (by simp; omega) fun h' tk hk => ⟨rfl, I.turnedL (t' := tk) (ch := [z, TI, TO, i1, i2]) (fun c o hb q => ?_) hf⟩
    simp only [List.mem_cons, List.not_mem_nil, or_false, not_or] at hb
    exact hk c o hb.1 hb.2.2.1 hb.2.2.2.1 hb.2.2.2.2 q
  self := fun A i s Q E st h => wpAny_pyIter_zip st.1 h
end VL
namespace VL
open PySem PySem.Spec PyProof.Rows L2
def iZipM (K : PySem.W.Frag) (ta : TA) : TI := fun σ H R => ta σ H fun vs H1 => ∃ a b xs ys, vs = [.ref a, .ref b] ∧ SqT K H1 a xs ∧ SqL K H1 b ys ∧ R (ItzM K a b) H1
section
variable {X : Cx} {L : Lv} {pos : Pos}
theorem pi_zipM {e e2 : Expr} {ta : TA} {p tpos : Pos} {elts : List Expr} {kk : Nat} (hg : Gl X "zip") (hm : X.mg "zip" = none) (ha : PA X [e, e2] ta)
    (hs : starEach [e, e2] X.env = (false, eval e X.env) :: starEach [e2] X.env := by rfl) (hpl : (backTo pos (starEach [e2] X.env)).any (·.1) = false := by rfl) :
    PI X (.Tuple elts kk tpos) (.Call (.Name "zip" p) [e, e2] [] pos) (iZipM X.K ta) := by
  refine ⟨fun pins s σ H R I h => ?_⟩
  refine Call_ (ld_blt I hg hm PyProof.Rows.boot_zip (callWith_type1 (thn (ha.run pos pins s σ H _ I h) fun us s1 ⟨vs, H1, I1, r1, q1⟩ => ?_) hs hpl))
  obtain ⟨a, b, xs, ys, rfl, hqx, hqy, q⟩ := q1
  cases r1 with
  | cons r rr =>
    cases rr with
    | cons r' rr =>
      cases rr
      cases r
      cases r'
      obtain ⟨its, rv, p1, _⟩ := I1.tuple hqx
      obtain ⟨its2, rv2, p2, _⟩ := I1.list hqy
      refine zip_begins2 (begins_tuple a its.toArray) (begins_list b its2.toArray) p1 p2.isList fun h' hz hTI hTO h1 h2 hsz hk => wpAny_pyIter_zip hz ?_
      have I2 : Inv X pins σ H1 { s1 with heap := h' } := I1.kept (t' := s1.toks) hk
      refine ⟨s1.heap.objs.size + 4, [s1.heap.objs.size + 4, s1.heap.objs.size + 2, s1.heap.objs.size + 3, s1.heap.objs.size, s1.heap.objs.size + 1], _, _, H1, rfl, I2, turn_zipM (PySem.W.ktu_apart s1.heap.objs.size a b p1.lt p2.lt), ⟨hz, hTI, ⟨_, _, hTO⟩, ⟨_, h1, rfl, rfl⟩, ⟨_, h2, rfl, rfl⟩⟩, fun c hcm => ?_, q⟩
      have hle : s1.heap.objs.size ≤ c := by
        simp only [List.mem_cons, List.not_mem_nil, or_false] at hcm
        rcases hcm with rfl | rfl | rfl | rfl | rfl <;> omega
      exact I1.fpOk hle (I1.hok.fresh hle)
theorem walk_zipM {K : PySem.W.Frag} {a b : Addr} {xs ys : List V} : Walk (ItzM K a b) (min xs.length ys.length) (fun H => SqT K H a xs ∧ SqL K H b ys) (YPair (fun i => xs[i]?) (fun i => ys[i]?)) := by
  refine ⟨fun i _ hi q => ?_, fun _ q => ⟨xs, ys, q.1, q.2, by omega⟩, fun i H v H' _ q y => ?_⟩
  · have h1 : i < xs.length := by omega
    have h2 : i < ys.length := by omega
    exact ⟨xs, ys, xs[i], ys[i], q.1, q.2, by simp [h1], by simp [h2]⟩
  · obtain ⟨T, x, z, h1, h2, h3, h4, h5⟩ := y
    exact ⟨T, x, z, h1, h2, h3, h4 xs q.1, h5 ys q.2⟩
def fZipM : List D → R (List D)
  | [.tup xs, .lst ys] => .ok (zipD xs ys)
  | _ => .bad
theorem i_zipM {a b : Expr} {m : Rho → R (List D)} {p : Pos} {elts : List Expr} {kk : Nat} {tpos : Pos} (hK : L.K = X.K) (hm : X.mg "zip" = none) (ha : PAV X L [a, b] m) (hg : Gl X "zip" := by rfl)
    (hs : starEach [a, b] X.env = (false, eval a X.env) :: starEach [b] X.env := by rfl) (hpl : (backTo pos (starEach [b] X.env)).any (·.1) = false := by rfl) : PIm X L (.Tuple elts kk tpos) (.Call (.Name "zip" p) [a, b] [] pos) (mIter fZipM m) :=
  (pi_zipM hg hm ha hs hpl).imp fun σ H R ⟨F, ρ, r, q⟩ => TL.go r q fun ds vs F1 H1 g1 r1 q1 => by
    unfold fZipM at q1
    split at q1
    · cases r1 with
      | cons h t =>
        cases t with
        | cons h2 t2 =>
          cases t2
          cases h with
          | tup hp ra =>
            cases h2 with
            | lst hp2 rb =>
              exact ⟨_, _, _, _, rfl, .inl (.inl (g1.fh _ _ hp)), .inl (.inl (g1.fh _ _ hp2)), q1 _ F1 H1 g1 (wk_zip (walk_zipM (K := X.K)) (fun H s => ⟨.inl (.inl (s _ _ hp)), .inl (.inl (s _ _ hp2))⟩) ra rb)⟩
    · exact q1.elim
end
end VL

/-! VL21: sorted(set(list of ints)); list(range(..)). -/
namespace VL
open PySem PySem.Spec PyProof.Rows L2
/-- a set as it is made -/
abbrev nset (w : World) : Obj := { cls := .type "set", dict := none, data := .set #[] 0 (.fresh 0 0 (!w.params.followText "set-order")) }
section
variable {P : Program} {w : World} {A : Around} {E : Value → Shared → Prop} {s : Shared}
/-- what set(l) leaves -/
def SetLeft (w : World) (s : Shared) (ns : List Int) (s' : Shared) : Prop := ∃ h' tk c, s' = { s with heap := h', toks := tk } ∧ SetR w h' s.heap.objs.size (fun j => decide (j ∈ ns)) c ∧ c ≤ ns.length ∧ ∀ b o, s.heap.get? b = some o → h'.get? b = some o
theorem set_of_list {l : Addr} {items : Array Value} (ns : List Int) {Q : Value → Shared → Prop} (hh : A.handled = none) (hl : s.heap.IsList l items) (hit : IntsAre items.toList ns) (hb : ns.length + 1 < scanBound)
    (h : ∀ s', SetLeft w s ns s' → Q (.ref s.heap.objs.size) s') : wpAny (model P w) A (call (.type "set") [.ref l]) Q E s := by
  have isz : items.size = ns.length := by have q := IntsAre.length hit; rwa [Array.length_toList] at q
  obtain ⟨c, tl, mro_⟩ := F.called_set.mro
  have made_ := F.called_set.made
  have sub_ := F.called_set.sub
  refine wpAny_call (codeAny_of_tree ?_)
  show wpAny _ _ (callAny (.type "set") _) _ _ _
  refine wpAny_pure ⟨Code.quiet_builtin _ (by decide +kernel), codeAny_builtin F.entry_type_call ?_⟩
  rw [Around.under_plain (weight_type_call_type "set" [.ref l] []) rfl]
  have a1 := F.called_set.notType
  have a2 := F.called_set.canCreate
  have a3 := F.typeCall_set_1 (.ref l)
  repeat (any_goals (first | assumption | wp_step))
  refine codeAny_mono (code_set_led1 (.ref l) (E := E) (Q₁ := fun obj s₁ => obj = .ref s.heap.objs.size ∧ s₁ = { s with heap := s.heap.push (nset w) }) ⟨rfl, rfl⟩) fun r s₁ hr => ?_
  cases r with
  | error e => exact hr
  | ok fl =>
    cases fl with
    | ret obj =>
      obtain ⟨rfl, rfl⟩ := hr
      have hS : (s.heap.push (nset w)).get? s.heap.objs.size = some (nset w) := Heap.get?_push_size _ rfl
      have hT : Shared.TypeIs { s with heap := s.heap.push (nset w) } (.ref s.heap.objs.size) "set" := ⟨_, hS, rfl⟩
      have b1 := F.called_set.init.lookup
      have b2 := F.called_set.init.bind (.ref s.heap.objs.size)
      repeat (any_goals (first | assumption | wp_step))
      refine codeAny_mono (codeAny_call_builtin (R := wants (fun r s₂ => r = .none ∧ SetLeft w s ns s₂) E) F.called_set.init.plain F.entry_set_init (check_set_init_1 hT ?_)) fun r₂ s₂ hr₂ => ?_
      · obtain ⟨ol, hol, hcl, nl, hdl⟩ := hl
        obtain ⟨ocls, odict, odata, oslots⟩ := ol
        simp only at hcl hdl
        subst hcl hdl
        have hol' : (s.heap.push (nset w)).get? l = some { cls := .type "list", dict := odict, data := .seq items nl, slots := oslots } := Heap.get?_push_of_some _ hol
        have c1 := PySem.F.sub_list_set
        have c2 := PySem.F.sub_list_frozenset
        have c3 : (Value.type "list" == Value.type "dict") = false := by decide
        have hl1 : (s.heap.push (nset w)).IsList l items := ⟨_, hol', rfl, nl, rfl⟩
        unfold Builtin.«set.__init__» noKeywords Builtin.Frozenset.updateFrom
        generalize hPI : pyIter = PI
        wp_walk
        subst hPI
        refine wpAny_pyIter_list hl1 (wpAny_bind (wpAny_runValue ?_))
        have hlS : l < s.heap.objs.size := Heap.lt_size hol
        have sz1 : (s.heap.push (nset w)).objs.size = s.heap.objs.size + 1 := Heap.size_push ..
        have neI : l ≠ (s.heap.push (nset w)).objs.size := by rw [sz1]; exact Nat.ne_of_lt (Nat.lt_succ_of_lt hlS)
        have nf : s.heap.objs.size ∉ [(s.heap.push (nset w)).objs.size, l] := by
          rw [sz1]
          simp only [List.mem_cons, List.not_mem_nil, or_false, not_or]
          exact ⟨Nat.ne_of_lt (Nat.lt_succ_self _), Nat.ne_of_gt hlS⟩
        have hval : ∀ (i : Nat) (v : Value), items[i]? = some v → ∃ k t, ns[i]? = some k ∧ v = .int k t := fun i v hv => by
          have hi : i < ns.length := by rw [← isz]; exact (Array.getElem?_eq_some_iff.mp hv).1
          obtain ⟨t, e⟩ := PyProof.Rows.IntsAre.int_at hit i v (by rw [Array.getElem?_toList]; exact hv)
          exact ⟨ns[i], t, List.getElem?_eq_getElem hi, by rw [e, List.getD_eq_getElem?_getD, List.getElem?_eq_getElem hi] <;> rfl⟩
        refine set_update_ints ((Walks.list (show A.in1.in1.in1.handled = none by simp [hh]) _ l neI items).toS) s.heap.objs.size nf ns isz hb hval items.size 0 _ rfl (Nat.zero_le _) ⟨⟨_, Heap.get?_push_size _ rfl, rfl, rfl⟩, hl1.push _⟩ ⟨0, Nat.le_refl 0, setR_new_at (Heap.get?_push_of_some _ hS)⟩ fun s' c' hm hc' hS' => ?_
        rw [Moved.eq_with hm]
        refine wpAny_pure (wpAny_pure ⟨rfl, s'.heap, s'.toks, c', rfl, hS', by rw [isz] at hc'; exact hc', fun b o e => hm.heap b o ?_ (Heap.get?_push_of_some _ (Heap.get?_push_of_some _ e))⟩)
        have b0 : b < s.heap.objs.size := Heap.lt_size e
        simp only [List.mem_cons, List.not_mem_nil, or_false, not_or]
        exact ⟨Nat.ne_of_lt b0, by rw [sz1]; exact Nat.ne_of_lt (Nat.lt_succ_of_lt b0)⟩
      · cases r₂ with
        | error e => exact hr₂
        | ok fl₂ =>
          cases fl₂ with
          | ret r =>
            obtain ⟨rfl, hs2⟩ := hr₂
            repeat (any_goals (first | assumption | wp_step))
            exact h _ hs2
          | _ => exact hr₂.elim
    | _ => exact hr.elim
end
end VL

/-! VL22: sorted(set(list of ints)) in the value layer. -/
namespace VL
open PySem PySem.Spec PyProof.Rows L2
/-- the members in order, each once -/
def insU (x : Int) : List Int → List Int
  | [] => [x]
  | y :: l => if x < y then x :: y :: l else if x = y then y :: l else y :: insU x l
def sortU (ns : List Int) : List Int := ns.foldr insU []
theorem mem_insU {x z : Int} : ∀ {l : List Int}, z ∈ insU x l ↔ z = x ∨ z ∈ l
  | [] => by simp [insU]
  | y :: l => by
    unfold insU
    by_cases c : x < y
    · rw [if_pos c]; simp
    · rw [if_neg c]
      by_cases c2 : x = y
      · rw [if_pos c2]; subst c2; simp
      · rw [if_neg c2, List.mem_cons, mem_insU, List.mem_cons]
        constructor
        · rintro (h | h | h)
          · exact .inr (.inl h)
          · exact .inl h
          · exact .inr (.inr h)
        · rintro (h | h | h)
          · exact .inr (.inl h)
          · exact .inl h
          · exact .inr (.inr h)
theorem pw_insU {x : Int} : ∀ {l : List Int}, l.Pairwise (· < ·) → (insU x l).Pairwise (· < ·)
  | [], _ => by simp [insU]
  | y :: l, h => by
    obtain ⟨h1, h2⟩ := List.pairwise_cons.mp h
    unfold insU
    by_cases c : x < y
    · rw [if_pos c]
      refine List.pairwise_cons.mpr ⟨fun z hz => ?_, h⟩
      rcases List.mem_cons.mp hz with rfl | hz
      · exact c
      · have := h1 z hz; omega
    · rw [if_neg c]
      by_cases c2 : x = y
      · rw [if_pos c2]; exact h
      · rw [if_neg c2]
        refine List.pairwise_cons.mpr ⟨fun z hz => ?_, pw_insU h2⟩
        rcases mem_insU.mp hz with rfl | hz
        · omega
        · exact h1 z hz
theorem mem_sortU {z : Int} : ∀ {ns : List Int}, z ∈ sortU ns ↔ z ∈ ns
  | [] => by simp [sortU]
  | x :: ns => by
    show z ∈ insU x (sortU ns) ↔ _
    rw [mem_insU, mem_sortU, List.mem_cons]
theorem pw_sortU : ∀ ns : List Int, (sortU ns).Pairwise (· < ·)
  | [] => List.Pairwise.nil
  | x :: ns => pw_insU (pw_sortU ns)
theorem eq_lt : ∀ {a b : List Int}, a.Pairwise (· < ·) → b.Pairwise (· < ·) → (∀ x, x ∈ a ↔ x ∈ b) → a = b
  | [], [], _, _, _ => rfl
  | [], y :: _, _, _, h => by have := (h y).mpr List.mem_cons_self; cases this
  | x :: _, [], _, _, h => by have := (h x).mp List.mem_cons_self; cases this
  | x :: a, y :: b, ha, hb, h => by
    obtain ⟨ha1, ha2⟩ := List.pairwise_cons.mp ha
    obtain ⟨hb1, hb2⟩ := List.pairwise_cons.mp hb
    have e : x = y := by
      rcases List.mem_cons.mp ((h x).mp List.mem_cons_self) with e | e
      · exact e
      · rcases List.mem_cons.mp ((h y).mpr List.mem_cons_self) with e' | e'
        · exact e'.symm
        · have := hb1 x e; have := ha1 y e'; omega
    subst e
    rw [eq_lt ha2 hb2 fun z => by
      constructor
      · intro hz
        rcases List.mem_cons.mp ((h z).mp (List.mem_cons_of_mem _ hz)) with e | e
        · subst e; have := ha1 z hz; omega
        · exact e
      · intro hz
        rcases List.mem_cons.mp ((h z).mpr (List.mem_cons_of_mem _ hz)) with e | e
        · subst e; have := hb1 z hz; omega
        · exact e]
def tSortSet (K : PySem.W.Frag) (te : TE) : TE := fun σ H Q => te σ H fun x H1 => ∃ (l : Addr) (ns : List Int), x = .ref l ∧ SqL K H1 l (ns.map V.int) ∧ ns.length ≤ 1000 ∧ (sortU ns).length < 64 ∧ ∀ p, H1 p = none → Q (.ref p) (upd H1 p (.lst ((sortU ns).map V.int)))
section
variable {X : Cx} {L : Lv} {pos : Pos}
theorem vals_ints : ∀ {us : List Value} {ns : List Int}, IntsAre us ns → Vals (ns.map V.int) us
  | _, _, .nil => .nil
  | _, _, .cons n t h => .cons ⟨t, rfl⟩ (vals_ints h)
theorem pe_sortSet {e : Expr} {te : TE} {p p2 p3 p4 : Pos} (hc : X.calm = true) (hgs : Gl X "sorted") (hms : X.mg "sorted" = none) (hgz : Gl X "set") (hmz : X.mg "set" = none) (ha : PE X e te)
    (hs : starEach [e] X.env = [(false, eval e X.env)] := by rfl) (hpl : (backTo p3 (starEach [] X.env)).any (·.1) = false := by rfl)
    (hs1 : starEach [.Call (.Name "set" p2) [e] [] p3] X.env = [(false, eval (.Call (.Name "set" p2) [e] [] p3) X.env)] := by rfl) (hpl1 : (backTo p4 (starEach [] X.env)).any (·.1) = false := by rfl) :
    PE X (.Call (.Name "sorted" p) [.Call (.Name "set" p2) [e] [] p3] [] p4) (tSortSet X.K te) := by
  refine ⟨fun pins s σ H Q I q => ?_⟩
  refine Call_ (ld_blt I hgs hms boot_sorted (callWith_builtin1 (args_cons ?_ hs1) hs1 hpl1))
  refine Call_ (ld_blt I hgz hmz boot_set (callWith_type1 (args_cons (thn (ha.run pins s σ H _ I q) fun u s1 ⟨x, H1, I1, r1, q1⟩ => args_nil ?_) hs) hs hpl))
  obtain ⟨l, ns, rfl, hx, hlen, h64, fin⟩ := q1
  cases r1
  obtain ⟨its, rv, pl, _⟩ := I1.list hx
  have hh := I1.ok.hd hc
  have hi := ints_of_vals rv
  refine set_of_list ns hh pl.isList (by simpa using hi) (by show ns.length + 1 < 4096; omega) ?_
  rintro s2 ⟨h', tk, c, rfl, hR, hcl, hk⟩
  refine args_nil ?_
  have hc64 : c < 64 := by
    obtain ⟨o, es, ep, t, ho, hex, hd, g, nd, hm, hb, hf, hn, hr, hle⟩ := id hR
    have pm : (es.toList.map keyOf).Perm (sortU ns) := (List.perm_ext_iff_of_nodup nd ((pw_sortU ns).imp fun h => Int.ne_of_lt h)).mpr fun z => by rw [← hm z, mem_sortU, decide_eq_true_eq]
    have := pm.length_eq
    rw [List.length_map, Array.length_toList, hn] at this
    omega
  refine sorted_set hR hh hc64 fun s' p out cc ns' k1 g1 o1 hp ho hI hpw hmem hl => ?_
  have e : ns' = sortU ns := eq_lt hpw (pw_sortU ns) fun z => by rw [hmem z, decide_eq_true_eq, mem_sortU]
  subst e
  have hs1le : s1.heap.objs.size ≤ p := Nat.le_trans (Nat.le_of_lt (hR.lt)) hp
  have kk : ∀ b o, s1.heap.get? b = some o → s'.heap.get? b = some o := fun b o e => k1 b o (hk b o e)
  have ho2 : s'.heap.get? p = some { cls := .type "list", data := .seq out.toList.toArray cc } := by rw [ho]
  refine ⟨.ref p, upd H1 p (.lst ((sortU ns).map V.int)), I1.call' (s' := s') (ch := []) o1 (Un.laid kk hs1le (I1.hok.fresh hs1le)) (I1.hok.laid kk hs1le ⟨by rw [List.length_map, sizeLine_eq]; omega, out.toList, cc, vals_ints hI, ho2⟩) (by rw [g1]; exact I1.bare) (fun b hb => nomatch hb), rfl, fin p (I1.hok.fresh hs1le)⟩
def fSortSet : List D → R D
  | [.lst xs] => intsOk (fun ns => if ns.length ≤ 1000 ∧ (sortU ns).length < 64 then .ok (.lst ((sortU ns).map D.int)) else .bad) xs
  | _ => .bad
theorem fSortSet_ok {ns : List Int} (h1 : ns.length ≤ 1000) (h2 : (sortU ns).length < 64) : fSortSet [.lst (ns.map D.int)] = .ok (.lst ((sortU ns).map D.int)) := by
  show intsOk _ _ = _
  rw [intsOk_ints, if_pos ⟨h1, h2⟩]
def mOne (f : List D → R D) (m : Rho → R D) : Rho → R D := fun ρ => (m ρ).bind fun d => f [d]
theorem v_sortSet {e : Expr} {m : Rho → R D} {p p2 p3 p4 : Pos} (hK : L.K = X.K) (hc : X.calm = true) (hms : X.mg "sorted" = none) (hmz : X.mg "set" = none) (ha : PB X L e m) (hgs : Gl X "sorted" := by rfl) (hgz : Gl X "set" := by rfl)
    (hs : starEach [e] X.env = [(false, eval e X.env)] := by rfl) (hpl : (backTo p3 (starEach [] X.env)).any (·.1) = false := by rfl)
    (hs1 : starEach [.Call (.Name "set" p2) [e] [] p3] X.env = [(false, eval (.Call (.Name "set" p2) [e] [] p3) X.env)] := by rfl) (hpl1 : (backTo p4 (starEach [] X.env)).any (·.1) = false := by rfl) :
    PV X L (.Call (.Name "sorted" p) [.Call (.Name "set" p2) [e] [] p3] [] p4) (mOne fSortSet m) := (pe_sortSet (p := p) (p2 := p2) (p3 := p3) (p4 := p4) hc hgs hms hgz hmz ha hs hpl hs1 hpl1).imp fun σ H Q ⟨F, ρ, rr, q⟩ => by
  refine TM.go rr q fun d v F1 H1 g1 r1 q1 => ?_
  unfold fSortSet at q1
  split at q1
  · rename_i xs he
    cases he
    cases hi : intsOf xs with
    | none => unfold intsOk at q1; rw [hi] at q1; exact q1.elim
    | some ns =>
      have e := intsOf_eq hi
      subst e
      rw [intsOk_ints] at q1
      split at q1
      · rename_i hl
        obtain ⟨l, vs, rfl, hp, ra⟩ := r1.lst g1.fh
        rw [ra.ints] at hp
        refine ⟨l, ns, rfl, .inl (.inl hp), hl.1, hl.2, fun p hp2 => ?_⟩
        exact q1 _ _ _ (g1.trans (Grow.frozen g1.fh hp2)) (.lst upd_same (rp_ints _))
      · exact q1.elim
  · exact q1.elim
end
end VL
namespace VL
open PySem PySem.Spec PyProof.Rows L2
theorem _root_.L2.Vals.cons_inv {v : V} {vs : List V} {us : List Value} (h : Vals (v :: vs) us) : ∃ u us', us = u :: us' ∧ RelV v u ∧ Vals vs us' := by
  cases h with
  | cons a b => exact ⟨_, _, rfl, a, b⟩
/-! ### list(range(a, b, c)), c above 0; list(range(n)) -/
def stepD (a c : Int) (n : Nat) : List Int := (List.range n).map fun i : Nat => a + (i : Int) * c
def tRangeL (ta : TA) : TE := fun σ H Q => ta σ H fun vs H1 => ∃ a b c : Int, (vs = [.int a, .int b, .int c] ∨ (vs = [.int b] ∧ a = 0 ∧ c = 1)) ∧ 0 < c ∧ c ≤ 1000 ∧ -100000 ≤ a ∧ a ≤ 100000 ∧ -100000 ≤ b ∧ b ≤ 100000 ∧
  ∀ p, H1 p = none → Q (.ref p) (upd H1 p (.lst ((stepD a c (Builtin.Range.rangeSize a b c).toNat).map V.int)))
section
variable {X : Cx} {L : Lv} {pos : Pos}
theorem items_ints {a c : Int} : ∀ {n : Nat} {acc : Array Value}, ItemsOf (fun i v => ∃ t, v = Value.int (a + i * c) t) acc n → IntsAre acc.toList (stepD a c n) := by
  intro n acc h
  have key : ∀ (l : List Value) (k : Nat), (∀ (j : Nat) (v : Value), l[j]? = some v → ∃ t, v = Value.int (a + ((k + j : Nat) : Int) * c) t) → IntsAre l ((List.range' k l.length).map fun i : Nat => a + (i : Int) * c) := by
    intro l
    induction l with
    | nil => intro k _; exact .nil
    | cons v l ih =>
      intro k hv
      obtain ⟨t, rfl⟩ := hv 0 v rfl
      rw [List.length_cons, List.range'_succ, List.map_cons]
      exact .cons _ t (ih (k + 1) fun j w hw => by
        obtain ⟨t, e⟩ := hv (j + 1) w (by simpa using hw)
        exact ⟨t, by rw [e, show k + (j + 1) = k + 1 + j by omega]⟩)
  have := key acc.toList 0 fun j v hv => by
    obtain ⟨t, e⟩ := h.2 j v (by rw [← Array.getElem?_toList]; exact hv)
    exact ⟨t, by rw [e]; simp⟩
  unfold stepD
  rw [List.range_eq_range', ← h.1, ← Array.length_toList]
  exact this
theorem range_small {a b c : Int} (hc : 0 < c) (hc2 : c ≤ 1000) (h1 : -100000 ≤ a) (h2 : a ≤ 100000) (h3 : -100000 ≤ b) (h4 : b ≤ 100000) : Builtin.Range.small a b c = true ∧ ((Builtin.Range.rangeSize a b c).toNat : Int) = Builtin.Range.rangeSize a b c ∧ (Builtin.Range.rangeSize a b c).toNat ≤ 2 ^ 24 := by
  have hr : 0 ≤ Builtin.Range.rangeSize a b c ∧ Builtin.Range.rangeSize a b c ≤ 200001 := by
    unfold Builtin.Range.rangeSize
    rw [if_pos hc]
    by_cases q : a < b
    · rw [if_pos q]
      have e1 : 0 ≤ (b - a - 1) / c := Int.ediv_nonneg (by omega) (by omega)
      have e2 : (b - a - 1) / c ≤ b - a - 1 := Int.ediv_le_self _ (by omega)
      omega
    · rw [if_neg q]; omega
  refine ⟨?_, by omega, by omega⟩
  have fl : ∀ i : Int, -1000000 ≤ i → i ≤ 1000000 → Builtin.Range.rangeFitsLong i = true := fun i h1 h2 => by
    unfold Builtin.Range.rangeFitsLong
    simp
    omega
  unfold Builtin.Range.small
  rw [fl a (by omega) (by omega), fl b (by omega) (by omega), fl c (by omega) (by omega), fl _ (by omega) (by omega), if_pos (show c > 0 from hc), fl (b + (c - 1)) (by omega) (by omega)]
  simp
theorem pe_rangeL {e : Expr} {es : List Expr} {ta : TA} {p p2 p3 p4 : Pos} (hc : X.calm = true) (hgl : Gl X "list") (hml : X.mg "list" = none) (hgz : Gl X "range") (hmz : X.mg "range" = none) (ha : PA X (e :: es) ta)
    (hs : starEach (e :: es) X.env = (false, eval e X.env) :: starEach es X.env := by rfl) (hpl : (backTo p3 (starEach es X.env)).any (·.1) = false := by rfl)
    (hs1 : starEach [.Call (.Name "range" p2) (e :: es) [] p3] X.env = [(false, eval (.Call (.Name "range" p2) (e :: es) [] p3) X.env)] := by rfl) (hpl1 : (backTo p4 (starEach [] X.env)).any (·.1) = false := by rfl) :
    PE X (.Call (.Name "list" p) [.Call (.Name "range" p2) (e :: es) [] p3] [] p4) (tRangeL ta) := by
  refine ⟨fun pins s σ H Q I q => ?_⟩
  refine Call_ (ld_blt I hgl hml boot_list (callWith_type1 (args_cons ?_ hs1) hs1 hpl1))
  refine Call_ (ld_blt I hgz hmz boot_range (callWith_type1 (thn (ha.run p3 pins s σ H _ I q) fun us s1 ⟨vs, H1, I1, r1, q1⟩ => ?_) hs hpl))
  obtain ⟨a, b, c, hv, c1, c2, c3, c4, c5, c6, fin⟩ := q1
  have hh := I1.ok.hd hc
  obtain ⟨sm, sz, sl⟩ := range_small (a := a) (b := b) c1 c2 c3 c4 c5 c6
  have go : ∀ (t u v : Tok) (tk : Nat), wpAny (model X.prog X.w) X.A (call (.type "list") [.ref s1.heap.objs.size]) (EP X pins σ Q) X.xe { s1 with heap := s1.heap.push { cls := .type "range", data := .fields #[.int a t, .int b u, .int c v] }, toks := tk } := by
    intro t u v tk
    refine call_list_range (s := { s1 with heap := s1.heap.push { cls := .type "range", data := .fields #[.int a t, .int b u, .int c v] }, toks := tk }) hh (Heap.get?_push_size _ rfl) sm sz.symm sl fun h' tk' acc c' hk hS hacc => ?_
    have kk : ∀ b o, s1.heap.get? b = some o → h'.get? b = some o := fun b o e => hk b o (Heap.get?_push_of_some _ e)
    have szp : (s1.heap.push { cls := .type "range", data := .fields #[.int a t, .int b u, .int c v] }).objs.size = s1.heap.objs.size + 1 := Heap.size_push ..
    have hle : s1.heap.objs.size ≤ (s1.heap.push { cls := .type "range", data := .fields #[.int a t, .int b u, .int c v] }).objs.size := by rw [szp]; exact Nat.le_succ _
    refine ⟨.ref _, upd H1 _ (.lst ((stepD a c (Builtin.Range.rangeSize a b c).toNat).map V.int)), I1.laid (t' := tk') kk hle ⟨?_, acc.toList, c', vals_ints (items_ints hacc), by simpa using hS⟩, rfl, fin _ (I1.hok.fresh hle)⟩
    rw [List.length_map, sizeLine_eq]
    unfold stepD
    rw [List.length_map, List.length_range]
    omega
  rcases hv with rfl | ⟨rfl, rfl, rfl⟩
  · obtain ⟨u1, us', rfl, e1, r1⟩ := r1.cons_inv
    obtain ⟨u2, us', rfl, e2, r1⟩ := r1.cons_inv
    obtain ⟨u3, us', rfl, e3, r1⟩ := r1.cons_inv
    cases r1
    obtain ⟨t, rfl⟩ := e1
    obtain ⟨u, rfl⟩ := e2
    obtain ⟨v, rfl⟩ := e3
    exact call_range_3 (by omega) (args_nil (go t u v _)) (.inl (PyProof.noPylong_small (by omega)))
  · obtain ⟨u1, us', rfl, e1, r1⟩ := r1.cons_inv
    cases r1
    obtain ⟨t, rfl⟩ := e1
    exact call_range_1 (args_nil (go _ t _ _))
def fRangeL : List D → R D
  | [.int a, .int b, .int c] => if 0 < c ∧ c ≤ 1000 ∧ -100000 ≤ a ∧ a ≤ 100000 ∧ -100000 ≤ b ∧ b ≤ 100000 then .ok (.lst ((stepD a c (if a < b then (b - a - 1) / c + 1 else 0).toNat).map D.int)) else .bad
  | [.int b] => if -100000 ≤ b ∧ b ≤ 100000 then .ok (.lst ((stepD 0 1 b.toNat).map D.int)) else .bad
  | _ => .bad
theorem v_rangeL {e : Expr} {es : List Expr} {m : Rho → R (List D)} {p p2 p3 p4 : Pos} (hc : X.calm = true) (hml : X.mg "list" = none) (hmz : X.mg "range" = none) (ha : PAV X L (e :: es) m) (hgl : Gl X "list" := by rfl) (hgz : Gl X "range" := by rfl)
    (hs : starEach (e :: es) X.env = (false, eval e X.env) :: starEach es X.env := by rfl) (hpl : (backTo p3 (starEach es X.env)).any (·.1) = false := by rfl)
    (hs1 : starEach [.Call (.Name "range" p2) (e :: es) [] p3] X.env = [(false, eval (.Call (.Name "range" p2) (e :: es) [] p3) X.env)] := by rfl) (hpl1 : (backTo p4 (starEach [] X.env)).any (·.1) = false := by rfl) :
    PV X L (.Call (.Name "list" p) [.Call (.Name "range" p2) (e :: es) [] p3] [] p4) (mCall fRangeL m) := (pe_rangeL (p := p) (p2 := p2) (p3 := p3) (p4 := p4) hc hgl hml hgz hmz ha hs hpl hs1 hpl1).imp fun σ H Q ⟨F, ρ, rr, q⟩ => by
  refine TL.go rr q fun ds vs F1 H1 g1 r1 q1 => ?_
  unfold fRangeL at q1
  split at q1
  · rename_i a b c
    split at q1
    · rename_i hl
      cases r1 with
      | cons ra rb =>
        cases rb with
        | cons rb rc =>
          cases rc with
          | cons rc rd =>
            cases rd
            cases ra
            cases rb
            cases rc
            refine ⟨a, b, c, .inl rfl, hl.1, hl.2.1, hl.2.2.1, hl.2.2.2.1, hl.2.2.2.2.1, hl.2.2.2.2.2, fun l hp => ?_⟩
            have e : Builtin.Range.rangeSize a b c = if a < b then (b - a - 1) / c + 1 else 0 := by unfold Builtin.Range.rangeSize; rw [if_pos hl.1]
            rw [e]
            exact q1 _ _ _ (g1.trans (Grow.frozen g1.fh hp)) (.lst upd_same (rp_ints _))
    · exact q1.elim
  · rename_i b
    split at q1
    · rename_i hl
      cases r1 with
      | cons ra rb =>
        cases rb
        cases ra
        refine ⟨0, b, 1, .inr ⟨rfl, rfl, rfl⟩, by omega, by omega, by omega, by omega, hl.1, hl.2, fun l hp => ?_⟩
        have e : (Builtin.Range.rangeSize 0 b 1).toNat = b.toNat := by
          unfold Builtin.Range.rangeSize
          rw [if_pos (by omega)]
          split <;> omega
        rw [e]
        exact q1 _ _ _ (g1.trans (Grow.frozen g1.fh hp)) (.lst upd_same (rp_ints _))
    · exact q1.elim
  · exact q1.elim
end
end VL

namespace VL
open PySem PySem.Spec PyProof.Rows L2
def m_in_range : Rho → R Out :=
  (mRet (mAndV (mIsi "int" (mB 0)) (mAndV (mNotT (mIsi "bool" (mB 0))) (mChain oLe oLe (mB 1) (mB 0) (mB 2)))))
def g_in_range : List D → R D := runB 3 m_in_range
def m_is_edge : Rho → R Out :=
  (mSeq (mIfS (mOr (mNot (mTru (mIsi "tuple" (mB 1)))) (mOr (mT (mBin oNe (mCall fLen (mCons (mB 1) mNil)) (mC (.int 2)))) (mNot (mTru (mFn 3 g_in_range (mCons (mBin oIx (mB 1) (mC (.int 0))) (mCons (mC (.int 0)) (mCons (mBin oSub (mB 0) (mC (.int 1))) mNil))))))))
    (mRet (mC (.bl false)))
    mSkip)
    (mRet (mFn 3 g_in_range (mCons (mBin oIx (mB 1) (mC (.int 1))) (mCons (mBin oAdd (mBin oIx (mB 1) (mC (.int 0))) (mC (.int 1))) (mCons (mBin oSub (mB 0) (mC (.int 1))) mNil))))))
def g_is_edge : List D → R D := runB 2 m_is_edge
def m_distances : Rho → R Out :=
  (mSeq (mSetN 2 (mRep (mL (mLst (mCons (mC .non) mNil))) (mBin oIx (mB 0) (mC (.int 0)))))
    (mSeq (mPut 2 (mV 1) (mC (.int 0)))
    (mSeq (mSetN 3 (mLst (mCons (mV 1) mNil)))
    (mSeq (mWhile (mTru (mB 3))
    (mSeq (mPop0 4 3)
    (mFor (mItemsA (mBin oIx (mB 0) (mC (.int 1)))) (tName 5)
    (mIfS (mT (mBin oIn (mB 4) (mB 5)))
    (mSeq (mSet 6 (mBin oSub (mCall fSum (mCons (mB 5) mNil)) (mB 4)))
    (mIfS (mTest true (mBin oIx (mB 2) (mB 6)))
    (mSeq (mPut 2 (mV 6) (mBin oAdd (mBin oIx (mB 2) (mB 4)) (mC (.int 1))))
    (mApp 3 (mV 6)))
    mSkip))
    mSkip))))
    (mRetN 2)))))
def g_distances : List D → R D := runB 7 m_distances
def m_is_graph : Rho → R Out :=
  (mSeq (mIfS (mOr (mNot (mTru (mIsi "tuple" (mB 0)))) (mOr (mT (mBin oNe (mCall fLen (mCons (mB 0) mNil)) (mC (.int 2)))) (mNot (mTru (mFn 3 g_in_range (mCons (mBin oIx (mB 0) (mC (.int 0))) (mCons (mC (.int 1)) (mCons (mC (.int 8)) mNil))))))))
    (mRet (mC (.bl false)))
    mSkip)
    (mSeq (mIfS (mOr (mNot (mTru (mIsi "tuple" (mBin oIx (mB 0) (mC (.int 1)))))) (mT (mBin oGt (mCall fLen (mCons (mBin oIx (mB 0) (mC (.int 1))) mNil)) (mC (.int 14)))))
    (mRet (mC (.bl false)))
    mSkip)
    (mSeq (mIfS (mTru (mLc [1] (mItemsA (mBin oIx (mB 0) (mC (.int 1)))) (tName 1) (mNot (mTru (mFn 2 g_is_edge (mCons (mBin oIx (mB 0) (mC (.int 0))) (mCons (mV 1) mNil))))) (mV 1)))
    (mRet (mC (.bl false)))
    mSkip)
    (mSeq (mIfS (mTru (mLc [1, 2] (mIter fZip (mCons (mBin oIx (mB 0) (mC (.int 1))) (mCons (mSl (mBin oIx (mB 0) (mC (.int 1))) (mPart (mC (.int 1))) mNoPart) mNil))) (tTuple 2 (tsCons (tName 1) (tsCons (tName 2) tsNil))) (mT (mBin oGe (mB 1) (mB 2))) (mC (.int 1))))
    (mRet (mC (.bl false)))
    mSkip)
    (mRet (mBin oNotIn (mC .non) (mFn 2 g_distances (mCons (mV 0) (mCons (mC (.int 0)) mNil)))))))))
def g_is_graph : List D → R D := runB 3 m_is_graph
def m_check_graph : Rho → R Out :=
  (mIfS (mNot (mTru (mFn 1 g_is_graph (mCons (mV 0) mNil))))
    (mRaise "InvalidGraph")
    mSkip)
def g_check_graph : List D → R D := runB 1 m_check_graph
def m_are_told : Rho → R Out :=
  (mSeq (mIfS (mOr (mNot (mTru (mIsi "tuple" (mB 1)))) (mT (mBin oNe (mCall fLen (mCons (mB 1) mNil)) (mBin oIx (mB 0) (mC (.int 0))))))
    (mRet (mC (.bl false)))
    mSkip)
    (mSeq (mSet 2 (mLc [3] (mItemsA (mV 1)) (tName 3) (mTest false (mB 3)) (mV 3)))
    (mRet (mAndV (mBin oNe (mB 2) (mL (mLst mNil))) (mNotT (mLc [3] (mItemsA (mV 2)) (tName 3) (mNot (mTru (mFn 3 g_in_range (mCons (mV 3) (mCons (mNeg (mC (.int 20))) (mCons (mC (.int 20)) mNil)))))) (mV 3)))))))
def g_are_told : List D → R D := runB 4 m_are_told
def m_check_told : Rho → R Out :=
  (mSeq (mExpr (mFn 1 g_check_graph (mCons (mV 0) mNil)))
    (mIfS (mNot (mTru (mFn 2 g_are_told (mCons (mV 0) (mCons (mV 1) mNil)))))
    (mRaise "InvalidTold")
    mSkip))
def g_check_told : List D → R D := runB 2 m_check_told
def m_fit : Rho → R Out :=
  (mSeq (mIfS (mTru (mLc [3, 4] (mIter fZip (mCons (mV 1) (mCons (mV 2) mNil))) (tTuple 2 (tsCons (tName 3) (tsCons (tName 4) tsNil))) (mAnd (mTest false (mB 3)) (mT (mBin oNe (mB 3) (mB 4)))) (mC (.int 1))))
    (mRet (mC (.bl false)))
    mSkip)
    (mRet (mNotT (mLc [5] (mItemsA (mBin oIx (mB 0) (mC (.int 1)))) (tName 5) (mT (mBin oNe (mCall fAbs (mCons (mBin oSub (mBin oIx (mB 2) (mBin oIx (mB 5) (mC (.int 0)))) (mBin oIx (mB 2) (mBin oIx (mB 5) (mC (.int 1))))) mNil)) (mC (.int 1)))) (mV 5)))))
def g_fit : List D → R D := runB 6 m_fit
def m_are_heights : Rho → R Out :=
  (mSeq (mExpr (mFn 2 g_check_told (mCons (mV 0) (mCons (mV 1) mNil))))
    (mSeq (mIfS (mOr (mNot (mTru (mIsi "tuple" (mB 2)))) (mT (mBin oNe (mCall fLen (mCons (mB 2) mNil)) (mBin oIx (mB 0) (mC (.int 0))))))
    (mRet (mC (.bl false)))
    mSkip)
    (mSeq (mIfS (mTru (mLc [3] (mItemsA (mV 2)) (tName 3) (mNot (mTru (mFn 3 g_in_range (mCons (mV 3) (mCons (mNeg (mC (.int 99))) (mCons (mC (.int 99)) mNil)))))) (mV 3)))
    (mRet (mC (.bl false)))
    mSkip)
    (mRet (mFn 3 g_fit (mCons (mV 0) (mCons (mV 1) (mCons (mV 2) mNil))))))))
def g_are_heights : List D → R D := runB 4 m_are_heights
def m_check_heights : Rho → R Out :=
  (mIfS (mNot (mTru (mFn 3 g_are_heights (mCons (mV 0) (mCons (mV 1) (mCons (mV 2) mNil))))))
    (mRaise "InvalidHeights")
    mSkip)
def g_check_heights : List D → R D := runB 3 m_check_heights
def m_check_vertex : Rho → R Out :=
  (mIfS (mNot (mTru (mFn 3 g_in_range (mCons (mV 1) (mCons (mC (.int 0)) (mCons (mBin oSub (mBin oIx (mB 0) (mC (.int 0))) (mC (.int 1))) mNil))))))
    (mRaise "InvalidVertex")
    mSkip)
def g_check_vertex : List D → R D := runB 2 m_check_vertex
def m_neighbors : Rho → R Out :=
  (mRet (mCall fSorted (mCons (mLc [2] (mItemsA (mBin oIx (mB 0) (mC (.int 1)))) (tName 2) (mT (mBin oIn (mB 1) (mB 2))) (mBin oSub (mCall fSum (mCons (mB 2) mNil)) (mB 1))) mNil)))
def g_neighbors : List D → R D := runB 3 m_neighbors
def m_walk_between : Rho → R Out :=
  (mSeq (mSet 3 (mFn 2 g_distances (mCons (mV 0) (mCons (mV 2) mNil))))
    (mSeq (mSetN 4 (mLst (mCons (mV 1) mNil)))
    (mSeq (mWhile (mT (mBin oNe (mBin oIx (mB 4) (mNeg (mC (.int 1)))) (mB 2)))
    (mApp 4 (mBin oIx (mLc [5] (mItemsA (mFn 2 g_neighbors (mCons (mV 0) (mCons (mBin oIx (mB 4) (mNeg (mC (.int 1)))) mNil)))) (tName 5) (mT (mBin oEq (mBin oIx (mB 3) (mB 5)) (mBin oSub (mBin oIx (mB 3) (mBin oIx (mB 4) (mNeg (mC (.int 1))))) (mC (.int 1))))) (mV 5)) (mC (.int 0)))))
    (mRet (mCall fTuple (mCons (mB 4) mNil))))))
def g_walk_between : List D → R D := runB 6 m_walk_between
def m_odd_walk : Rho → R Out :=
  (mSeq (mSet 1 (mFn 2 g_distances (mCons (mV 0) (mCons (mC (.int 0)) mNil))))
    (mSeq (mFor (mItemsA (mBin oIx (mB 0) (mC (.int 1)))) (tTuple 2 (tsCons (tName 2) (tsCons (tName 3) tsNil)))
    (mIfS (mT (mBin oEq (mBin oMod (mBin oIx (mB 1) (mB 2)) (mC (.int 2))) (mBin oMod (mBin oIx (mB 1) (mB 3)) (mC (.int 2)))))
    (mRet (mBin oAdd (mFn 3 g_walk_between (mCons (mV 0) (mCons (mC (.int 0)) (mCons (mV 2) mNil)))) (mFn 3 g_walk_between (mCons (mV 0) (mCons (mV 3) (mCons (mC (.int 0)) mNil))))))
    mSkip))
    (mRet (mC .non))))
def g_odd_walk : List D → R D := runB 4 m_odd_walk
def m_found_paper : Rho → R Out :=
  (mSeq (mSet 2 (mFn 1 g_odd_walk (mCons (mV 0) mNil)))
    (mSeq (mIfS (mTest false (mB 2))
    (mRet (mTup (mCons (mC (.str "odd")) (mCons (mV 2) mNil))))
    mSkip)
    (mSeq (mSet 3 (mLc [8, 9] (mIter fEnum (mCons (mV 1) mNil)) (tTuple 2 (tsCons (tName 8) (tsCons (tName 9) tsNil))) (mTest false (mB 9)) (mV 8)))
    (mSeq (mFor (mItemsA (mV 3)) (tName 4)
    (mSeq (mSet 5 (mFn 2 g_distances (mCons (mV 0) (mCons (mV 4) mNil))))
    (mFor (mItemsA (mV 3)) (tName 6)
    (mSeq (mSet 7 (mCall fAbs (mCons (mBin oSub (mBin oIx (mB 1) (mB 4)) (mBin oIx (mB 1) (mB 6))) mNil)))
    (mSeq (mIfS (mT (mBin oGt (mB 7) (mBin oIx (mB 5) (mB 6))))
    (mRet (mTup (mCons (mC (.str "far")) (mCons (mFn 3 g_walk_between (mCons (mV 0) (mCons (mV 4) (mCons (mV 6) mNil)))) mNil))))
    mSkip)
    (mIfS (mT (mBin oNe (mBin oMod (mBin oSub (mB 7) (mBin oIx (mB 5) (mB 6))) (mC (.int 2))) (mC (.int 0))))
    (mRet (mTup (mCons (mC (.str "parity")) (mCons (mFn 3 g_walk_between (mCons (mV 0) (mCons (mV 4) (mCons (mV 6) mNil)))) mNil))))
    mSkip))))))
    (mRet (mC .non))))))
def g_found_paper : List D → R D := runB 10 m_found_paper
def m_is_possible : Rho → R Out :=
  (mSeq (mExpr (mFn 2 g_check_told (mCons (mV 0) (mCons (mV 1) mNil))))
    (mRet (mIsN (mFn 2 g_found_paper (mCons (mV 0) (mCons (mV 1) mNil))))))
def g_is_possible : List D → R D := runB 2 m_is_possible
def m_is_walk : Rho → R Out :=
  (mSeq (mIfS (mOr (mNot (mTru (mIsi "tuple" (mB 1)))) (mNot (mTru (mB 1))))
    (mRet (mC (.bl false)))
    mSkip)
    (mSeq (mIfS (mTru (mLc [2] (mItemsA (mV 1)) (tName 2) (mNot (mTru (mFn 3 g_in_range (mCons (mV 2) (mCons (mC (.int 0)) (mCons (mBin oSub (mBin oIx (mB 0) (mC (.int 0))) (mC (.int 1))) mNil)))))) (mV 2)))
    (mRet (mC (.bl false)))
    mSkip)
    (mRet (mNotT (mLc [3, 4] (mIter fZip (mCons (mV 1) (mCons (mSl (mB 1) (mPart (mC (.int 1))) mNoPart) mNil))) (tTuple 2 (tsCons (tName 3) (tsCons (tName 4) tsNil))) (mT (mBin oNotIn (mB 4) (mFn 2 g_neighbors (mCons (mV 0) (mCons (mV 3) mNil))))) (mC (.int 1)))))))
def g_is_walk : List D → R D := runB 5 m_is_walk
def m_is_paper : Rho → R Out :=
  (mSeq (mExpr (mFn 2 g_check_told (mCons (mV 0) (mCons (mV 1) mNil))))
    (mSeq (mIfS (mOr (mNot (mTru (mIsi "tuple" (mB 2)))) (mOr (mT (mBin oNe (mCall fLen (mCons (mB 2) mNil)) (mC (.int 2)))) (mNot (mTru (mFn 2 g_is_walk (mCons (mV 0) (mCons (mBin oIx (mB 2) (mC (.int 1))) mNil)))))))
    (mRet (mC (.bl false)))
    mSkip)
    (mSeq (mSet 3 (mBin oSub (mCall fLen (mCons (mBin oIx (mB 2) (mC (.int 1))) mNil)) (mC (.int 1))))
    (mSeq (mPar2 4 5 (mCons (mBin oIx (mBin oIx (mB 2) (mC (.int 1))) (mC (.int 0))) (mCons (mBin oIx (mBin oIx (mB 2) (mC (.int 1))) (mNeg (mC (.int 1)))) mNil)))
    (mSeq (mIfS (mT (mBin oEq (mBin oIx (mB 2) (mC (.int 0))) (mC (.str "odd"))))
    (mRet (mAndV (mBin oEq (mB 4) (mB 5)) (mBin oNe (mBin oMod (mB 3) (mC (.int 2))) (mC (.int 0)))))
    mSkip)
    (mSeq (mIfS (mOr (mT (mBin oNotIn (mBin oIx (mB 2) (mC (.int 0))) (mTup (mCons (mC (.str "far")) (mCons (mC (.str "parity")) mNil))))) (mOr (mTest true (mBin oIx (mB 1) (mB 4))) (mTest true (mBin oIx (mB 1) (mB 5)))))
    (mRet (mC (.bl false)))
    mSkip)
    (mSeq (mSet 6 (mCall fAbs (mCons (mBin oSub (mBin oIx (mB 1) (mB 4)) (mBin oIx (mB 1) (mB 5))) mNil)))
    (mRet (mIf (mT (mBin oEq (mBin oIx (mB 2) (mC (.int 0))) (mC (.str "far")))) (mBin oLt (mB 3) (mB 6)) (mBin oNe (mBin oMod (mBin oSub (mB 3) (mB 6)) (mC (.int 2))) (mC (.int 0))))))))))))
def g_is_paper : List D → R D := runB 7 m_is_paper
def m_bound : Rho → R Out :=
  (mSeq (mSet 3 (mLc [5, 8] (mIter fEnum (mCons (mV 1) mNil)) (tTuple 2 (tsCons (tName 5) (tsCons (tName 8) tsNil))) (mTest false (mB 8)) (mV 5)))
    (mSeq (mSetN 4 (mLst mNil))
    (mSeq (mFor (mIter fRange1 (mCons (mBin oIx (mB 0) (mC (.int 0))) mNil)) (tName 5)
    (mSeq (mSet 6 (mFn 2 g_distances (mCons (mV 0) (mCons (mV 5) mNil))))
    (mSeq (mSet 7 (mLc [9] (mItemsA (mV 3)) (tName 9) mYes (mBin oAdd (mBin oMul (mB 2) (mBin oIx (mB 1) (mB 9))) (mBin oIx (mB 6) (mB 9)))))
    (mApp 4 (mBin oMul (mB 2) (mCall fMin1 (mCons (mB 7) mNil)))))))
    (mRet (mCall fTuple (mCons (mB 4) mNil))))))
def g_bound : List D → R D := runB 10 m_bound
def m_extreme : Rho → R Out :=
  (mSeq (mExpr (mFn 2 g_check_told (mCons (mV 0) (mCons (mV 1) mNil))))
    (mSeq (mIfS (mTest false (mFn 2 g_found_paper (mCons (mV 0) (mCons (mV 1) mNil))))
    (mRaise "NoHeights")
    mSkip)
    (mRet (mFn 3 g_bound (mCons (mV 0) (mCons (mV 1) (mCons (mV 2) mNil)))))))
def g_extreme : List D → R D := runB 3 m_extreme
def m_greatest : Rho → R Out :=
  (mRet (mFn 3 g_extreme (mCons (mV 0) (mCons (mV 1) (mCons (mC (.int 1)) mNil)))))
def g_greatest : List D → R D := runB 2 m_greatest
def m_least : Rho → R Out :=
  (mRet (mFn 3 g_extreme (mCons (mV 0) (mCons (mV 1) (mCons (mNeg (mC (.int 1))) mNil)))))
def g_least : List D → R D := runB 2 m_least
def m_ranges : Rho → R Out :=
  (mRet (mCall fZipL (mCons (mFn 2 g_least (mCons (mV 0) (mCons (mV 1) mNil))) (mCons (mFn 2 g_greatest (mCons (mV 0) (mCons (mV 1) mNil))) mNil))))
def g_ranges : List D → R D := runB 2 m_ranges
def m_partial (self_ : List D → R D) : Rho → R Out :=
  (mSeq (mSet 3 (mCall fLen (mCons (mB 2) mNil)))
    (mSeq (mIfS (mT (mBin oEq (mB 3) (mBin oIx (mB 0) (mC (.int 0)))))
    (mRet (mL (mLst (mCons (mV 2) mNil))))
    mSkip)
    (mSeq (mSetN 4 (mLst mNil))
    (mSeq (mFor (mIter fRange2 (mCons (mBin oIx (mBin oIx (mB 1) (mB 3)) (mC (.int 0))) (mCons (mBin oAdd (mBin oIx (mBin oIx (mB 1) (mB 3)) (mC (.int 1))) (mC (.int 1))) mNil))) (tName 5)
    (mSeq (mSet 6 (mLc [7] (mItemsA (mFn 2 g_neighbors (mCons (mV 0) (mCons (mV 3) mNil)))) (tName 7) (mT (mBin oLt (mB 7) (mB 3))) (mV 7)))
    (mIfS (mNot (mTru (mLc [7] (mItemsA (mV 6)) (tName 7) (mT (mBin oNe (mCall fAbs (mCons (mBin oSub (mBin oIx (mB 2) (mB 7)) (mB 5)) mNil)) (mC (.int 1)))) (mV 7))))
    (mExt 4 (mFn 3 self_ (mCons (mV 0) (mCons (mV 1) (mCons (mBin oAdd (mB 2) (mTup (mCons (mV 5) mNil))) mNil)))))
    mSkip)))
    (mRetN 4)))))
def gN_partial : Nat → List D → R D
  | 0 => runB 8 mBad
  | j + 1 => runB 8 (m_partial (gN_partial j))
def g_partial : List D → R D := gN_partial 10
def m_listed_heights : Rho → R Out :=
  (mSeq (mSet 2 (mFn 2 g_ranges (mCons (mV 0) (mCons (mV 1) mNil))))
    (mRet (mLc [3] (mItemsA (mFn 3 g_partial (mCons (mV 0) (mCons (mV 2) (mCons (mTup mNil) mNil))))) (tName 3) (mTru (mFn 3 g_fit (mCons (mV 0) (mCons (mV 1) (mCons (mV 3) mNil))))) (mV 3))))
def g_listed_heights : List D → R D := runB 4 m_listed_heights
def m_all_heights : Rho → R Out :=
  (mRet (mFn 2 g_listed_heights (mCons (mV 0) (mCons (mV 1) mNil))))
def g_all_heights : List D → R D := runB 2 m_all_heights
def m_format_told : Rho → R Out :=
  (mSeq (mExpr (mFn 2 g_check_told (mCons (mV 0) (mCons (mV 1) mNil))))
    (mSeq (mSetN 2 (mLst (mCons mBad mNil)))
    (mSeq (mFor (mItemsA (mBin oIx (mB 0) (mC (.int 1)))) (tTuple 2 (tsCons (tName 3) (tsCons (tName 4) tsNil)))
    (mApp 2 mBad))
    (mRet mBad))))
def g_format_told : List D → R D := runB 6 m_format_told
def m_meet : Rho → R Out :=
  (mSeq (mExpr (mFn 3 g_check_heights (mCons (mV 0) (mCons (mV 1) (mCons (mV 2) mNil)))))
    (mSeq (mExpr (mFn 3 g_check_heights (mCons (mV 0) (mCons (mV 1) (mCons (mV 3) mNil)))))
    (mRet (mCall fTuple (mCons (mLc [4, 5] (mIter fZip (mCons (mV 2) (mCons (mV 3) mNil))) (tTuple 2 (tsCons (tName 4) (tsCons (tName 5) tsNil))) mYes (mCall fMin2 (mCons (mB 4) (mCons (mB 5) mNil)))) mNil)))))
def g_meet : List D → R D := runB 6 m_meet
def m_step_of : Rho → R Out :=
  (mSeq (mSet 4 (mLc [5] (mItemsA (mFn 2 g_neighbors (mCons (mV 0) (mCons (mV 3) mNil)))) (tName 5) mYes (mBin oSub (mBin oIx (mB 2) (mB 5)) (mBin oIx (mB 2) (mB 3)))))
    (mSeq (mIfS (mOr (mTest false (mBin oIx (mB 1) (mB 3))) (mOr (mNot (mTru (mB 4))) (mT (mBin oNe (mCall fMin1 (mCons (mB 4) mNil)) (mCall fMax1 (mCons (mB 4) mNil))))))
    (mRet (mC (.int 0)))
    mSkip)
    (mRet (mBin oMul (mC (.int 2)) (mBin oIx (mB 4) (mC (.int 0)))))))
def g_step_of : List D → R D := runB 6 m_step_of
def m_movable : Rho → R Out :=
  (mSeq (mExpr (mFn 3 g_check_heights (mCons (mV 0) (mCons (mV 1) (mCons (mV 2) mNil)))))
    (mSeq (mSetN 3 (mLst mNil))
    (mSeq (mFor (mIter fEnum (mCons (mV 2) mNil)) (tTuple 2 (tsCons (tName 4) (tsCons (tName 5) tsNil)))
    (mSeq (mSet 6 (mFn 4 g_step_of (mCons (mV 0) (mCons (mV 1) (mCons (mV 2) (mCons (mV 4) mNil))))))
    (mIfS (mT (mBin oNe (mB 6) (mC (.int 0))))
    (mApp 3 (mTup (mCons (mV 4) (mCons (mBin oAdd (mB 5) (mB 6)) mNil))))
    mSkip)))
    (mRetN 3))))
def g_movable : List D → R D := runB 7 m_movable
def m_changed : Rho → R Out :=
  (mRet (mBin oAdd (mBin oAdd (mSl (mB 0) mNoPart (mPart (mB 1))) (mTup (mCons (mV 2) mNil))) (mSl (mB 0) (mPart (mBin oAdd (mB 1) (mC (.int 1)))) mNoPart)))
def g_changed : List D → R D := runB 3 m_changed
def m_moved : Rho → R Out :=
  (mSeq (mExpr (mFn 3 g_check_heights (mCons (mV 0) (mCons (mV 1) (mCons (mV 2) mNil)))))
    (mSeq (mExpr (mFn 2 g_check_vertex (mCons (mV 0) (mCons (mV 3) mNil))))
    (mSeq (mSet 4 (mFn 4 g_step_of (mCons (mV 0) (mCons (mV 1) (mCons (mV 2) (mCons (mV 3) mNil))))))
    (mSeq (mIfS (mT (mBin oEq (mB 4) (mC (.int 0))))
    (mRaise "CannotMove")
    mSkip)
    (mRet (mFn 3 g_changed (mCons (mV 2) (mCons (mV 3) (mCons (mBin oAdd (mBin oIx (mB 2) (mB 3)) (mB 4)) mNil)))))))))
def g_moved : List D → R D := runB 5 m_moved
def m_determining : Rho → R Out :=
  (mRet (mCall fTuple (mCons (mLc [2, 3, 4] (mIter fEnum (mCons (mFn 2 g_ranges (mCons (mV 0) (mCons (mV 1) mNil))) mNil)) (tTuple 2 (tsCons (tName 2) (tsCons (tTuple 2 (tsCons (tName 3) (tsCons (tName 4) tsNil))) tsNil))) (mT (mBin oLt (mB 3) (mB 4))) (mV 2)) mNil)))
def g_determining : List D → R D := runB 5 m_determining
def m__law_cell : Rho → R Out :=
  (mSeq (mIfS (mT (mBin oLt (mB 1) (mCall fLen (mCons (mB 0) mNil))))
    (mRet (mBin oIx (mB 0) (mB 1)))
    mSkip)
    (mRet (mC (.int 0))))
def g__law_cell : List D → R D := runB 2 m__law_cell
def m__law_whole : Rho → R Out :=
  (mRet (mAndV (mIsi "int" (mB 0)) (mNotT (mIsi "bool" (mB 0)))))
def g__law_whole : List D → R D := runB 1 m__law_whole
def m__law_row : Rho → R Out :=
  (mSeq (mSet 2 (mFn 2 g__law_cell (mCons (mV 0) (mCons (mV 1) mNil))))
    (mSeq (mSetN 3 (mLst mNil))
    (mSeq (mFor (mIter fRange1 (mCons (mC (.int 60)) mNil)) (tName 4)
    (mIfS (mT (mBin oLt (mFn 2 g__law_cell (mCons (mV 0) (mCons (mV 1) mNil))) (mBin oPow (mC (.int 10)) (mC (.int 18)))))
    (mSeq (mSet 2 (mBin oMod (mBin oAdd (mBin oAdd (mBin oAdd (mBin oMul (mB 2) (mC (.int 48271))) (mBin oMul (mC (.int 131)) (mB 4))) (mC (.int 7))) (mFn 2 g__law_cell (mCons (mV 0) (mCons (mBin oMod (mBin oAdd (mBin oAdd (mB 1) (mC (.int 1))) (mB 4)) (mC (.int 20))) mNil)))) (mC (.int 2147483647))))
    (mApp 3 (mBin oMod (mBin oDiv (mB 2) (mC (.int 11))) (mC (.int 1000)))))
    (mSeq (mApp 3 (mBin oMod (mB 2) (mC (.int 1000))))
    (mSet 2 (mBin oDiv (mB 2) (mC (.int 1000)))))))
    (mRetN 3))))
def g__law_row : List D → R D := runB 5 m__law_row
def m__law_in : Rho → R Out :=
  (mRet (mAndV (mFn 1 g__law_whole (mCons (mV 0) mNil)) (mChain oLe oLe (mB 1) (mB 0) (mB 2))))
def g__law_in : List D → R D := runB 3 m__law_in
def m__law_graph : Rho → R Out :=
  (mSeq (mSet 3 (mFn 2 g__law_row (mCons (mV 0) (mCons (mV 1) mNil))))
    (mSeq (mSet 4 (mBin oAdd (mC (.int 1)) (mBin oMod (mBin oIx (mB 3) (mC (.int 0))) (mB 2))))
    (mSeq (mSetN 5 (mLst mNil))
    (mSeq (mSetN 6 (mRep (mL (mLst (mCons (mC (.int 0)) mNil))) (mB 4)))
    (mSeq (mFor (mIter fRange2 (mCons (mC (.int 1)) (mCons (mV 4) mNil))) (tName 7)
    (mSeq (mSet 8 (mBin oMod (mBin oIx (mB 3) (mB 7)) (mB 7)))
    (mSeq (mPut 6 (mV 7) (mBin oSub (mC (.int 1)) (mBin oIx (mB 6) (mB 8))))
    (mApp 5 (mTup (mCons (mV 8) (mCons (mV 7) mNil)))))))
    (mSeq (mFor (mIter fRange1 (mCons (mBin oMod (mBin oIx (mB 3) (mC (.int 20))) (mC (.int 5))) mNil)) (tName 9)
    (mSeq (mSet 10 (mBin oMod (mBin oIx (mB 3) (mBin oAdd (mC (.int 21)) (mBin oMul (mC (.int 2)) (mB 9)))) (mB 4)))
    (mSeq (mSet 8 (mBin oMod (mBin oIx (mB 3) (mBin oAdd (mC (.int 22)) (mBin oMul (mC (.int 2)) (mB 9)))) (mB 4)))
    (mSeq (mSet 11 (mTup (mCons (mCall fMin2 (mCons (mB 10) (mCons (mB 8) mNil))) (mCons (mCall fMax2 (mCons (mB 10) (mCons (mB 8) mNil))) mNil))))
    (mIfS (mAnd (mT (mBin oNe (mB 10) (mB 8))) (mAnd (mT (mBin oNotIn (mB 11) (mB 5))) (mOr (mT (mBin oNe (mBin oIx (mB 6) (mB 10)) (mBin oIx (mB 6) (mB 8)))) (mT (mBin oEq (mBin oMod (mBin oIx (mB 3) (mC (.int 40))) (mC (.int 6))) (mC (.int 0)))))))
    (mApp 5 (mV 11))
    mSkip)))))
    (mRet (mTup (mCons (mV 4) (mCons (mCall fTuple (mCons (mCall fSorted (mCons (mB 5) mNil)) mNil)) mNil))))))))))
def g__law_graph : List D → R D := runB 12 m__law_graph
def m__law_far : Rho → R Out :=
  (mSeq (mSetN 2 (mRep (mL (mLst (mCons (mC (.int 99)) mNil))) (mBin oIx (mB 0) (mC (.int 0)))))
    (mSeq (mPut 2 (mV 1) (mC (.int 0)))
    (mSeq (mFor (mIter fRange1 (mCons (mBin oIx (mB 0) (mC (.int 0))) mNil)) (tName 3)
    (mFor (mItemsA (mBin oIx (mB 0) (mC (.int 1)))) (tTuple 2 (tsCons (tName 4) (tsCons (tName 5) tsNil)))
    (mSeq (mPut 2 (mV 4) (mCall fMin2 (mCons (mBin oIx (mB 2) (mB 4)) (mCons (mBin oAdd (mBin oIx (mB 2) (mB 5)) (mC (.int 1))) mNil))))
    (mPut 2 (mV 5) (mCall fMin2 (mCons (mBin oIx (mB 2) (mB 5)) (mCons (mBin oAdd (mBin oIx (mB 2) (mB 4)) (mC (.int 1))) mNil)))))))
    (mRetN 2))))
def g__law_far : List D → R D := runB 6 m__law_far
def m__law_is_graph : Rho → R Out :=
  (mSeq (mIfS (mOr (mNot (mTru (mIsi "tuple" (mB 0)))) (mOr (mT (mBin oNe (mCall fLen (mCons (mB 0) mNil)) (mC (.int 2)))) (mNot (mTru (mFn 3 g__law_in (mCons (mBin oIx (mB 0) (mC (.int 0))) (mCons (mC (.int 1)) (mCons (mC (.int 8)) mNil))))))))
    (mRet (mC (.bl false)))
    mSkip)
    (mSeq (mIfS (mOr (mNot (mTru (mIsi "tuple" (mBin oIx (mB 0) (mC (.int 1)))))) (mT (mBin oGt (mCall fLen (mCons (mBin oIx (mB 0) (mC (.int 1))) mNil)) (mC (.int 14)))))
    (mRet (mC (.bl false)))
    mSkip)
    (mSeq (mSet 1 (mTup (mCons (mNeg (mC (.int 1))) (mCons (mNeg (mC (.int 1))) mNil))))
    (mSeq (mFor (mItemsA (mBin oIx (mB 0) (mC (.int 1)))) (tName 2)
    (mSeq (mIfS (mOr (mNot (mTru (mIsi "tuple" (mB 2)))) (mOr (mT (mBin oNe (mCall fLen (mCons (mB 2) mNil)) (mC (.int 2)))) (mNot (mTru (mFn 3 g__law_in (mCons (mBin oIx (mB 2) (mC (.int 0))) (mCons (mC (.int 0)) (mCons (mBin oSub (mBin oIx (mB 0) (mC (.int 0))) (mC (.int 1))) mNil))))))))
    (mRet (mC (.bl false)))
    mSkip)
    (mSeq (mIfS (mOr (mNot (mTru (mFn 3 g__law_in (mCons (mBin oIx (mB 2) (mC (.int 1))) (mCons (mBin oAdd (mBin oIx (mB 2) (mC (.int 0))) (mC (.int 1))) (mCons (mBin oSub (mBin oIx (mB 0) (mC (.int 0))) (mC (.int 1))) mNil)))))) (mT (mBin oLe (mB 2) (mB 1))))
    (mRet (mC (.bl false)))
    mSkip)
    (mMove 1 2))))
    (mRet (mBin oLt (mCall fMax1 (mCons (mFn 2 g__law_far (mCons (mV 0) (mCons (mC (.int 0)) mNil))) mNil)) (mC (.int 99))))))))
def g__law_is_graph : List D → R D := runB 3 m__law_is_graph
def m__law_graph_error : Rho → R Out :=
  (mSeq mBad
    (mRet (mC (.str "none"))))
def g__law_graph_error : List D → R D := runB 4 m__law_graph_error
def m_paper : Rho → R Out :=
  (mSeq (mExpr (mFn 2 g_check_told (mCons (mV 0) (mCons (mV 1) mNil))))
    (mSeq (mSet 2 (mFn 2 g_found_paper (mCons (mV 0) (mCons (mV 1) mNil))))
    (mSeq (mIfS (mTest true (mB 2))
    (mRaise "HeightsExist")
    mSkip)
    (mRetN 2))))
def g_paper : List D → R D := runB 3 m_paper
def m__law_told : Rho → R Out :=
  (mSeq (mSet 3 (mFn 2 g__law_row (mCons (mV 0) (mCons (mV 1) mNil))))
    (mSeq (mSet 4 (mFn 2 g__law_far (mCons (mV 2) (mCons (mC (.int 0)) mNil))))
    (mSeq (mSetN 5 (mRep (mL (mLst (mCons (mC .non) mNil))) (mBin oIx (mB 2) (mC (.int 0)))))
    (mSeq (mSet 6 (mBin oSub (mBin oMod (mBin oIx (mB 3) (mC (.int 0))) (mC (.int 7))) (mC (.int 3))))
    (mSeq (mFor (mIter fRange1 (mCons (mBin oAdd (mC (.int 1)) (mBin oMod (mBin oIx (mB 3) (mC (.int 1))) (mC (.int 4)))) mNil)) (tName 7)
    (mSeq (mSet 8 (mBin oMod (mBin oIx (mB 3) (mBin oAdd (mC (.int 2)) (mB 7))) (mBin oIx (mB 2) (mC (.int 0)))))
    (mSeq (mSet 9 (mBin oMod (mBin oIx (mB 3) (mBin oAdd (mC (.int 10)) (mB 7))) (mBin oAdd (mBin oIx (mB 4) (mB 8)) (mC (.int 1)))))
    (mSeq (mSet 10 (mCall fInt (mCons (mBin oEq (mBin oMod (mBin oIx (mB 3) (mBin oAdd (mC (.int 20)) (mB 7))) (mC (.int 12))) (mC (.int 0))) mNil)))
    (mPut 5 (mV 8) (mBin oAdd (mBin oSub (mBin oAdd (mB 6) (mBin oIx (mB 4) (mB 8))) (mBin oMul (mC (.int 2)) (mB 9))) (mB 10)))))))
    (mRet (mCall fTuple (mCons (mB 5) mNil))))))))
def g__law_told : List D → R D := runB 11 m__law_told
def m__law_beside : Rho → R Out :=
  (mRet (mLc [2] (mItemsA (mBin oIx (mB 0) (mC (.int 1)))) (tName 2) (mT (mBin oIn (mB 1) (mB 2))) (mBin oSub (mBin oAdd (mBin oIx (mB 2) (mC (.int 0))) (mBin oIx (mB 2) (mC (.int 1)))) (mB 1))))
def g__law_beside : List D → R D := runB 3 m__law_beside
def m__law_with : Rho → R Out :=
  (mSeq (mNewD 3)
    (mSeq (mCopyD 3 0 4)
    (mSeq (mDPut 3 (mV 1) (mV 2))
    (mRetD 3))))
def g__law_with : List D → R D := runB 5 m__law_with
def m__law_all : Rho → R Out :=
  (mSeq (mSet 2 (mBin oIx (mLc [6] (mIter fRange1 (mCons (mBin oIx (mB 0) (mC (.int 0))) mNil)) (tName 6) (mTest false (mBin oIx (mB 1) (mB 6))) (mV 6)) (mC (.int 0))))
    (mSeq (mSet 3 (mL (mLst (mCons (mDisp (mV 2) (mBin oIx (mB 1) (mB 2))) mNil))))
    (mSeq (mSetN 4 (mLst (mCons (mV 2) mNil)))
    (mSeq (mFor (mIter fRange1 (mCons (mBin oSub (mBin oIx (mB 0) (mC (.int 0))) (mC (.int 1))) mNil)) (tName 5)
    (mSeq (mSet 6 (mC .non))
    (mSeq (mFor (mItemsA (mBin oIx (mB 0) (mC (.int 1)))) (tTuple 2 (tsCons (tName 7) (tsCons (tName 8) tsNil)))
    (mIfS (mT (mBin oNe (mBin oIn (mB 7) (mB 4)) (mBin oIn (mB 8) (mB 4))))
    (mSet 6 (mIf (mT (mBin oIn (mB 7) (mB 4))) (mV 8) (mV 7)))
    mSkip))
    (mSeq (mApp 4 (mV 6))
    (mSeq (mSetN 9 (mLst mNil))
    (mSeq (mFor (mItemsA (mV 3)) (tName 7)
    (mSeq (mSet 10 (mLc [8] (mItemsA (mFn 2 g__law_beside (mCons (mV 0) (mCons (mV 6) mNil)))) (tName 8) (mT (mBin oIn (mB 8) (mB 7))) (mBin oDget (mB 7) (mB 8))))
    (mFor (mItemsA (mTup (mCons (mBin oSub (mBin oIx (mB 10) (mC (.int 0))) (mC (.int 1))) (mCons (mBin oAdd (mBin oIx (mB 10) (mC (.int 0))) (mC (.int 1))) mNil)))) (tName 11)
    (mSeq (mSet 12 (mBin oEq (mLc [8] (mItemsA (mV 10)) (tName 8) (mT (mBin oNe (mCall fAbs (mCons (mBin oSub (mB 8) (mB 11)) mNil)) (mC (.int 1)))) (mV 8)) (mL (mLst mNil))))
    (mIfS (mAnd (mTru (mB 12)) (mT (mBin oIn (mBin oIx (mB 1) (mB 6)) (mTup (mCons (mC .non) (mCons (mV 11) mNil))))))
    (mApp 9 (mFn 3 g__law_with (mCons (mV 7) (mCons (mV 6) (mCons (mV 11) mNil)))))
    mSkip)))))
    (mMove 3 9)))))))
    (mRet (mCall fSorted (mCons (mLc [7] (mItemsA (mV 3)) (tName 7) mYes (mCall fTuple (mCons (mLc [6] (mIter fRange1 (mCons (mBin oIx (mB 0) (mC (.int 0))) mNil)) (tName 6) mYes (mBin oDget (mB 7) (mB 6))) mNil))) mNil)))))))
def g__law_all : List D → R D := runB 13 m__law_all
def m__law_fits : Rho → R Out :=
  (mSeq (mIfS (mOr (mNot (mTru (mIsi "tuple" (mB 2)))) (mT (mBin oNe (mCall fLen (mCons (mB 2) mNil)) (mBin oIx (mB 0) (mC (.int 0))))))
    (mRet (mC (.bl false)))
    mSkip)
    (mSeq (mFor (mIter fRange1 (mCons (mBin oIx (mB 0) (mC (.int 0))) mNil)) (tName 3)
    (mIfS (mOr (mNot (mTru (mFn 3 g__law_in (mCons (mBin oIx (mB 2) (mB 3)) (mCons (mNeg (mC (.int 99))) (mCons (mC (.int 99)) mNil)))))) (mT (mBin oNotIn (mBin oIx (mB 1) (mB 3)) (mTup (mCons (mC .non) (mCons (mBin oIx (mB 2) (mB 3)) mNil))))))
    (mRet (mC (.bl false)))
    mSkip))
    (mSeq (mFor (mItemsA (mBin oIx (mB 0) (mC (.int 1)))) (tTuple 2 (tsCons (tName 4) (tsCons (tName 5) tsNil)))
    (mIfS (mT (mBin oNe (mCall fAbs (mCons (mBin oSub (mBin oIx (mB 2) (mB 4)) (mBin oIx (mB 2) (mB 5))) mNil)) (mC (.int 1))))
    (mRet (mC (.bl false)))
    mSkip))
    (mRet (mC (.bl true))))))
def g__law_fits : List D → R D := runB 6 m__law_fits
def m__law_is_paper : Rho → R Out :=
  (mSeq (mIfS (mOr (mNot (mTru (mIsi "tuple" (mB 2)))) (mOr (mT (mBin oNe (mCall fLen (mCons (mB 2) mNil)) (mC (.int 2)))) (mOr (mNot (mTru (mIsi "tuple" (mBin oIx (mB 2) (mC (.int 1)))))) (mT (mBin oEq (mBin oIx (mB 2) (mC (.int 1))) (mTup mNil))))))
    (mRet (mC (.bl false)))
    mSkip)
    (mSeq (mSet 3 (mBin oIx (mB 2) (mC (.int 1))))
    (mSeq (mIfS (mT (mBin oNe (mLc [9] (mItemsA (mV 3)) (tName 9) (mNot (mTru (mFn 3 g__law_in (mCons (mV 9) (mCons (mC (.int 0)) (mCons (mBin oSub (mBin oIx (mB 0) (mC (.int 0))) (mC (.int 1))) mNil)))))) (mV 9)) (mL (mLst mNil))))
    (mRet (mC (.bl false)))
    mSkip)
    (mSeq (mFor (mIter fRange2 (mCons (mC (.int 1)) (mCons (mCall fLen (mCons (mB 3) mNil)) mNil))) (tName 4)
    (mIfS (mT (mBin oNotIn (mBin oIx (mB 3) (mB 4)) (mFn 2 g__law_beside (mCons (mV 0) (mCons (mBin oIx (mB 3) (mBin oSub (mB 4) (mC (.int 1)))) mNil)))))
    (mRet (mC (.bl false)))
    mSkip))
    (mSeq (mPar3 5 6 7 (mCons (mBin oIx (mB 3) (mC (.int 0))) (mCons (mBin oIx (mB 3) (mNeg (mC (.int 1)))) (mCons (mBin oSub (mCall fLen (mCons (mB 3) mNil)) (mC (.int 1))) mNil))))
    (mSeq (mIfS (mT (mBin oEq (mBin oIx (mB 2) (mC (.int 0))) (mC (.str "odd"))))
    (mRet (mAndV (mBin oEq (mB 5) (mB 6)) (mBin oEq (mBin oMod (mB 7) (mC (.int 2))) (mC (.int 1)))))
    mSkip)
    (mSeq (mIfS (mOr (mT (mBin oNotIn (mBin oIx (mB 2) (mC (.int 0))) (mTup (mCons (mC (.str "far")) (mCons (mC (.str "parity")) mNil))))) (mOr (mTest true (mBin oIx (mB 1) (mB 5))) (mTest true (mBin oIx (mB 1) (mB 6)))))
    (mRet (mC (.bl false)))
    mSkip)
    (mSeq (mSet 8 (mCall fAbs (mCons (mBin oSub (mBin oIx (mB 1) (mB 5)) (mBin oIx (mB 1) (mB 6))) mNil)))
    (mRet (mIf (mT (mBin oEq (mBin oIx (mB 2) (mC (.int 0))) (mC (.str "far")))) (mBin oGt (mB 8) (mB 7)) (mBin oNe (mBin oMod (mB 8) (mC (.int 2))) (mBin oMod (mB 7) (mC (.int 2))))))))))))))
def g__law_is_paper : List D → R D := runB 10 m__law_is_paper
def m_sure_vertices : Rho → R Out :=
  (mRet (mLc [2, 3, 4] (mIter fEnum (mCons (mFn 2 g_ranges (mCons (mV 0) (mCons (mV 1) mNil))) mNil)) (tTuple 2 (tsCons (tName 2) (tsCons (tTuple 2 (tsCons (tName 3) (tsCons (tName 4) tsNil))) tsNil))) (mT (mBin oEq (mB 3) (mB 4))) (mV 2)))
def g_sure_vertices : List D → R D := runB 5 m_sure_vertices
def m_join : Rho → R Out :=
  (mSeq (mExpr (mFn 3 g_check_heights (mCons (mV 0) (mCons (mV 1) (mCons (mV 2) mNil)))))
    (mSeq (mExpr (mFn 3 g_check_heights (mCons (mV 0) (mCons (mV 1) (mCons (mV 3) mNil)))))
    (mRet (mCall fTuple (mCons (mLc [4, 5] (mIter fZip (mCons (mV 2) (mCons (mV 3) mNil))) (tTuple 2 (tsCons (tName 4) (tsCons (tName 5) tsNil))) mYes (mCall fMax2 (mCons (mB 4) (mCons (mB 5) mNil)))) mNil)))))
def g_join : List D → R D := runB 6 m_join
def m_distance : Rho → R Out :=
  (mSeq (mExpr (mFn 3 g_check_heights (mCons (mV 0) (mCons (mV 1) (mCons (mV 2) mNil)))))
    (mSeq (mExpr (mFn 3 g_check_heights (mCons (mV 0) (mCons (mV 1) (mCons (mV 3) mNil)))))
    (mRet (mBin oDiv (mCall fSum (mCons (mLc [4, 5] (mIter fZip (mCons (mV 2) (mCons (mV 3) mNil))) (tTuple 2 (tsCons (tName 4) (tsCons (tName 5) tsNil))) mYes (mCall fAbs (mCons (mBin oSub (mB 4) (mB 5)) mNil))) mNil)) (mC (.int 2))))))
def g_distance : List D → R D := runB 6 m_distance
def m_moves_between : Rho → R Out :=
  (mSeq (mExpr (mFn 3 g_check_heights (mCons (mV 0) (mCons (mV 1) (mCons (mV 2) mNil)))))
    (mSeq (mExpr (mFn 3 g_check_heights (mCons (mV 0) (mCons (mV 1) (mCons (mV 3) mNil)))))
    (mSeq (mSetN 4 (mLst mNil))
    (mSeq (mMove 5 2)
    (mSeq (mWhile (mT (mBin oNe (mB 5) (mB 3)))
    (mSeq (mSet 6 (mLc [8, 9] (mIter fEnum (mCons (mV 5) mNil)) (tTuple 2 (tsCons (tName 8) (tsCons (tName 9) tsNil))) (mT (mBin oLt (mB 9) (mBin oIx (mB 3) (mB 8)))) (mTup (mCons (mV 9) (mCons (mV 8) mNil)))))
    (mSeq (mSet 7 (mLc [8, 9] (mIter fEnum (mCons (mV 5) mNil)) (tTuple 2 (tsCons (tName 8) (tsCons (tName 9) tsNil))) (mT (mBin oGt (mB 9) (mBin oIx (mB 3) (mB 8)))) (mTup (mCons (mNeg (mB 9)) (mCons (mV 8) mNil)))))
    (mSeq (mSet 8 (mBin oIx mBad (mC (.int 1))))
    (mSeq (mSet 5 (mFn 3 g_changed (mCons (mV 5) (mCons (mV 8) (mCons (mBin oAdd (mBin oIx (mB 5) (mB 8)) (mIf (mTru (mB 6)) (mC (.int 2)) (mNeg (mC (.int 2))))) mNil)))))
    (mApp 4 (mV 8)))))))
    (mRetN 4))))))
def g_moves_between : List D → R D := runB 10 m_moves_between
def m__law_moves : Rho → R Out :=
  (mSeq (mSetN 3 (mLst mNil))
    (mSeq (mFor (mIter fRange1 (mCons (mBin oIx (mB 0) (mC (.int 0))) mNil)) (tName 4)
    (mSeq (mSet 5 (mLc [6] (mItemsA (mFn 2 g__law_beside (mCons (mV 0) (mCons (mV 4) mNil)))) (tName 6) mYes (mBin oIx (mB 2) (mB 6))))
    (mIfS (mAnd (mTest true (mBin oIx (mB 1) (mB 4))) (mAnd (mT (mBin oNe (mB 5) (mL (mLst mNil)))) (mT (mBin oEq (mCall fMin1 (mCons (mB 5) mNil)) (mCall fMax1 (mCons (mB 5) mNil))))))
    (mApp 3 (mTup (mCons (mV 4) (mCons (mBin oSub (mBin oMul (mC (.int 2)) (mBin oIx (mB 5) (mC (.int 0)))) (mBin oIx (mB 2) (mB 4))) mNil))))
    mSkip)))
    (mRetN 3)))
def g__law_moves : List D → R D := runB 7 m__law_moves
def m__law_put : Rho → R Out :=
  (mRet (mBin oAdd (mBin oAdd (mSl (mB 0) mNoPart (mPart (mB 1))) (mTup (mCons (mV 2) mNil))) (mSl (mB 0) (mPart (mBin oAdd (mB 1) (mC (.int 1)))) mNoPart)))
def g__law_put : List D → R D := runB 3 m__law_put
def m_count_heights : Rho → R Out :=
  (mRet (mCall fLen (mCons (mFn 2 g_listed_heights (mCons (mV 0) (mCons (mV 1) mNil))) mNil)))
def g_count_heights : List D → R D := runB 2 m_count_heights
def m_total_difference : Rho → R Out :=
  (mRet (mCall fSum (mCons (mLc [2, 3] (mIter fZip (mCons (mV 0) (mCons (mV 1) mNil))) (tTuple 2 (tsCons (tName 2) (tsCons (tName 3) tsNil))) mYes (mCall fAbs (mCons (mBin oSub (mB 2) (mB 3)) mNil))) mNil)))
def g_total_difference : List D → R D := runB 4 m_total_difference
def m_nearest : Rho → R Out :=
  (mSeq (mSet 3 (mFn 2 g_listed_heights (mCons (mV 0) (mCons (mV 1) mNil))))
    (mSeq (mIfS (mOr (mNot (mTru (mIsi "tuple" (mB 2)))) (mT (mBin oNe (mCall fLen (mCons (mB 2) mNil)) (mBin oIx (mB 0) (mC (.int 0))))))
    (mRaise "InvalidHeights")
    mSkip)
    (mSeq (mIfS (mTru (mLc [5] (mItemsA (mV 2)) (tName 5) (mNot (mTru (mFn 3 g_in_range (mCons (mV 5) (mCons (mNeg (mC (.int 99))) (mCons (mC (.int 99)) mNil)))))) (mV 5)))
    (mRaise "InvalidHeights")
    mSkip)
    (mSeq (mSet 4 (mCall fMin1 (mCons (mLc [6] (mItemsA (mV 3)) (tName 6) mYes (mFn 2 g_total_difference (mCons (mV 6) (mCons (mV 2) mNil)))) mNil)))
    (mRet (mTup (mCons (mV 4) (mCons (mLc [6] (mItemsA (mV 3)) (tName 6) (mT (mBin oEq (mFn 2 g_total_difference (mCons (mV 6) (mCons (mV 2) mNil))) (mB 4))) (mV 6)) mNil))))))))
def g_nearest : List D → R D := runB 7 m_nearest
def m_are_answers : Rho → R Out :=
  (mSeq (mIfS (mNot (mTru (mIsi "tuple" (mB 1))))
    (mRet (mC (.bl false)))
    mSkip)
    (mSeq (mFor (mItemsA (mV 1)) (tName 2)
    (mSeq (mIfS (mOr (mNot (mTru (mIsi "tuple" (mB 2)))) (mOr (mT (mBin oNe (mCall fLen (mCons (mB 2) mNil)) (mC (.int 2)))) (mNot (mTru (mFn 3 g_in_range (mCons (mBin oIx (mB 2) (mC (.int 0))) (mCons (mC (.int 0)) (mCons (mBin oSub (mBin oIx (mB 0) (mC (.int 0))) (mC (.int 1))) mNil))))))))
    (mRet (mC (.bl false)))
    mSkip)
    (mIfS (mNot (mTru (mFn 3 g_in_range (mCons (mBin oIx (mB 2) (mC (.int 1))) (mCons (mNeg (mC (.int 99))) (mCons (mC (.int 99)) mNil))))))
    (mRet (mC (.bl false)))
    mSkip)))
    (mRet (mC (.bl true)))))
def g_are_answers : List D → R D := runB 3 m_are_answers
def m_candidates : Rho → R Out :=
  (mSeq (mSet 3 (mFn 2 g_listed_heights (mCons (mV 0) (mCons (mV 1) mNil))))
    (mSeq (mIfS (mNot (mTru (mFn 2 g_are_answers (mCons (mV 0) (mCons (mV 2) mNil)))))
    (mRaise "InvalidAnswers")
    mSkip)
    (mRet (mLc [4] (mItemsA (mV 3)) (tName 4) (mNot (mTru (mLc [5, 6] (mItemsA (mV 2)) (tTuple 2 (tsCons (tName 5) (tsCons (tName 6) tsNil))) (mT (mBin oNe (mBin oIx (mB 4) (mB 5)) (mB 6))) (mV 5)))) (mV 4)))))
def g_candidates : List D → R D := runB 7 m_candidates
def m_best_question : Rho → R Out :=
  (mSeq (mSet 3 (mFn 3 g_candidates (mCons (mV 0) (mCons (mV 1) (mCons (mV 2) mNil)))))
    (mSeq (mIfS (mNot (mTru (mB 3)))
    (mRaise "InvalidAnswers")
    mSkip)
    (mSeq (mSet 4 (mC .non))
    (mSeq (mFor (mIter fRange1 (mCons (mBin oIx (mB 0) (mC (.int 0))) mNil)) (tName 5)
    (mSeq (mSet 6 (mLc [8] (mItemsA (mV 3)) (tName 8) mYes (mBin oIx (mB 8) (mB 5))))
    (mSeq (mSet 7 (mCall fMax1 (mCons (mLc [9] (mItemsA (mV 6)) (tName 9) mYes (mMeth "list" fCount (mB 6) (mCons (mB 9) mNil))) mNil)))
    (mIfS (mAnd (mT (mBin oLt (mB 7) (mCall fLen (mCons (mB 3) mNil)))) (mOr (mTest true (mB 4)) (mT (mBin oLt (mB 7) (mBin oIx (mB 4) (mC (.int 0)))))))
    (mSet 4 (mTup (mCons (mV 7) (mCons (mV 5) mNil))))
    mSkip))))
    (mRet (mIf (mTest true (mB 4)) (mC .non) (mBin oIx (mB 4) (mC (.int 1)))))))))
def g_best_question : List D → R D := runB 10 m_best_question
def m__law_gap : Rho → R Out :=
  (mRet (mCall fSum (mCons (mLc [2] (mIter fRange1 (mCons (mCall fLen (mCons (mB 0) mNil)) mNil)) (tName 2) mYes (mCall fAbs (mCons (mBin oSub (mBin oIx (mB 0) (mB 2)) (mBin oIx (mB 1) (mB 2))) mNil))) mNil)))
def g__law_gap : List D → R D := runB 3 m__law_gap
def m_parse_height : Rho → R Out :=
  (mSeq (mIfS (mT (mBin oEq (mB 0) (mC (.str "?"))))
    (mRet (mL (mLst (mCons (mC .non) mNil))))
    mSkip)
    (mSeq (mSet 1 (mIf (mT (mBin oEq (mSl (mB 0) mNoPart (mPart (mC (.int 1)))) (mC (.str "-")))) (mSl (mB 0) (mPart (mC (.int 1))) mNoPart) (mV 0)))
    (mSeq (mIfS (mOr (mNot (mT (mChain oLe oLe (mC (.int 1)) (mCall fLen (mCons (mB 1) mNil)) (mC (.int 2))))) (mTru (mLc [3] (mItemsA (mV 1)) (tName 3) (mT (mBin oNotIn (mB 3) (mC (.str "0123456789")))) (mV 3))))
    (mRet (mL (mLst mNil)))
    mSkip)
    (mSeq (mSet 2 (mCall fInt (mCons (mB 0) mNil)))
    (mRet (mIf (mT (mBin oEq mBad (mB 0))) (mL (mLst (mCons (mV 2) mNil))) (mL (mLst mNil))))))))
def g_parse_height : List D → R D := runB 4 m_parse_height
def m_parse_line : Rho → R Out :=
  (mSeq (mIfS (mTru (mB 1))
    (mSeq (mSet 2 mBad)
    (mSeq (mSet 3 (mLc [4] (mItemsA (mSl (mB 2) (mPart (mC (.int 1))) mNoPart)) (tName 4) mYes (mFn 1 g_parse_height (mCons (mV 4) mNil))))
    (mRet (mIf (mOr (mT (mBin oNe (mBin oIx (mB 2) (mC (.int 0))) (mC (.str "heights")))) (mOr (mNot (mTru (mB 3))) (mT (mBin oIn (mL (mLst mNil)) (mB 3))))) (mC .non) (mCall fTuple (mCons (mLc [5] (mItemsA (mV 3)) (tName 5) mYes (mBin oIx (mB 5) (mC (.int 0)))) mNil))))))
    mSkip)
    (mSeq (mIfS (mOr (mT (mBin oNe (mCall fLen (mCons (mB 0) mNil)) (mC (.int 3)))) (mOr (mT (mBin oNe (mBin oIx (mB 0) (mC (.int 1))) (mC (.str "-")))) (mOr (mT (mBin oNotIn (mBin oIx (mB 0) (mC (.int 0))) (mC (.str "0123456789")))) (mT (mBin oNotIn (mBin oIx (mB 0) (mC (.int 2))) (mC (.str "0123456789")))))))
    (mRet (mC .non))
    mSkip)
    (mRet (mTup (mCons mBad (mCons mBad mNil))))))
def g_parse_line : List D → R D := runB 6 m_parse_line
def m_parse_told : Rho → R Out :=
  (mSeq (mIfS (mNot (mTru (mIsi "str" (mB 0))))
    mBad
    mSkip)
    (mSeq (mSetN 1 (mLst mNil))
    (mSeq (mFor (mIter fEnum (mCons mBad mNil)) (tTuple 2 (tsCons (tName 2) (tsCons (tName 3) tsNil)))
    (mSeq (mSet 4 (mFn 2 g_parse_line (mCons (mV 3) (mCons (mBin oEq (mB 2) (mC (.int 0))) mNil))))
    (mSeq (mIfS (mTest true (mB 4))
    mBad
    mSkip)
    (mApp 1 (mV 4)))))
    (mSeq (mSet 5 (mTup (mCons (mCall fLen (mCons (mBin oIx (mB 1) (mC (.int 0))) mNil)) (mCons (mCall fTuple (mCons (mSl (mB 1) (mPart (mC (.int 1))) mNoPart) mNil)) mNil))))
    (mSeq (mIfS (mOr (mNot (mTru (mFn 1 g_is_graph (mCons (mV 5) mNil)))) (mNot (mTru (mFn 2 g_are_told (mCons (mV 5) (mCons (mBin oIx (mB 1) (mC (.int 0))) mNil))))))
    mBad
    mSkip)
    (mRet (mTup (mCons (mV 5) (mCons (mBin oIx (mB 1) (mC (.int 0))) mNil)))))))))
def g_parse_told : List D → R D := runB 6 m_parse_told
def m__law_parse : Rho → R Out :=
  mBad
def g__law_parse : List D → R D := runB 2 m__law_parse
def m__law_ladder_agrees : Rho → R Out :=
  (mSeq (mIfS (mOr (mT (mBin oNe mBad (mBin oIx (mB 3) (mNeg (mC (.int 1)))))) (mOr (mT (mBin oNe mBad (mTup (mCons (mV 1) (mCons (mV 2) (mCons (mBin oIx (mB 3) (mNeg (mC (.int 1)))) mNil)))))) (mT (mBin oNe (mCall fLen (mCons (mB 0) mNil)) (mBin oSub (mCall fLen (mCons (mB 3) mNil)) (mC (.int 1)))))))
    (mRet (mC (.bl false)))
    mSkip)
    (mSeq (mIfS (mT (mBin oNe mBad (mFn 3 g__law_moves (mCons (mV 1) (mCons (mV 2) (mCons (mBin oIx (mB 3) (mNeg (mC (.int 1)))) mNil))))))
    (mRet (mC (.bl false)))
    mSkip)
    (mRet (mBin oEq mBad mBad))))
def g__law_ladder_agrees : List D → R D := runB 5 m__law_ladder_agrees
def m__law_raise : Rho → R Out :=
  (mSeq (mSet 1 (mTup (mCons (mC (.int 2)) (mCons (mTup (mCons (mTup (mCons (mC (.int 0)) (mCons (mC (.int 1)) mNil))) mNil)) mNil))))
    (mSeq (mIfS (mT (mBin oEq (mB 0) (mC (.int 0))))
    (mRet (mFn 2 g_is_possible (mCons (mTup (mCons (mC (.int 2)) (mCons (mTup mNil) mNil))) (mCons (mTup (mCons (mC (.int 0)) (mCons (mC .non) mNil))) mNil))))
    mSkip)
    (mSeq (mIfS (mT (mBin oEq (mB 0) (mC (.int 1))))
    (mRet (mFn 2 g_is_possible (mCons (mV 1) (mCons (mTup (mCons (mC .non) (mCons (mC .non) mNil))) mNil))))
    mSkip)
    (mSeq (mIfS (mT (mBin oEq (mB 0) (mC (.int 2))))
    (mRet (mFn 3 g_movable (mCons (mV 1) (mCons (mTup (mCons (mC (.int 0)) (mCons (mC .non) mNil))) (mCons (mTup (mCons (mC (.int 0)) (mCons (mC (.int 2)) mNil))) mNil)))))
    mSkip)
    (mSeq (mIfS (mT (mBin oEq (mB 0) (mC (.int 3))))
    (mRet (mFn 4 g_moved (mCons (mV 1) (mCons (mTup (mCons (mC (.int 0)) (mCons (mC .non) mNil))) (mCons (mTup (mCons (mC (.int 0)) (mCons (mC (.int 1)) mNil))) (mCons (mC (.int 2)) mNil))))))
    mSkip)
    (mSeq (mIfS (mT (mBin oEq (mB 0) (mC (.int 4))))
    (mRet (mFn 3 g_candidates (mCons (mV 1) (mCons (mTup (mCons (mC (.int 0)) (mCons (mC .non) mNil))) (mCons (mTup (mCons (mTup (mCons (mC (.int 2)) (mCons (mC (.int 0)) mNil))) mNil)) mNil)))))
    mSkip)
    (mSeq (mIfS (mT (mBin oEq (mB 0) (mC (.int 5))))
    (mRet (mFn 2 g_least (mCons (mV 1) (mCons (mTup (mCons (mC (.int 0)) (mCons (mC (.int 2)) mNil))) mNil))))
    mSkip)
    (mSeq (mIfS (mT (mBin oEq (mB 0) (mC (.int 6))))
    (mRet (mFn 2 g_paper (mCons (mV 1) (mCons (mTup (mCons (mC (.int 0)) (mCons (mC (.int 1)) mNil))) mNil))))
    mSkip)
    (mSeq (mIfS (mT (mBin oEq (mB 0) (mC (.int 7))))
    (mRet (mFn 4 g_moved (mCons (mV 1) (mCons (mTup (mCons (mC (.int 0)) (mCons (mC .non) mNil))) (mCons (mTup (mCons (mC (.int 0)) (mCons (mC (.int 1)) mNil))) (mCons (mC (.int 0)) mNil))))))
    mSkip)
    (mRet (mIf (mT (mBin oEq (mB 0) (mC (.int 8)))) (mFn 1 g_parse_told (mCons (mC (.str "heights 0 ?\n01")) mNil)) mBad)))))))))))
def g__law_raise : List D → R D := runB 2 m__law_raise
def m_clash_list : Rho → R Out :=
  (mSeq (mSet 2 (mLc [8, 9] (mIter fEnum (mCons (mV 1) mNil)) (tTuple 2 (tsCons (tName 8) (tsCons (tName 9) tsNil))) (mTest false (mB 9)) (mV 8)))
    (mSeq (mSetN 3 (mLst mNil))
    (mSeq (mFor (mItemsA (mV 2)) (tName 4)
    (mSeq (mSet 5 (mFn 2 g_distances (mCons (mV 0) (mCons (mV 4) mNil))))
    (mFor (mItemsA (mV 2)) (tName 6)
    (mSeq (mSet 7 (mCall fAbs (mCons (mBin oSub (mBin oIx (mB 1) (mB 4)) (mBin oIx (mB 1) (mB 6))) mNil)))
    (mIfS (mAnd (mT (mBin oLt (mB 4) (mB 6))) (mOr (mT (mBin oGt (mB 7) (mBin oIx (mB 5) (mB 6)))) (mT (mBin oNe (mBin oMod (mBin oSub (mB 7) (mBin oIx (mB 5) (mB 6))) (mC (.int 2))) (mC (.int 0))))))
    (mApp 3 (mTup (mCons (mV 4) (mCons (mV 6) mNil))))
    mSkip)))))
    (mRetN 3))))
def g_clash_list : List D → R D := runB 10 m_clash_list
def m_check_even : Rho → R Out :=
  (mSeq (mExpr (mFn 2 g_check_told (mCons (mV 0) (mCons (mV 1) mNil))))
    (mIfS (mTest false (mFn 1 g_odd_walk (mCons (mV 0) mNil)))
    (mRaise "NoHeights")
    mSkip))
def g_check_even : List D → R D := runB 2 m_check_even
def m_clashes : Rho → R Out :=
  (mSeq (mExpr (mFn 2 g_check_even (mCons (mV 0) (mCons (mV 1) mNil))))
    (mRet (mFn 2 g_clash_list (mCons (mV 0) (mCons (mV 1) mNil)))))
def g_clashes : List D → R D := runB 2 m_clashes
def m_without : Rho → R Out :=
  (mRet (mCall fTuple (mCons (mLc [2, 3] (mIter fEnum (mCons (mV 0) mNil)) (tTuple 2 (tsCons (tName 2) (tsCons (tName 3) tsNil))) mYes (mIf (mT (mBin oIn (mB 2) (mB 1))) (mC .non) (mV 3))) mNil)))
def g_without : List D → R D := runB 4 m_without
def m_subsets (self_ : List D → R D) : Rho → R Out :=
  (mSeq (mIfS (mT (mBin oEq (mB 1) (mC (.int 0))))
    (mRet (mL (mLst (mCons (mTup mNil) mNil))))
    mSkip)
    (mRet mBad))
def gN_subsets : Nat → List D → R D
  | 0 => runB 4 mBad
  | j + 1 => runB 4 (m_subsets (gN_subsets j))
def g_subsets : List D → R D := gN_subsets 10
def m_fewest_drops : Rho → R Out :=
  (mSeq (mExpr (mFn 2 g_check_even (mCons (mV 0) (mCons (mV 1) mNil))))
    (mSeq (mSet 2 (mLc [7, 8] (mIter fEnum (mCons (mV 1) mNil)) (tTuple 2 (tsCons (tName 7) (tsCons (tName 8) tsNil))) (mTest false (mB 8)) (mV 7)))
    (mSeq (mSetN 3 (mLst mNil))
    (mSeq (mSet 4 (mC (.int 0)))
    (mSeq (mWhile (mNot (mTru (mB 3)))
    (mSeq (mFor (mItemsA (mFn 2 g_subsets (mCons (mCall fLen (mCons (mB 2) mNil)) (mCons (mV 4) mNil)))) (tName 5)
    (mSeq (mSet 6 (mCall fTuple (mCons (mLc [9] (mItemsA (mV 5)) (tName 9) mYes (mBin oIx (mB 2) (mB 9))) mNil)))
    (mIfS (mTest true (mFn 2 g_found_paper (mCons (mV 0) (mCons (mFn 2 g_without (mCons (mV 1) (mCons (mV 6) mNil))) mNil))))
    (mApp 3 (mV 6))
    mSkip)))
    (mAug 4 (mC (.int 1)))))
    (mRet (mBin oIx (mB 3) (mC (.int 0)))))))))
def g_fewest_drops : List D → R D := runB 10 m_fewest_drops
def m__law_is_odd : Rho → R Out :=
  (mSeq (mSet 1 (mFn 2 g__law_far (mCons (mV 0) (mCons (mC (.int 0)) mNil))))
    (mRet (mBin oNe (mLc [2, 3] (mItemsA (mBin oIx (mB 0) (mC (.int 1)))) (tTuple 2 (tsCons (tName 2) (tsCons (tName 3) tsNil))) (mT (mBin oEq (mBin oMod (mBin oAdd (mBin oIx (mB 1) (mB 2)) (mBin oIx (mB 1) (mB 3))) (mC (.int 2))) (mC (.int 0)))) (mC (.int 1))) (mL (mLst mNil)))))
def g__law_is_odd : List D → R D := runB 4 m__law_is_odd
def m__law_many_told : Rho → R Out :=
  (mSeq (mSet 3 (mFn 2 g__law_row (mCons (mV 0) (mCons (mV 1) mNil))))
    (mSeq (mSet 4 (mFn 2 g__law_far (mCons (mV 2) (mCons (mC (.int 0)) mNil))))
    (mSeq (mSetN 5 (mRep (mL (mLst (mCons (mC .non) mNil))) (mBin oIx (mB 2) (mC (.int 0)))))
    (mSeq (mFor (mIter fRange1 (mCons (mBin oIx (mB 2) (mC (.int 0))) mNil)) (tName 6)
    (mSeq (mIfS (mT (mBin oEq (mBin oMod (mBin oIx (mB 3) (mB 6)) (mC (.int 2))) (mC (.int 0))))
    (mSeq (mSet 7 (mBin oMod (mBin oIx (mB 3) (mBin oAdd (mC (.int 10)) (mB 6))) (mBin oAdd (mBin oIx (mB 4) (mB 6)) (mC (.int 1)))))
    (mPut 5 (mV 6) (mBin oSub (mBin oIx (mB 4) (mB 6)) (mBin oMul (mC (.int 2)) (mB 7)))))
    mSkip)
    (mIfS (mT (mBin oEq (mBin oMod (mBin oIx (mB 3) (mBin oAdd (mC (.int 20)) (mB 6))) (mC (.int 6))) (mC (.int 0))))
    (mPut 5 (mV 6) (mBin oSub (mBin oMod (mBin oIx (mB 3) (mBin oAdd (mC (.int 30)) (mB 6))) (mC (.int 7))) (mC (.int 3))))
    mSkip)))
    (mSeq (mIfS (mT (mBin oEq (mB 5) (mBin oMul (mL (mLst (mCons (mC .non) mNil))) (mBin oIx (mB 2) (mC (.int 0))))))
    (mPut 5 (mC (.int 0)) (mC (.int 0)))
    mSkip)
    (mRet (mCall fTuple (mCons (mB 5) mNil))))))))
def g__law_many_told : List D → R D := runB 8 m__law_many_told
def m_depth (self_ : List D → R D) : Rho → R Out :=
  (mSeq (mIfS (mT (mBin oEq (mCall fLen (mCons (mB 0) mNil)) (mC (.int 1))))
    (mRet (mC (.int 0)))
    mSkip)
    (mSeq (mIfS (mT (mBin oNotIn (mB 0) (mB 1)))
    (mSeq (mSet 2 (mC .non))
    (mSeq (mFor (mIter fRange1 (mCons (mCall fLen (mCons (mBin oIx (mB 0) (mC (.int 0))) mNil)) mNil)) (tName 3)
    (mSeq (mSet 4 (mOne fSortSet (mLc [7] (mItemsA (mV 0)) (tName 7) mYes (mBin oIx (mB 7) (mB 3)))))
    (mIfS (mT (mBin oGt (mCall fLen (mCons (mB 4) mNil)) (mC (.int 1))))
    (mSeq (mSet 5 (mLc [8] (mItemsA (mV 4)) (tName 8) mYes (mCall fTuple (mCons (mLc [7] (mItemsA (mV 0)) (tName 7) (mT (mBin oEq (mBin oIx (mB 7) (mB 3)) (mB 8))) (mV 7)) mNil))))
    (mSeq (mSet 6 (mBin oAdd (mC (.int 1)) (mCall fMax1 (mCons (mLc [9] (mItemsA (mV 5)) (tName 9) mYes (mFn 2 self_ (mCons (mV 9) (mCons (mV 1) mNil)))) mNil))))
    (mSet 2 (mIf (mTest true (mB 2)) (mV 6) (mCall fMin2 (mCons (mB 2) (mCons (mB 6) mNil)))))))
    mSkip)))
    (mPut 1 (mV 0) (mV 2))))
    mSkip)
    (mRet (mBin oIx (mB 1) (mB 0)))))
def gN_depth : Nat → List D → R D
  | 0 => runB 10 mBad
  | j + 1 => runB 10 (m_depth (gN_depth j))
def g_depth : List D → R D := gN_depth 40
def m_questions_needed : Rho → R Out :=
  (mSeq (mSet 3 (mFn 3 g_candidates (mCons (mV 0) (mCons (mV 1) (mCons (mV 2) mNil)))))
    (mSeq (mIfS (mNot (mTru (mB 3)))
    (mRaise "InvalidAnswers")
    mSkip)
    (mRet (mFn 2 g_depth (mCons (mCall fTuple (mCons (mB 3) mNil)) (mCons mBad mNil))))))
def g_questions_needed : List D → R D := runB 4 m_questions_needed
def m_reached : Rho → R Out :=
  (mSeq (mExpr (mFn 3 g_check_heights (mCons (mV 0) (mCons (mV 1) (mCons (mV 2) mNil)))))
    (mSeq (mExpr (mFn 2 g_check_vertex (mCons (mV 0) (mCons (mV 3) mNil))))
    (mSeq (mUnpack (tTuple 2 (tsCons (tName 5) (tsCons (tName 6) tsNil))) (mBin oIx (mFn 2 g_ranges (mCons (mV 0) (mCons (mV 1) mNil))) (mB 3)))
    (mSeq (mIfS (mOr (mNot (mTru (mFn 3 g_in_range (mCons (mV 4) (mCons (mV 5) (mCons (mV 6) mNil)))))) (mT (mBin oNe (mBin oMod (mBin oSub (mB 4) (mB 5)) (mC (.int 2))) (mC (.int 0)))))
    (mRaise "NoHeights")
    mSkip)
    (mSeq (mSet 7 (mFn 2 g_distances (mCons (mV 0) (mCons (mV 3) mNil))))
    (mSeq (mIfS (mT (mBin oGt (mB 4) (mBin oIx (mB 2) (mB 3))))
    (mRet (mCall fTuple (mCons (mLc [8, 9] (mIter fZipM (mCons (mV 2) (mCons (mV 7) mNil))) (tTuple 2 (tsCons (tName 8) (tsCons (tName 9) tsNil))) mYes (mCall fMax2 (mCons (mB 8) (mCons (mBin oSub (mB 4) (mB 9)) mNil)))) mNil)))
    mSkip)
    (mRet (mCall fTuple (mCons (mLc [8, 9] (mIter fZipM (mCons (mV 2) (mCons (mV 7) mNil))) (tTuple 2 (tsCons (tName 8) (tsCons (tName 9) tsNil))) mYes (mCall fMin2 (mCons (mB 8) (mCons (mBin oAdd (mB 4) (mB 9)) mNil)))) mNil)))))))))
def g_reached : List D → R D := runB 10 m_reached
def exN : List Str := ["HeightError", "InvalidGraph", "InvalidTold", "NoHeights", "HeightsExist"]
def m__law_extreme : Rho → R Out :=
  (mTry exN (mSeq (mIfS (mT (mBin oEq (mB 0) (mC (.int 0))))
    (mRet (mFn 2 g_least (mCons (mV 1) (mCons (mV 2) mNil))))
    mSkip)
    (mRet (mIf (mT (mBin oEq (mB 0) (mC (.int 1)))) (mFn 2 g_greatest (mCons (mV 1) (mCons (mV 2) mNil))) (mFn 2 g_ranges (mCons (mV 1) (mCons (mV 2) mNil))))))
    (("NoHeights", hRet "none" "other" "HeightError" "HeightsExist") :: []))
def g__law_extreme : List D → R D := runB 4 m__law_extreme
def m_law : Rho → R Out :=
  (mSeq (mSet 1 (mFn 3 g__law_graph (mCons (mV 0) (mCons (mC (.int 2)) (mCons (mC (.int 8)) mNil)))))
    (mSeq (mSet 2 (mFn 3 g__law_told (mCons (mV 0) (mCons (mC (.int 3)) (mCons (mV 1) mNil)))))
    (mSeq (mSet 3 (mFn 2 g__law_all (mCons (mV 1) (mCons (mV 2) mNil))))
    (mSeq (mSet 4 (mLc [8] (mIter fRange1 (mCons (mC (.int 3)) mNil)) (tName 8) mYes (mFn 3 g__law_extreme (mCons (mV 8) (mCons (mV 1) (mCons (mV 2) mNil))))))
    (mSeq (mIfS (mT (mBin oEq (mB 3) (mL (mLst mNil))))
    (mRet (mBin oEq (mB 4) (mBin oMul (mL (mLst (mCons (mC (.str "none")) mNil))) (mC (.int 3)))))
    mSkip)
    (mSeq (mSet 5 (mL (mLst mNil)))
    (mSeq (mFor (mIter fRange1 (mCons (mBin oIx (mB 1) (mC (.int 0))) mNil)) (tName 6)
    (mSeq (mSet 7 (mOne fSortSet (mLc [9] (mItemsA (mV 3)) (tName 9) mYes (mBin oIx (mB 9) (mB 6)))))
    (mSeq (mIfS (mOr (mT (mBin oNe (mTup (mCons (mBin oIx (mBin oIx (mB 4) (mC (.int 0))) (mB 6)) (mCons (mBin oIx (mBin oIx (mB 4) (mC (.int 1))) (mB 6)) mNil))) (mTup (mCons (mBin oIx (mB 7) (mC (.int 0))) (mCons (mBin oIx (mB 7) (mNeg (mC (.int 1)))) mNil))))) (mT (mBin oNe (mB 7) (mCall fRangeL (mCons (mBin oIx (mB 7) (mC (.int 0))) (mCons (mBin oAdd (mBin oIx (mB 7) (mNeg (mC (.int 1)))) (mC (.int 1))) (mCons (mC (.int 2)) mNil)))))))
    (mRet (mC (.bl false)))
    mSkip)
    (mSet 5 (mBin oAdd (mB 5) (mBin oMul (mL (mLst (mCons (mV 6) mNil))) (mCall fInt (mCons (mBin oEq (mCall fLen (mCons (mB 7) mNil)) (mC (.int 1))) mNil))))))))
    (mSeq (mIfS (mOr (mT (mBin oNotIn (mBin oIx (mB 4) (mC (.int 0))) (mB 3))) (mOr (mT (mBin oNotIn (mBin oIx (mB 4) (mC (.int 1))) (mB 3))) (mT (mBin oNe (mBin oIx (mB 4) (mC (.int 2))) (mCall fZipL (mCons (mBin oIx (mB 4) (mC (.int 0))) (mCons (mBin oIx (mB 4) (mC (.int 1))) mNil)))))))
    (mRet (mC (.bl false)))
    mSkip)
    (mRet (mBin oEq (mFn 2 g_sure_vertices (mCons (mV 1) (mCons (mV 2) mNil))) (mB 5)))))))))))
def g_law : List D → R D := runB 10 m_law
end VL
/-! M1: mirrors evaluated: a calculus of what a mirror ends with. -/
namespace VL
open PySem PySem.Spec PyProof.Rows L2
/-- the mirror ends with something that Q holds of -/
def wp (r : R Out) (Q : Out → Prop) : Prop := ∃ o, r = .ok o ∧ Q o
@[simp] theorem wp_ok {o : Out} {Q : Out → Prop} : wp (.ok o) Q ↔ Q o := ⟨fun ⟨_, e, q⟩ => by cases e; exact q, fun q => ⟨o, rfl, q⟩⟩
def thn (n : Rho → R Out) (Q : Out → Prop) : Out → Prop
  | .nx ρ => wp (n ρ) Q
  | .rt d => Q (.rt d)
  | .bk ρ => Q (.bk ρ)
  | .ct ρ => Q (.ct ρ)
@[simp] theorem thn_nx {n : Rho → R Out} {Q : Out → Prop} {ρ : Rho} : thn n Q (.nx ρ) ↔ wp (n ρ) Q := Iff.rfl
@[simp] theorem thn_rt {n : Rho → R Out} {Q : Out → Prop} {d : D} : thn n Q (.rt d) ↔ Q (.rt d) := Iff.rfl
@[simp] theorem thn_bk {n : Rho → R Out} {Q : Out → Prop} {ρ : Rho} : thn n Q (.bk ρ) ↔ Q (.bk ρ) := Iff.rfl
@[simp] theorem thn_ct {n : Rho → R Out} {Q : Out → Prop} {ρ : Rho} : thn n Q (.ct ρ) ↔ Q (.ct ρ) := Iff.rfl
theorem wp_mono {r : R Out} {P Q : Out → Prop} (h : wp r P) (k : ∀ o, P o → Q o) : wp r Q := let ⟨o, e, q⟩ := h; ⟨o, e, k o q⟩
section
variable {m n : Rho → R Out} {ρ : Rho} {Q : Out → Prop} {ma mb mc : Rho → R D} {c : Rho → R Bool} {ml : Rho → R (List D)}
@[simp] theorem wp_seq : wp (mSeq m n ρ) Q ↔ wp (m ρ) (thn n Q) := by
  unfold mSeq
  constructor
  · rintro ⟨o, e, q⟩
    cases em : m ρ with
    | bad => rw [em] at e; cases e
    | ex c => rw [em] at e; cases e
    | ok o' =>
      rw [em] at e
      cases o' with
      | nx ρ' => exact ⟨_, rfl, o, e, q⟩
      | rt d => cases e; exact ⟨_, rfl, q⟩
      | bk d => cases e; exact ⟨_, rfl, q⟩
      | ct d => cases e; exact ⟨_, rfl, q⟩
  · rintro ⟨o, e, q⟩
    rw [e]
    cases o with
    | nx ρ' => exact q
    | rt d => exact ⟨_, rfl, q⟩
    | bk d => exact ⟨_, rfl, q⟩
    | ct d => exact ⟨_, rfl, q⟩
/-- a def's value, from what its body ends with -/
theorem run_of {N : Nat} {ds : List D} {d : D} (h : ∀ Q : Out → Prop, Q (.rt d) → wp (m (ds.map A.d ++ List.replicate (N - ds.length) A.un)) Q) : runB N m ds = .ok d := by
  obtain ⟨o, e, rfl⟩ := h (fun o => o = .rt d) rfl
  unfold runB
  rw [e]
theorem run_some {N : Nat} {ds : List D} {P : D → Prop} (h : ∀ Q : Out → Prop, (∀ d, P d → Q (.rt d)) → wp (m (ds.map A.d ++ List.replicate (N - ds.length) A.un)) Q) : ∃ d, runB N m ds = .ok d ∧ P d := by
  obtain ⟨o, e, d, rfl, p⟩ := h (fun o => ∃ d, o = .rt d ∧ P d) fun d p => ⟨d, rfl, p⟩
  exact ⟨d, by unfold runB; rw [e], p⟩
theorem run_none {N : Nat} {ds : List D} (h : ∀ Q : Out → Prop, (∀ ρ, Q (.nx ρ)) → wp (m (ds.map A.d ++ List.replicate (N - ds.length) A.un)) Q) : runB N m ds = .ok .non := by
  obtain ⟨o, e, ρ, rfl⟩ := h (fun o => ∃ ρ, o = .nx ρ) fun ρ => ⟨ρ, rfl⟩
  unfold runB
  rw [e]
theorem run_raise {N : Nat} {ds : List D} {x : Str} (h : m (ds.map A.d ++ List.replicate (N - ds.length) A.un) = .ex x) : runB N m ds = .ex x := by
  unfold runB
  rw [h]
@[simp] theorem mSkip_eq : mSkip ρ = .ok (.nx ρ) := rfl
@[simp] theorem mBad_eq {α : Type} : (mBad ρ : R α) = .bad := rfl
@[simp] theorem mSet_eq {i : Nat} : mSet i ma ρ = (ma ρ).bind fun d => .ok (.nx (ρ.set i (.d d))) := rfl
@[simp] theorem mSetN_eq {i : Nat} : mSetN i ml ρ = (ml ρ).bind fun xs => .ok (.nx (ρ.set i (.m xs))) := rfl
@[simp] theorem mRet_eq : mRet ma ρ = (ma ρ).bind fun d => .ok (.rt d) := rfl
@[simp] theorem mExpr_eq : mExpr ma ρ = (ma ρ).bind fun _ => .ok (.nx ρ) := rfl
theorem mIfS_t (h : c ρ = .ok true) : mIfS c m n ρ = m ρ := by unfold mIfS; rw [h]; rfl
theorem mIfS_f (h : c ρ = .ok false) : mIfS c m n ρ = n ρ := by unfold mIfS; rw [h]; rfl
theorem wp_if {b : Bool} (h : c ρ = .ok b) (h1 : b = true → wp (m ρ) Q) (h2 : b = false → wp (n ρ) Q) : wp (mIfS c m n ρ) Q := by
  cases b with
  | true => rw [mIfS_t h]; exact h1 rfl
  | false => rw [mIfS_f h]; exact h2 rfl
theorem wp_seq_if {k : Rho → R Out} {b : Bool} (h : c ρ = .ok b) (h1 : b = true → wp (m ρ) (thn k Q)) (h2 : b = false → wp (n ρ) (thn k Q)) : wp (mSeq (mIfS c m n) k ρ) Q := wp_seq.mpr (wp_if h h1 h2)
@[simp] theorem mC_eq {d : D} : mC d ρ = .ok d := rfl
@[simp] theorem mBin_eq {f : D → D → R D} : mBin f ma mb ρ = (ma ρ).bind fun d => (mb ρ).bind fun e => f d e := rfl
@[simp] theorem mCall_eq {f : List D → R D} : mCall f ml ρ = (ml ρ).bind f := rfl
@[simp] theorem mIter_eq {f : List D → R (List D)} : mIter f ml ρ = (ml ρ).bind f := rfl
@[simp] theorem mNil_eq : mNil ρ = .ok [] := rfl
@[simp] theorem mCons_eq : mCons ma ml ρ = (ma ρ).bind fun d => (ml ρ).bind fun ds => .ok (d :: ds) := rfl
@[simp] theorem mL_eq : mL ml ρ = (ml ρ).bind fun xs => .ok (.lst xs) := rfl
@[simp] theorem mTru_eq : mTru ma ρ = (ma ρ).bind tru := rfl
@[simp] theorem mNot_eq : mNot c ρ = (c ρ).bind fun b => .ok (!b) := rfl
@[simp] theorem mNotQ_eq : mNotQ c ρ = (c ρ).bind fun b => .ok (.bl (!b)) := rfl
@[simp] theorem mNotT_eq : mNotT ma ρ = (ma ρ).bind fun d => (tru d).bind fun k => .ok (.bl (!k)) := rfl
@[simp] theorem mTest_eq {b : Bool} : mTest b ma ρ = (ma ρ).bind fun d => .ok (if b = true then isNon d else !isNon d) := rfl
@[simp] theorem mIsN_eq : mIsN ma ρ = (ma ρ).bind fun d => .ok (.bl (isNon d)) := rfl
@[simp] theorem mNotN_eq : mNotN ma ρ = (ma ρ).bind fun d => .ok (.bl (!isNon d)) := rfl
@[simp] theorem mIsi_eq {T : String} : mIsi T ma ρ = (ma ρ).bind (isT T) := rfl
@[simp] theorem mFn_eq {k : Nat} {g : List D → R D} : mFn k g ml ρ = (ml ρ).bind fun ds => if ds.length = k then g ds else .bad := rfl
@[simp] theorem mSl_eq {o o' : Rho → R (Option Int)} : mSl ma o o' ρ = (ma ρ).bind fun d => (o ρ).bind fun lo => (o' ρ).bind fun hi => oSl d lo hi := rfl
@[simp] theorem mNoPart_eq : mNoPart ρ = .ok none := rfl
@[simp] theorem mYes_eq : mYes ρ = .ok true := rfl
@[simp] theorem mRaise_eq {x : Str} : mRaise x ρ = .ex x := rfl
def boolOf (d : D) : R Bool := match d with
  | .bl k => .ok k
  | _ => .bad
@[simp] theorem boolOf_bl {b : Bool} : boolOf (.bl b) = .ok b := rfl
@[simp] theorem mT_eq : mT ma ρ = (ma ρ).bind boolOf := rfl
theorem mAnd_eq {c' : Rho → R Bool} : mAnd c c' ρ = (c ρ).bind fun b => if b = true then c' ρ else .ok false := rfl
theorem mOr_eq {c' : Rho → R Bool} : mOr c c' ρ = (c ρ).bind fun b => if b = true then .ok true else c' ρ := rfl
/-- and, or: both sides told -/
theorem mAnd_ok {c' : Rho → R Bool} {a b : Bool} (h : c ρ = .ok a) (h' : a = true → c' ρ = .ok b) : mAnd c c' ρ = .ok (a && b) := by
  rw [mAnd_eq, h]
  cases a with
  | false => rfl
  | true => exact h' rfl
theorem mOr_ok {c' : Rho → R Bool} {a b : Bool} (h : c ρ = .ok a) (h' : a = false → c' ρ = .ok b) : mOr c c' ρ = .ok (a || b) := by
  rw [mOr_eq, h]
  cases a with
  | true => rfl
  | false => exact h' rfl
theorem mAndV_ok {a b : Bool} (h : ma ρ = .ok (.bl a)) (h' : a = true → mb ρ = .ok (.bl b)) : mAndV ma mb ρ = .ok (.bl (a && b)) := by
  unfold mAndV
  rw [h]
  cases a with
  | false => rfl
  | true => exact h' rfl
theorem mOrV_ok {a b : Bool} (h : ma ρ = .ok (.bl a)) (h' : a = false → mb ρ = .ok (.bl b)) : mOrV ma mb ρ = .ok (.bl (a || b)) := by
  unfold mOrV
  rw [h]
  cases a with
  | true => rfl
  | false => exact h' rfl
theorem mIf_t {α : Type} {x y : Rho → R α} (h : c ρ = .ok true) : mIf c x y ρ = x ρ := by unfold mIf; rw [h]; rfl
theorem mIf_f {α : Type} {x y : Rho → R α} (h : c ρ = .ok false) : mIf c x y ρ = y ρ := by unfold mIf; rw [h]; rfl
theorem mChain_le {i j k : Int} (h1 : ma ρ = .ok (.int i)) (h2 : mb ρ = .ok (.int j)) (h3 : mc ρ = .ok (.int k)) : mChain oLe oLe ma mb mc ρ = .ok (.bl (decide (i ≤ j ∧ j ≤ k))) := by
  unfold mChain
  rw [h1, R.bind_ok, h2, R.bind_ok]
  show (R.ok (D.bl (decide (i ≤ j)))).bind _ = _
  rw [R.bind_ok]
  by_cases h : i ≤ j
  · rw [decide_eq_true h]
    show (mc ρ).bind _ = _
    rw [h3, R.bind_ok]
    show R.ok (D.bl (decide (j ≤ k))) = _
    simp [h]
  · rw [decide_eq_false h]
    simp [h]
theorem mTup_ok {ds : List D} (h : ml ρ = .ok ds) (hl : ds.length ≤ 1000000) : mTup ml ρ = .ok (.tup ds) := by unfold mTup; rw [h, R.bind_ok, if_pos hl]
theorem mLst_ok {ds : List D} (h : ml ρ = .ok ds) (hl : ds.length ≤ 1000000) : mLst ml ρ = .ok ds := by unfold mLst; rw [h, R.bind_ok, if_pos hl]
/-! ### data -/
theorem isT_of {T : String} {d : D} {b : Bool} (hd : ∀ ns, d ≠ .scr ns) (h : kitB (tyName d) T = some b) : isT T d = .ok (.bl b) := by
  have e1 : isT T d = ofO ((kitB (tyName d) T).map D.bl) := by cases d <;> first | rfl | exact absurd rfl (hd _)
  rw [e1, h]
  rfl
@[simp] theorem isT_int_int {i : Int} : isT "int" (.int i) = .ok (.bl true) := isT_of (fun _ z => nomatch z) (show kitB "int" "int" = some true by decide +kernel)
@[simp] theorem isT_bool_int {i : Int} : isT "bool" (.int i) = .ok (.bl false) := isT_of (fun _ z => nomatch z) (show kitB "int" "bool" = some false by decide +kernel)
@[simp] theorem isT_int_bl {i : Bool} : isT "int" (.bl i) = .ok (.bl true) := isT_of (fun _ z => nomatch z) (show kitB "bool" "int" = some true by decide +kernel)
@[simp] theorem isT_bool_bl {i : Bool} : isT "bool" (.bl i) = .ok (.bl true) := isT_of (fun _ z => nomatch z) (show kitB "bool" "bool" = some true by decide +kernel)
@[simp] theorem isT_int_non : isT "int" .non = .ok (.bl false) := isT_of (fun _ z => nomatch z) (show kitB "NoneType" "int" = some false by decide +kernel)
@[simp] theorem isT_int_str {x : Str} : isT "int" (.str x) = .ok (.bl false) := isT_of (fun _ z => nomatch z) (show kitB "str" "int" = some false by decide +kernel)
@[simp] theorem isT_int_tup {x : List D} : isT "int" (.tup x) = .ok (.bl false) := isT_of (fun _ z => nomatch z) (show kitB "tuple" "int" = some false by decide +kernel)
@[simp] theorem isT_int_lst {x : List D} : isT "int" (.lst x) = .ok (.bl false) := isT_of (fun _ z => nomatch z) (show kitB "list" "int" = some false by decide +kernel)
@[simp] theorem isT_tup_tup {x : List D} : isT "tuple" (.tup x) = .ok (.bl true) := isT_of (fun _ z => nomatch z) (show kitB "tuple" "tuple" = some true by decide +kernel)
@[simp] theorem isT_tup_int {i : Int} : isT "tuple" (.int i) = .ok (.bl false) := isT_of (fun _ z => nomatch z) (show kitB "int" "tuple" = some false by decide +kernel)
@[simp] theorem isT_tup_bl {i : Bool} : isT "tuple" (.bl i) = .ok (.bl false) := isT_of (fun _ z => nomatch z) (show kitB "bool" "tuple" = some false by decide +kernel)
@[simp] theorem isT_tup_non : isT "tuple" .non = .ok (.bl false) := isT_of (fun _ z => nomatch z) (show kitB "NoneType" "tuple" = some false by decide +kernel)
@[simp] theorem isT_tup_str {x : Str} : isT "tuple" (.str x) = .ok (.bl false) := isT_of (fun _ z => nomatch z) (show kitB "str" "tuple" = some false by decide +kernel)
@[simp] theorem isT_tup_lst {x : List D} : isT "tuple" (.lst x) = .ok (.bl false) := isT_of (fun _ z => nomatch z) (show kitB "list" "tuple" = some false by decide +kernel)
/-! ### slots -/
def vw : Option A → R D
  | some (.d x) => .ok x
  | _ => .bad
def bw : Option A → R D
  | some (.d x) => .ok x
  | some (.m xs) => .ok (.lst xs)
  | some (.md ks vs) => .ok (.dic ks vs)
  | _ => .bad
@[simp] theorem vw_d {x : D} : vw (some (.d x)) = .ok x := rfl
@[simp] theorem bw_d {x : D} : bw (some (.d x)) = .ok x := rfl
@[simp] theorem bw_m {x : List D} : bw (some (.m x)) = .ok (.lst x) := rfl
@[simp] theorem bw_md {ks : List Int} {x : List D} : bw (some (.md ks x)) = .ok (.dic ks x) := rfl
@[simp] theorem mV_eq {i : Nat} : mV i ρ = vw ρ[i]? := by
  unfold mV vw
  split <;> first | rfl | (split <;> first | rfl | simp_all)
@[simp] theorem mB_eq {i : Nat} : mB i ρ = bw ρ[i]? := by
  unfold mB bw
  split <;> first | rfl | (split <;> first | rfl | simp_all)
theorem mApp_ok {i : Nat} {xs : List D} {d : D} (h : ρ[i]? = some (.m xs)) (hd : ma ρ = .ok d) (hl : xs.length < 1000000) : mApp i ma ρ = .ok (.nx (ρ.set i (.m (xs ++ [d])))) := by
  unfold mApp
  rw [h]
  simp only [hd, R.bind_ok]
  exact if_pos hl
theorem mExt_ok {i : Nat} {xs ys : List D} (h : ρ[i]? = some (.m xs)) (hd : ma ρ = .ok (.lst ys)) (hl : xs.length + ys.length ≤ 1000000) : mExt i ma ρ = .ok (.nx (ρ.set i (.m (xs ++ ys)))) := by
  unfold mExt
  rw [h]
  simp only [hd, R.bind_ok]
  exact if_pos hl
theorem ixN_nat {n k : Nat} (h : k < n) : ixN n (k : Int) = some k := by
  unfold ixN
  rw [if_pos (by omega), if_pos (by omega)]
  simp
theorem atI_nat {α : Type} {xs : List α} {k : Nat} (h : k < xs.length) : atI xs (k : Int) = xs[k]? := by
  unfold atI
  rw [ixN_nat h]
  rfl
theorem mPut_ok {i k : Nat} {xs : List D} {d : D} (h : ρ[i]? = some (.m xs)) (hd : mb ρ = .ok d) (hk : ma ρ = .ok (.int (k : Int))) (hl : k < xs.length) : mPut i ma mb ρ = .ok (.nx (ρ.set i (.m (xs.set k d)))) := by
  unfold mPut
  rw [hd, R.bind_ok, h]
  simp only [hk, R.bind_ok, ixN_nat hl]
theorem mPop0_ok {i j : Nat} {xs : List D} {d : D} (h : ρ[j]? = some (.m (d :: xs))) : mPop0 i j ρ = .ok (.nx ((ρ.set j (.m xs)).set i (.d d))) := by
  unfold mPop0
  rw [h]
theorem mRetN_m {i : Nat} {xs : List D} (h : ρ[i]? = some (.m xs)) : mRetN i ρ = .ok (.rt (.lst xs)) := by unfold mRetN; rw [h]
theorem mRetN_d {i : Nat} {x : D} (h : ρ[i]? = some (.d x)) : mRetN i ρ = .ok (.rt x) := by unfold mRetN; rw [h]
theorem mMove_d {i j : Nat} {x : D} (h : ρ[j]? = some (.d x)) : mMove i j ρ = .ok (.nx (ρ.set i (.d x))) := by unfold mMove; rw [h]
theorem mMove_m {i j : Nat} {xs : List D} (h : ρ[j]? = some (.m xs)) : mMove i j ρ = .ok (.nx ((ρ.set j (.d (.lst xs))).set i (.d (.lst xs)))) := by unfold mMove; rw [h]
theorem mRep_ok {xs : List D} {k : Nat} (h : ma ρ = .ok (.lst xs)) (h2 : mb ρ = .ok (.int (k : Int))) (hx : xs.length ≤ 1000) (hk : k ≤ 1000) : mRep ma mb ρ = .ok (List.replicate k xs).flatten := by
  unfold mRep
  rw [h, R.bind_ok, h2, R.bind_ok]
  show (if (k : Int) ≤ 1000 ∧ xs.length ≤ 1000 ∧ -1000 ≤ (k : Int) then R.ok (List.replicate (k : Int).toNat xs).flatten else .bad) = _
  rw [if_pos ⟨by omega, hx, by omega⟩]
  simp
/-! ### operators -/
@[simp] theorem oSub_int {i j : Int} : oSub (.int i) (.int j) = .ok (.int (i - j)) := rfl
@[simp] theorem oAdd_int {i j : Int} : oAdd (.int i) (.int j) = .ok (.int (i + j)) := rfl
@[simp] theorem oLt_int {i j : Int} : oLt (.int i) (.int j) = .ok (.bl (decide (i < j))) := rfl
@[simp] theorem oGt_int {i j : Int} : oGt (.int i) (.int j) = .ok (.bl (decide (j < i))) := rfl
@[simp] theorem oLe_int {i j : Int} : oLe (.int i) (.int j) = .ok (.bl (decide (i ≤ j))) := rfl
@[simp] theorem oGe_int {i j : Int} : oGe (.int i) (.int j) = .ok (.bl (decide (j ≤ i))) := rfl
theorem oMod_int {i j : Int} (h : 0 < j) : oMod (.int i) (.int j) = .ok (.int (i % j)) := by
  show (if okMod i j = true then R.ok (D.int (i % j)) else .bad) = _
  rw [if_pos (show okMod i j = true from decide_eq_true h)]
theorem oDiv_int {i j : Int} (h : 0 < j) (h2 : j < 1073741824) : oDiv (.int i) (.int j) = .ok (.int (i / j)) := by
  show (if okDiv i j = true then R.ok (D.int (i / j)) else .bad) = _
  rw [if_pos (by unfold okDiv; simp [h, h2])]
theorem oMul_int {i j : Int} (h : (-18446744073709551616 < i ∧ i < 18446744073709551616) ∨ (-18446744073709551616 < j ∧ j < 18446744073709551616)) : oMul (.int i) (.int j) = .ok (.int (i * j)) := by
  show (if okMul i j = true then R.ok (D.int (i * j)) else .bad) = _
  rw [if_pos (by unfold okMul; simp only [Bool.or_eq_true, Bool.and_eq_true, decide_eq_true_eq]; exact h)]
theorem oAdd_tup {a b : List D} (h : a.length + b.length ≤ 1000000) : oAdd (.tup a) (.tup b) = .ok (.tup (a ++ b)) := if_pos h
theorem oAdd_lst {a b : List D} (h : a.length + b.length ≤ 1000000) : oAdd (.lst a) (.lst b) = .ok (.lst (a ++ b)) := if_pos h
@[simp] theorem oEq_int {i j : Int} : oEq (.int i) (.int j) = .ok (.bl (decide (i = j))) := by
  unfold oEq okEq eqD
  simp only [scalS, D.py, PyData.eqv, Bool.true_or, if_true]
  by_cases h : i = j <;> simp [h]
@[simp] theorem oNe_int {i j : Int} : oNe (.int i) (.int j) = .ok (.bl (decide (i ≠ j))) := by
  unfold oNe okEq eqD
  simp only [scalS, D.py, PyData.eqv, Bool.true_or, if_true]
  by_cases h : i = j <;> simp [h]
theorem oIx_lst {xs : List D} {k : Nat} {d : D} (h : xs[k]? = some d) : oIx (.lst xs) (.int (k : Int)) = .ok d := by
  show ofO (atI xs (k : Int)) = _
  rw [atI_nat (List.getElem?_eq_some_iff.mp h).1, h]
  rfl
theorem oIx_tup {xs : List D} {k : Nat} {d : D} (h : xs[k]? = some d) : oIx (.tup xs) (.int (k : Int)) = .ok d := by
  show ofO (atI xs (k : Int)) = _
  rw [atI_nat (List.getElem?_eq_some_iff.mp h).1, h]
  rfl
@[simp] theorem oIx_tup0 {x : D} {xs : List D} : oIx (.tup (x :: xs)) (.int 0) = .ok x := oIx_tup (k := 0) rfl
@[simp] theorem oIx_tup1 {x y : D} {xs : List D} : oIx (.tup (x :: y :: xs)) (.int 1) = .ok y := oIx_tup (k := 1) rfl
@[simp] theorem oIx_lst0 {x : D} {xs : List D} : oIx (.lst (x :: xs)) (.int 0) = .ok x := oIx_lst (k := 0) rfl
theorem oIx_scr {ns : List Int} {k : Nat} {n : Int} (h : ns[k]? = some n) : oIx (.scr ns) (.int (k : Int)) = .ok (.int n) := by
  show ofO ((atI ns (k : Int)).map D.int) = _
  rw [atI_nat (List.getElem?_eq_some_iff.mp h).1, h]
  rfl
@[simp] theorem fLen_tup {xs : List D} : fLen [.tup xs] = .ok (.int xs.length) := rfl
@[simp] theorem fLen_lst {xs : List D} : fLen [.lst xs] = .ok (.int xs.length) := rfl
@[simp] theorem fLen_scr {xs : List Int} : fLen [.scr xs] = .ok (.int xs.length) := rfl
@[simp] theorem fAbs_int {i : Int} : fAbs [.int i] = .ok (.int (if i < 0 then -i else i)) := rfl
@[simp] theorem fMin2_int {i j : Int} : fMin2 [.int i, .int j] = .ok (.int (if j < i then j else i)) := rfl
@[simp] theorem fMax2_int {i j : Int} : fMax2 [.int i, .int j] = .ok (.int (if j > i then j else i)) := rfl
@[simp] theorem fInt_bl {b : Bool} : fInt [.bl b] = .ok (.int (if b then 1 else 0)) := rfl
@[simp] theorem fInt_int {b : Int} : fInt [.int b] = .ok (.int b) := rfl
@[simp] theorem fTuple_lst {xs : List D} : fTuple [.lst xs] = .ok (.tup xs) := rfl
@[simp] theorem fTuple_tup {xs : List D} : fTuple [.tup xs] = .ok (.tup xs) := rfl
@[simp] theorem fList_lst {xs : List D} : fList [.lst xs] = .ok (.lst xs) := rfl
@[simp] theorem fList_tup {xs : List D} : fList [.tup xs] = .ok (.lst xs) := rfl
@[simp] theorem tru_bl {b : Bool} : tru (.bl b) = .ok b := rfl
@[simp] theorem tru_lst {xs : List D} : tru (.lst xs) = .ok (!xs.isEmpty) := rfl
@[simp] theorem tru_tup {xs : List D} : tru (.tup xs) = .ok (!xs.isEmpty) := rfl
@[simp] theorem isNon_non : isNon .non = true := rfl
@[simp] theorem isNon_int {i : Int} : isNon (.int i) = false := rfl
@[simp] theorem isNon_tup {i : List D} : isNon (.tup i) = false := rfl
@[simp] theorem isNon_str {i : Str} : isNon (.str i) = false := rfl
@[simp] theorem mNeg_eq {i : Int} (h : ma ρ = .ok (.int i)) : mNeg ma ρ = .ok (.int (-i)) := by unfold mNeg; rw [h]; rfl
theorem fSum_tup {ns : List Int} : fSum [.tup (ns.map D.int)] = .ok (.int ns.sum) := by show intsOk _ _ = _; rw [intsOk_ints]
theorem fSum_lst {ns : List Int} : fSum [.lst (ns.map D.int)] = .ok (.int ns.sum) := by show intsOk _ _ = _; rw [intsOk_ints]
@[simp] theorem fSum_two {a b : Int} : fSum [.tup [.int a, .int b]] = .ok (.int (a + b)) := by
  have h := fSum_tup (ns := [a, b])
  simpa using h
theorem fRange1_nat {k : Nat} (h : k ≤ 1000000) : fRange1 [.int (k : Int)] = .ok ((List.range k).map fun i => .int (i : Nat)) := by
  show (if okRange (k : Int) = true then R.ok (rangeD 0 (k : Int).toNat) else .bad) = _
  rw [if_pos (by unfold okRange; simp; omega)]
  simp [rangeD]
theorem fRange2_nat {i k : Nat} (h : k ≤ 1000000) (h2 : i ≤ 1000000) : fRange2 [.int (i : Int), .int (k : Int)] = .ok ((List.range' i (k - i)).map fun i => .int (i : Nat)) := by
  show (if (okRange (i : Int) && okRange (k : Int)) = true then R.ok (rangeD i ((k : Int) - (i : Int)).toNat) else .bad) = _
  rw [if_pos (by unfold okRange; simp; omega)]
  have e : ((k : Int) - (i : Int)).toNat = k - i := by omega
  rw [e]
  simp [rangeD, List.range'_eq_map_range, Function.comp_def]
/-! ### comprehensions -/
theorem lcGo_ok {f : D → R (Option D)} {h : D → Option D} : ∀ {ds : List D}, (∀ d ∈ ds, f d = .ok (h d)) → lcGo f ds = .ok (ds.filterMap h)
  | [], _ => rfl
  | d :: ds, H => by
    have e1 := H d List.mem_cons_self
    have e2 := lcGo_ok (ds := ds) fun x hx => H x (List.mem_cons_of_mem _ hx)
    unfold lcGo
    rw [e1]
    cases hd : h d with
    | none => simp [hd, e2]
    | some y => simp [hd, e2]
theorem mLc_ok {own : List Nat} {mi : Rho → R (List D)} {t : D → Rho → R Rho} {q : Rho → R Bool} {me : Rho → R D} {ds : List D} {h : D → Option D} (hi : mi ρ = .ok ds) (hl : ds.length ≤ 1000000) (H : ∀ d ∈ ds, lcf t q me (wipeR ρ own) d = .ok (h d)) :
    mLc own mi t q me ρ = .ok (.lst (ds.filterMap h)) := by
  unfold mLc
  rw [hi, R.bind_ok, lcGo_ok H]
  exact if_pos (Nat.le_trans (List.length_filterMap_le _ _) hl)
theorem lcf_t {t : D → Rho → R Rho} {q : Rho → R Bool} {me : Rho → R D} {d y : D} {ρ1 : Rho} (h1 : t d ρ = .ok ρ1) (h2 : q ρ1 = .ok true) (h3 : me ρ1 = .ok y) : lcf t q me ρ d = .ok (some y) := by unfold lcf; rw [h1]; simp only [h2, h3]
theorem lcf_f {t : D → Rho → R Rho} {q : Rho → R Bool} {me : Rho → R D} {d : D} {ρ1 : Rho} (h1 : t d ρ = .ok ρ1) (h2 : q ρ1 = .ok false) : lcf t q me ρ d = .ok none := by unfold lcf; rw [h1]; simp only [h2]
/-- the test told by b, the element by y where it is wanted -/
theorem lcf_ok {t : D → Rho → R Rho} {q : Rho → R Bool} {me : Rho → R D} {d y : D} {b : Bool} {ρ1 : Rho} (h1 : t d ρ = .ok ρ1) (h2 : q ρ1 = .ok b) (h3 : b = true → me ρ1 = .ok y) : lcf t q me ρ d = .ok (if b = true then some y else none) := by
  cases b with
  | true => rw [lcf_t h1 h2 (h3 rfl)]; rfl
  | false => rw [lcf_f h1 h2]; rfl
@[simp] theorem tName_eq {i : Nat} {d : D} : tName i d ρ = .ok (ρ.set i (.d d)) := rfl
@[simp] theorem tTuple2_eq {i j : Nat} {d e : D} : tTuple 2 (tsCons (tName i) (tsCons (tName j) tsNil)) (.tup [d, e]) ρ = .ok ((ρ.set i (.d d)).set j (.d e)) := rfl
/-! ### loops -/
/-- for, by what holds behind the items pre -/
theorem for_ind {t : D → Rho → R Rho} {mb : Rho → R Out} (P : List D → Rho → Prop) {K : D → Prop} : ∀ (ds pre : List D) (ρ : Rho), P pre ρ →
    (∀ pre' d r ρ, pre ++ ds = pre' ++ d :: r → P pre' ρ → ∃ ρ1, t d ρ = .ok ρ1 ∧ wp (mb ρ1) fun o => match o with
      | .nx ρ2 => P (pre' ++ [d]) ρ2
      | .ct ρ2 => P (pre' ++ [d]) ρ2
      | .rt d => K d
      | .bk _ => False) →
    wp (forGo t mb ds ρ) fun o => match o with
      | .nx ρ2 => P (pre ++ ds) ρ2
      | .rt d => K d
      | _ => False
  | [], pre, ρ, h, _ => by
    rw [forGo, wp_ok, List.append_nil]
    exact h
  | d :: ds, pre, ρ, h, H => by
    obtain ⟨ρ1, e1, o, e2, q⟩ := H pre d ds ρ rfl h
    rw [forGo, e1]
    simp only [e2]
    cases o with
    | nx ρ2 =>
      have z := for_ind P (K := K) ds (pre ++ [d]) ρ2 q fun pre' d' r ρ' e p => H pre' d' r ρ' (by rw [← e, List.append_assoc]; rfl) p
      rw [List.append_assoc] at z
      exact z
    | ct ρ2 =>
      have z := for_ind P (K := K) ds (pre ++ [d]) ρ2 q fun pre' d' r ρ' e p => H pre' d' r ρ' (by rw [← e, List.append_assoc]; rfl) p
      rw [List.append_assoc] at z
      exact z
    | rt d => exact ⟨_, rfl, q⟩
    | bk ρ2 => exact q.elim
/-- for without return -/
theorem wp_for {t : D → Rho → R Rho} {mb : Rho → R Out} {mi : Rho → R (List D)} {ds : List D} (P : List D → Rho → Prop) (hi : mi ρ = .ok ds) (h0 : P [] ρ)
    (H : ∀ pre d r ρ, ds = pre ++ d :: r → P pre ρ → ∃ ρ1, t d ρ = .ok ρ1 ∧ ∀ Q' : Out → Prop, (∀ ρ2, P (pre ++ [d]) ρ2 → Q' (.nx ρ2)) → wp (mb ρ1) Q') (hQ : ∀ ρ, P ds ρ → Q (.nx ρ)) : wp (mFor mi t mb ρ) Q := by
  unfold mFor
  rw [hi, R.bind_ok]
  refine wp_mono (for_ind P (K := fun _ => False) ds [] ρ h0 fun pre d r ρ e p => ?_) fun o q => ?_
  · obtain ⟨ρ1, e1, h1⟩ := H pre d r ρ (by simpa using e) p
    exact ⟨ρ1, e1, h1 _ fun ρ2 p2 => p2⟩
  · cases o with
    | nx ρ2 => exact hQ ρ2 (by simpa using q)
    | rt d => exact q.elim
    | bk _ => exact q.elim
    | ct _ => exact q.elim
/-- for with return -/
theorem wp_forR {t : D → Rho → R Rho} {mb : Rho → R Out} {mi : Rho → R (List D)} {ds : List D} (P : List D → Rho → Prop) (hi : mi ρ = .ok ds) (h0 : P [] ρ)
    (H : ∀ pre d r ρ, ds = pre ++ d :: r → P pre ρ → ∃ ρ1, t d ρ = .ok ρ1 ∧ ∀ Q' : Out → Prop, (∀ ρ2, P (pre ++ [d]) ρ2 → Q' (.nx ρ2)) → (∀ x, Q (.rt x) → Q' (.rt x)) → wp (mb ρ1) Q') (hQ : ∀ ρ, P ds ρ → Q (.nx ρ)) : wp (mFor mi t mb ρ) Q := by
  unfold mFor
  rw [hi, R.bind_ok]
  refine wp_mono (for_ind P (K := fun x => Q (.rt x)) ds [] ρ h0 fun pre d r ρ e p => ?_) fun o q => ?_
  · obtain ⟨ρ1, e1, h1⟩ := H pre d r ρ (by simpa using e) p
    exact ⟨ρ1, e1, h1 _ (fun ρ2 p2 => p2) fun x qx => qx⟩
  · cases o with
    | nx ρ2 => exact hQ ρ2 (by simpa using q)
    | rt d => exact q
    | bk _ => exact q.elim
    | ct _ => exact q.elim
/-- while, with a measure -/
theorem wh_ind {c : Rho → R Bool} {mb : Rho → R Out} (P : Nat → Rho → Prop) (H : ∀ k ρ, P k ρ → ∃ b, c ρ = .ok b ∧ (b = true → ∀ Q' : Out → Prop, (∀ ρ2 k2, k2 < k → P k2 ρ2 → Q' (.nx ρ2)) → wp (mb ρ) Q') ∧ (b = false → Q (.nx ρ))) :
    ∀ (n k : Nat) (ρ : Rho), k < n → P k ρ → wp (whGo c mb n ρ) Q
  | 0, _, _, h, _ => absurd h (Nat.not_lt_zero _)
  | n + 1, k, ρ, hk, p => by
    obtain ⟨b, eb, h1, h2⟩ := H k ρ p
    rw [whGo, eb, R.bind_ok]
    cases b with
    | false => exact ⟨_, rfl, h2 rfl⟩
    | true =>
      obtain ⟨o, eo, ρ2, k2, rfl, hk2, p2⟩ := h1 rfl (fun o => ∃ ρ2 k2, o = .nx ρ2 ∧ k2 < k ∧ P k2 ρ2) fun ρ2 k2 h p => ⟨ρ2, k2, rfl, h, p⟩
      simp only [if_true, eo]
      exact wh_ind P H n k2 ρ2 (by omega) p2
theorem wp_while {c : Rho → R Bool} {mb : Rho → R Out} (P : Nat → Rho → Prop) (k : Nat) (hk : k < 1000000) (h0 : P k ρ)
    (H : ∀ k ρ, P k ρ → ∃ b, c ρ = .ok b ∧ (b = true → ∀ Q' : Out → Prop, (∀ ρ2 k2, k2 < k → P k2 ρ2 → Q' (.nx ρ2)) → wp (mb ρ) Q') ∧ (b = false → Q (.nx ρ))) : wp (mWhile c mb ρ) Q := wh_ind P H fuel k ρ (by unfold fuel; exact hk) h0
end
end VL

/-! M2: the law's draws, small defs. -/
namespace VL
open PySem PySem.Spec PyProof.Rows L2
abbrev nD (k : Nat) : D := .int (k : Int)
def cel (ns : List Int) (k : Nat) : Int := ns.getD k 0
theorem oPow_18 : oPow (.int 10) (.int 18) = .ok (.int (10 ^ 18)) := by
  show (if okPow 10 18 = true then R.ok (D.int (10 ^ (18 : Int).toNat)) else .bad) = _
  rw [if_pos (by decide)]
  rfl
theorem cell_eq (ns : List Int) (k : Nat) : g__law_cell [.scr ns, nD k] = .ok (.int (cel ns k)) := by
  refine run_of fun Q hQ => ?_
  simp only [List.map, List.length_cons, List.length_nil, List.replicate, List.append]
  unfold m__law_cell
  refine wp_seq_if (b := decide (k < ns.length)) (by simp) (fun h => ?_) (fun h => ?_)
  · have h := of_decide_eq_true h
    have e : ns[k]? = some (cel ns k) := by unfold cel; rw [List.getD_eq_getElem?_getD, List.getElem?_eq_getElem h]; rfl
    simp [oIx_scr e, hQ]
  · have h := of_decide_eq_false h
    have e : cel ns k = 0 := by unfold cel; rw [List.getD_eq_getElem?_getD, List.getElem?_eq_none (by omega)]; rfl
    rw [e] at hQ
    simp [hQ]
theorem row_eq (ns : List Int) (at_ : Nat) : ∃ ds : List Nat, ds.length = 60 ∧ (∀ d ∈ ds, d < 1000) ∧ g__law_row [.scr ns, nD at_] = .ok (.lst (ds.map nD)) := by
  have main : ∃ d, g__law_row [.scr ns, nD at_] = .ok d ∧ ∃ ds : List Nat, ds.length = 60 ∧ (∀ d ∈ ds, d < 1000) ∧ d = .lst (ds.map nD) := by
    refine run_some fun Q hQ => ?_
    simp only [List.map, List.length_cons, List.length_nil, List.replicate, List.append]
    unfold m__law_row
    simp [cell_eq, mLst]
    refine wp_for (ds := (List.range 60).map fun i => nD i) (fun pre ρ => ∃ (cell : Int) (ds : List Nat) (tm : A), ρ = [.d (.scr ns), .d (nD at_), .d (.int cell), .m (ds.map nD), tm] ∧ ds.length = pre.length ∧ ∀ d ∈ ds, d < 1000)
      (by simp; exact fRange1_nat (k := 60) (by omega)) ⟨_, [], .un, rfl, rfl, by simp⟩ ?_ ?_
    · rintro pre d r ρ e ⟨cell, ds, tm, rfl, hl, hd⟩
      have hmem : d ∈ (List.range 60).map fun i => nD i := by rw [e]; simp
      obtain ⟨i, hi, rfl⟩ := List.mem_map.mp hmem
      have hlen : pre.length < 60 := by
        have := congrArg List.length e
        simp at this
        omega
      refine ⟨_, rfl, fun Q' hQ' => ?_⟩
      have fin : ∀ (x : Int), ∃ k : Nat, k < 1000 ∧ x % 1000 = (k : Int) := fun x => ⟨(x % 1000).toNat, by omega, by omega⟩
      have step : ∀ (k : Nat), k < 1000 → (ds.map nD ++ [nD k]) = (ds ++ [k]).map nD ∧ (ds ++ [k]).length = (pre ++ [nD i]).length ∧ ∀ d ∈ ds ++ [k], d < 1000 := fun k hk => by
        refine ⟨by simp, by simp [hl], fun d hd' => ?_⟩
        rcases List.mem_append.mp hd' with h | h
        · exact hd d h
        · rw [List.mem_singleton.mp h]; exact hk
      obtain ⟨j, hj⟩ : ∃ j : Nat, ((at_ : Int) + 1 + (i : Int)) % 20 = (j : Int) := ⟨(((at_ : Int) + 1 + (i : Int)) % 20).toNat, by omega⟩
      refine wp_if (b := decide (cel ns at_ < 10 ^ 18)) (by simp [cell_eq, oPow_18]) (fun _ => ?_) (fun _ => ?_)
      · simp [cell_eq, oMul_int, oMod_int, hj]
        generalize ((cell * 48271 + 131 * (i : Int) + 7 + cel ns j) % 2147483647) = c'
        obtain ⟨k, hk, ek⟩ := fin (c' / 11)
        obtain ⟨s1, s2, s3⟩ := step k hk
        rw [mApp_ok (xs := ds.map nD) (d := nD k) rfl (by simp [oDiv_int, oMod_int, ek]) (by simp; omega), wp_ok]
        exact hQ' _ ⟨c', ds ++ [k], _, by rw [s1]; rfl, s2, s3⟩
      · obtain ⟨k, hk, ek⟩ := fin cell
        obtain ⟨s1, s2, s3⟩ := step k hk
        rw [wp_seq, mApp_ok (xs := ds.map nD) (d := nD k) rfl (by simp [oMod_int, ek]) (by simp; omega), wp_ok, s1]
        simp [oDiv_int]
        exact hQ' _ ⟨_, ds ++ [k], _, by simp; exact ⟨rfl, rfl⟩, s2, s3⟩
    · rintro ρ ⟨cell, ds, tm, rfl, hl, hd⟩
      simp only [thn_nx]
      rw [mRetN_m (xs := ds.map nD) rfl, wp_ok]
      exact hQ _ ⟨ds, by simpa using hl, hd, rfl⟩
  obtain ⟨d, h, ds, h1, h2, rfl⟩ := main
  exact ⟨ds, h1, h2, h⟩
end VL

/-! M3: equality, membership and order of data that are ints, tuples of ints. -/
namespace VL
open PySem PySem.Spec PyProof.Rows L2
/-- a tuple of ints -/
abbrev hD (h : List Int) : D := .tup (h.map D.int)
/-- what is told: None or an int -/
def oD : Option Int → D
  | none => .non
  | some i => .int i
/-- the order of tuples of ints -/
def lexI : List Int → List Int → Bool
  | [], _ :: _ => true
  | _, [] => false
  | x :: xs, y :: ys => decide (x < y) || (decide (x = y) && lexI xs ys)
theorem lexI_irrefl : ∀ x : List Int, lexI x x = false
  | [] => rfl
  | x :: xs => by simp [lexI, lexI_irrefl xs]
theorem lexI_trans : ∀ {x y z : List Int}, lexI x y = true → lexI y z = true → lexI x z = true
  | [], [], _, h, _ => by cases h
  | [], _ :: _, [], _, h => by cases h
  | [], _ :: _, _ :: _, _, _ => rfl
  | _ :: _, [], _, h, _ => by cases h
  | _ :: _, _ :: _, [], _, h => by cases h
  | a :: x, b :: y, c :: z, h1, h2 => by
    simp only [lexI, Bool.or_eq_true, Bool.and_eq_true, decide_eq_true_eq] at h1 h2 ⊢
    rcases h1 with h1 | ⟨h1, h1'⟩
    · rcases h2 with h2 | ⟨h2, _⟩
      · exact .inl (by omega)
      · exact .inl (by omega)
    · rcases h2 with h2 | ⟨h2, h2'⟩
      · exact .inl (by omega)
      · exact .inr ⟨by omega, lexI_trans h1' h2'⟩
theorem lexI_total : ∀ {x y : List Int}, lexI x y = false → lexI y x = false → x = y
  | [], [], _, _ => rfl
  | [], _ :: _, h, _ => by cases h
  | _ :: _, [], _, h => by cases h
  | a :: x, b :: y, h1, h2 => by
    simp only [lexI, Bool.or_eq_false_iff, Bool.and_eq_false_iff, decide_eq_false_iff_not] at h1 h2
    obtain rfl : a = b := by omega
    have e1 : lexI x y = false := by rcases h1.2 with h | h; exact absurd rfl h; exact h
    have e2 : lexI y x = false := by rcases h2.2 with h | h; exact absurd rfl h; exact h
    rw [lexI_total e1 e2]
theorem pys_cons (x : D) (xs : List D) : D.pys (x :: xs) = x.py :: D.pys xs := by rw [D.pys]
theorem py_int (i : Int) : (D.int i).py = .int i := by rw [D.py]
theorem py_tup (xs : List D) : (D.tup xs).py = .tuple (D.pys xs) := by rw [D.py]
theorem py_lst (xs : List D) : (D.lst xs).py = .list (D.pys xs) := by rw [D.py]
theorem toks_ints : ∀ xs ys : List Int, PyProof.Rows.lexLt PyProof.Rows.itemOrd (PySem.W.keyToksAll (D.pys (xs.map D.int))) (PySem.W.keyToksAll (D.pys (ys.map D.int))) = lexI xs ys
  | [], [] => by simp [D.pys, PySem.W.keyToksAll, PyProof.Rows.lexLt, lexI, PyProof.Rows.itemLt]
  | [], y :: ys => by simp [D.pys, PySem.W.keyToksAll, PyProof.Rows.lexLt, lexI, PyProof.Rows.itemLt]
  | x :: xs, [] => by simp [D.pys, PySem.W.keyToksAll, PyProof.Rows.lexLt, lexI, PyProof.Rows.itemLt]
  | x :: xs, y :: ys => by
    have ih := toks_ints xs ys
    rw [List.map_cons, List.map_cons, pys_cons, pys_cons, py_int, py_int, PySem.W.keyToksAll, PySem.W.keyToksAll, PySem.W.keyToks, PySem.W.keyToks]
    rw [PyProof.Rows.lex_self]
    show PyProof.Rows.lexLt PyProof.Rows.itemOrd (.inl x :: PySem.W.keyToksAll (D.pys (xs.map D.int))) (.inl y :: PySem.W.keyToksAll (D.pys (ys.map D.int))) = _
    rw [PyProof.Rows.lex_cons, ih]
    show (decide (x < y) || (!decide (y < x) && lexI xs ys)) = _
    show _ = (decide (x < y) || (decide (x = y) && lexI xs ys))
    by_cases h1 : x < y
    · simp [h1]
    · by_cases h2 : x = y
      · subst h2; simp
      · have h3 : y < x := by omega
        simp [h1, h2, h3]
theorem leD_hD (xs ys : List Int) : leD (hD xs) (hD ys) = !lexI ys xs := by
  show (!PyProof.Rows.lexLt PyProof.Rows.itemOrd (PySem.W.keyToks (D.tup (ys.map D.int)).py) (PySem.W.keyToks (D.tup (xs.map D.int)).py)) = _
  rw [py_tup, py_tup, PySem.W.keyToks, PySem.W.keyToks, toks_ints]
theorem leD_int (x y : Int) : leD (.int x) (.int y) = decide (x ≤ y) := by
  show (!PyProof.Rows.lexLt PyProof.Rows.itemOrd (PySem.W.keyToks (D.int y).py) (PySem.W.keyToks (D.int x).py)) = _
  rw [py_int, py_int, PySem.W.keyToks, PySem.W.keyToks, PyProof.Rows.lex_cons]
  show (!(decide (y < x) || (!decide (x < y) && false))) = _
  by_cases h : x ≤ y
  · have h2 : ¬ y < x := by omega
    simp [h, h2]
  · have h2 : y < x := by omega
    simp [h, h2]
/-! ### plain data, no deeper than k -/
mutual
def pln : Nat → D → Bool
  | _, .non => true
  | _, .int _ => true
  | _, .str x => PyData.strOk x
  | k + 1, .tup xs => plns k xs
  | k + 1, .lst xs => plns k xs
  | _, _ => false
def plns : Nat → List D → Bool
  | _, [] => true
  | k, x :: xs => pln k x && plns k xs
end
mutual
theorem pln_lay : ∀ {k : Nat} {d : D}, pln k d = true → d.py.canLay0 = true ∧ d.py.depth ≤ k + 1
  | _, .non, _ => by simp [D.py, PyData.canLay0, PyData.depth]
  | _, .int _, _ => by simp [D.py, PyData.canLay0, PyData.depth]
  | _, .str x, h => by simp [D.py, PyData.canLay0, PyData.depth]; simpa [pln] using h
  | k + 1, .tup xs, h => by
    have z := plns_lay (k := k) (xs := xs) (by simpa [pln] using h)
    simp [D.py, PyData.canLay0, PyData.depth, z.1]
    omega
  | k + 1, .lst xs, h => by
    have z := plns_lay (k := k) (xs := xs) (by simpa [pln] using h)
    simp [D.py, PyData.canLay0, PyData.depth, z.1]
    omega
  | 0, .tup _, h => by simp [pln] at h
  | 0, .lst _, h => by simp [pln] at h
  | _, .bl _, h => by simp [pln] at h
  | _, .dic _ _, h => by simp [pln] at h
  | _, .scr _, h => by simp [pln] at h
theorem plns_lay : ∀ {k : Nat} {xs : List D}, plns k xs = true → PyData.canLayAll0 (D.pys xs) = true ∧ PyData.depthAll (D.pys xs) ≤ k + 1
  | _, [], _ => by simp [D.pys, PyData.canLayAll0, PyData.depthAll]
  | k, x :: xs, h => by
    have h : pln k x = true ∧ plns k xs = true := by simpa [plns] using h
    have h1 := pln_lay h.1
    have h2 := plns_lay h.2
    simp [D.pys, PyData.canLayAll0, PyData.depthAll, h1.1, h2.1]
    omega
end
theorem sh_pln {k : Nat} {d : D} (h : pln k d = true) (hk : k ≤ 60) : sh d = true := by
  have z := pln_lay h
  unfold sh SeqAt.shaped
  simp [z.1]
  omega
/-! ### == of plain data -/
mutual
theorem eqD_iff : ∀ {k j : Nat} {d e : D}, pln k d = true → pln j e = true → (PyData.eqv d.py e.py = true ↔ d = e)
  | _, _, .non, e, _, h => by cases e <;> first | (simp [pln] at h; done) | simp [D.py, PyData.eqv]
  | _, _, .int i, e, _, h => by cases e <;> first | (simp [pln] at h; done) | simp [D.py, PyData.eqv]
  | _, _, .str i, e, _, h => by cases e <;> first | (simp [pln] at h; done) | simp [D.py, PyData.eqv]
  | k, j, .tup xs, e, hd, h => by
    cases e with
    | tup ys =>
      cases k with
      | zero => simp [pln] at hd
      | succ k =>
        cases j with
        | zero => simp [pln] at h
        | succ j =>
          have z := eqDs_iff (k := k) (j := j) (xs := xs) (ys := ys) (by simpa [pln] using hd) (by simpa [pln] using h)
          simp [D.py, PyData.eqv, z]
    | _ => first | (simp [pln] at h; done) | simp [D.py, PyData.eqv]
  | k, j, .lst xs, e, hd, h => by
    cases e with
    | lst ys =>
      cases k with
      | zero => simp [pln] at hd
      | succ k =>
        cases j with
        | zero => simp [pln] at h
        | succ j =>
          have z := eqDs_iff (k := k) (j := j) (xs := xs) (ys := ys) (by simpa [pln] using hd) (by simpa [pln] using h)
          simp [D.py, PyData.eqv, z]
    | _ => first | (simp [pln] at h; done) | simp [D.py, PyData.eqv]
  | _, _, .bl _, _, h, _ => by simp [pln] at h
  | _, _, .dic _ _, _, h, _ => by simp [pln] at h
  | _, _, .scr _, _, h, _ => by simp [pln] at h
theorem eqDs_iff : ∀ {k j : Nat} {xs ys : List D}, plns k xs = true → plns j ys = true → (PyData.eqvAll (D.pys xs) (D.pys ys) = true ↔ xs = ys)
  | _, _, [], [], _, _ => by simp [D.pys, PyData.eqvAll]
  | _, _, [], y :: ys, _, _ => by simp [D.pys, PyData.eqvAll]
  | _, _, x :: xs, [], _, _ => by simp [D.pys, PyData.eqvAll]
  | k, j, x :: xs, y :: ys, h1, h2 => by
    have h1 : pln k x = true ∧ plns k xs = true := by simpa [plns] using h1
    have h2 : pln j y = true ∧ plns j ys = true := by simpa [plns] using h2
    have z1 := eqD_iff (d := x) (e := y) h1.1 h2.1
    have z2 := eqDs_iff (xs := xs) (ys := ys) h1.2 h2.2
    simp [D.pys, PyData.eqvAll, z1, z2]
end
open Classical in
theorem eqD_eq {k j : Nat} {d e : D} (h1 : pln k d = true) (h2 : pln j e = true) : eqD d e = decide (d = e) := by
  have z := eqD_iff h1 h2
  unfold eqD
  by_cases h : d = e
  · rw [decide_eq_true h]; exact z.mpr h
  · rw [decide_eq_false h]
    cases q : PyData.eqv d.py e.py with
    | false => rfl
    | true => exact absurd (z.mp q) h
theorem oEq_ok {k : Nat} {d e : D} {b : Bool} (h1 : pln k d = true) (h2 : pln k e = true) (hk : k ≤ 60) (hb : b = true ↔ d = e) : oEq d e = .ok (.bl b) := by
  unfold oEq okEq
  rw [sh_pln h1 hk, sh_pln h2 hk]
  rw [if_pos (by cases scalS d e <;> rfl)]
  congr 2
  have z := eqD_iff h1 h2
  unfold eqD
  cases b with
  | true => exact z.mpr (hb.mp rfl)
  | false =>
    cases q : PyData.eqv d.py e.py with
    | false => rfl
    | true => exact absurd (hb.mpr (z.mp q)) Bool.false_ne_true
theorem oNe_ok {k : Nat} {d e : D} {b : Bool} (h1 : pln k d = true) (h2 : pln k e = true) (hk : k ≤ 60) (hb : b = true ↔ d ≠ e) : oNe d e = .ok (.bl b) := by
  unfold oNe okEq
  rw [sh_pln h1 hk, sh_pln h2 hk]
  rw [if_pos (by cases scalS d e <;> rfl)]
  congr 2
  have z := eqD_iff h1 h2
  unfold eqD
  cases q : PyData.eqv d.py e.py with
  | true =>
    cases b with
    | false => rfl
    | true => exact absurd (z.mp q) (hb.mp rfl)
  | false =>
    cases b with
    | true => rfl
    | false => exact absurd (hb.mpr fun e => by rw [z.mpr e] at q; cases q) Bool.false_ne_true
theorem plns_iff {k : Nat} : ∀ {xs : List D}, plns k xs = true ↔ ∀ x ∈ xs, pln k x = true
  | [] => by simp [plns]
  | x :: xs => by simp [plns, plns_iff (xs := xs)]
theorem mem_any {k : Nat} {d : D} {xs : List D} (h1 : pln k d = true) (h2 : plns k xs = true) : (xs.any fun z => eqD z d) = true ↔ d ∈ xs := by
  rw [List.any_eq_true]
  constructor
  · rintro ⟨x, hx, e⟩
    have z := (eqD_iff (plns_iff.mp h2 x hx) h1).mp e
    exact z ▸ hx
  · intro h
    exact ⟨d, h, (eqD_iff h1 h1).mpr rfl⟩
theorem bool_of_iff {a b : Bool} {P : Prop} (h1 : a = true ↔ P) (h2 : b = true ↔ P) : a = b := by
  cases a <;> cases b <;> simp_all
theorem memD_lst {d : D} {xs : List D} (h1 : sh d = true) (h2 : sh (.lst xs) = true) : memD d (.lst xs) = some (xs.any fun z => eqD z d) := if_pos (by rw [h1, h2]; rfl)
theorem memD_tup {d : D} {xs : List D} (h1 : flatD d = true) (h2 : xs.all flatD = true) : memD d (.tup xs) = some (xs.any fun z => eqD z d) := if_pos (by rw [h1, h2]; rfl)
theorem oIn_of {d e : D} {b : Bool} (h : memD d e = some b) : oIn d e = .ok (.bl b) := by unfold oIn; rw [h]
theorem oNotIn_of {d e : D} {b : Bool} (h : memD d e = some b) : oNotIn d e = .ok (.bl (!b)) := by unfold oNotIn; rw [h]
theorem flat_pln {x : D} (h : pln 0 x = true) : flatD x = true := by cases x <;> first | rfl | (simp [pln] at h; done)
theorem oIn_lst {k : Nat} {d : D} {xs : List D} {b : Bool} (h1 : pln k d = true) (h2 : plns k xs = true) (hk : k < 60) (hb : b = true ↔ d ∈ xs) : oIn d (.lst xs) = .ok (.bl b) := by
  rw [oIn_of (memD_lst (sh_pln h1 (by omega)) (sh_pln (k := k + 1) (d := .lst xs) (by simpa [pln] using h2) (by omega))), bool_of_iff (mem_any h1 h2) hb]
theorem oNotIn_lst {k : Nat} {d : D} {xs : List D} {b : Bool} (h1 : pln k d = true) (h2 : plns k xs = true) (hk : k < 60) (hb : b = true ↔ d ∉ xs) : oNotIn d (.lst xs) = .ok (.bl b) := by
  rw [oNotIn_of (memD_lst (sh_pln h1 (by omega)) (sh_pln (k := k + 1) (d := .lst xs) (by simpa [pln] using h2) (by omega)))]
  rw [bool_of_iff (a := !xs.any fun z => eqD z d) (P := d ∉ xs) (by rw [Bool.not_eq_true', ← Bool.not_eq_true, mem_any h1 h2]) hb]
theorem oIn_tup {d : D} {xs : List D} {b : Bool} (h1 : pln 0 d = true) (h2 : plns 0 xs = true) (hb : b = true ↔ d ∈ xs) : oIn d (.tup xs) = .ok (.bl b) := by
  rw [oIn_of (memD_tup (flat_pln h1) (List.all_eq_true.mpr fun x hx => flat_pln (plns_iff.mp h2 x hx))), bool_of_iff (mem_any h1 h2) hb]
theorem oNotIn_tup {d : D} {xs : List D} {b : Bool} (h1 : pln 0 d = true) (h2 : plns 0 xs = true) (hb : b = true ↔ d ∉ xs) : oNotIn d (.tup xs) = .ok (.bl b) := by
  rw [oNotIn_of (memD_tup (flat_pln h1) (List.all_eq_true.mpr fun x hx => flat_pln (plns_iff.mp h2 x hx)))]
  rw [bool_of_iff (a := !xs.any fun z => eqD z d) (P := d ∉ xs) (by rw [Bool.not_eq_true', ← Bool.not_eq_true, mem_any h1 h2]) hb]
/-! ### sorted -/
theorem plns_ints {k : Nat} (xs : List Int) : plns k (xs.map D.int) = true := plns_iff.mpr fun x hx => by
  obtain ⟨i, _, rfl⟩ := List.mem_map.mp hx
  simp [pln]
theorem pln_hD {k : Nat} (h : List Int) : pln (k + 1) (hD h) = true := by simpa [pln] using plns_ints h
theorem plns_hDs {k : Nat} (hs : List (List Int)) : plns (k + 1) (hs.map hD) = true := plns_iff.mpr fun x hx => by
  obtain ⟨h, _, rfl⟩ := List.mem_map.mp hx
  exact pln_hD h
theorem alike_ints : ∀ xs ys : List Int, PySem.W.alikeAll (D.pys (xs.map D.int)) (D.pys (ys.map D.int)) = true
  | [], _ => by simp [D.pys, PySem.W.alikeAll]
  | x :: xs, [] => by simp [D.pys, PySem.W.alikeAll]
  | x :: xs, y :: ys => by simp [D.pys, D.py, PySem.W.alikeAll, PySem.W.alike, alike_ints xs ys]
theorem fSorted_hD {hs : List (List Int)} (hne : ∀ h ∈ hs, h ≠ []) (hl : hs.length ≤ 1000000) : fSorted [.lst (hs.map hD)] = .ok (.lst ((hs.mergeSort fun a b => !lexI b a).map hD)) := by
  have a1 : alikeB (hs.map hD) = true := List.all_eq_true.mpr fun d hd => List.all_eq_true.mpr fun e he => by
    obtain ⟨x, _, rfl⟩ := List.mem_map.mp hd
    obtain ⟨y, _, rfl⟩ := List.mem_map.mp he
    rw [py_tup, py_tup, PySem.W.alike]
    exact alike_ints x y
  have a2 : sortB (hs.map hD) = true := by
    unfold sortB
    rw [Bool.or_eq_true]
    refine .inl (List.all_eq_true.mpr fun d hd => ?_)
    obtain ⟨x, hx, rfl⟩ := List.mem_map.mp hd
    cases x with
    | nil => exact absurd rfl (hne _ hx)
    | cons a x => rfl
  have a3 : sh (.lst (hs.map hD)) = true := sh_pln (k := 2) (by simpa [pln] using plns_hDs (k := 0) hs) (by omega)
  show (if _ then _ else _) = _
  rw [if_pos (by rw [a1, a2, a3]; simpa using hl)]
  rw [List.map_mergeSort (s := leD)]
  intro a _ b _
  rw [leD_hD]
theorem fSorted_ints {ns : List Int} (hl : ns.length ≤ 1000000) : fSorted [.lst (ns.map D.int)] = .ok (.lst ((ns.mergeSort fun a b => decide (a ≤ b)).map D.int)) := by
  have a1 : alikeB (ns.map D.int) = true := List.all_eq_true.mpr fun d hd => List.all_eq_true.mpr fun e he => by
    obtain ⟨x, _, rfl⟩ := List.mem_map.mp hd
    obtain ⟨y, _, rfl⟩ := List.mem_map.mp he
    rw [py_int, py_int, PySem.W.alike]
  have a2 : sortB (ns.map D.int) = true := by
    unfold sortB
    rw [Bool.or_eq_true]
    refine .inr (List.all_eq_true.mpr fun d hd => ?_)
    obtain ⟨x, hx, rfl⟩ := List.mem_map.mp hd
    rfl
  have a3 : sh (.lst (ns.map D.int)) = true := sh_pln (k := 1) (by simpa [pln] using plns_ints (k := 0) ns) (by omega)
  show (if _ then _ else _) = _
  rw [if_pos (by rw [a1, a2, a3]; simpa using hl)]
  rw [List.map_mergeSort (s := leD)]
  intro a _ b _
  rw [leD_int]
/-- tuples of ints in order -/
def srt (hs : List (List Int)) : List (List Int) := hs.mergeSort fun a b => !lexI b a
theorem srt_mem {hs : List (List Int)} {h : List Int} : h ∈ srt hs ↔ h ∈ hs := List.mem_mergeSort
theorem srt_len (hs : List (List Int)) : (srt hs).length = hs.length := List.length_mergeSort hs
theorem lexI_le_trans {a b c : List Int} (h1 : (!lexI b a) = true) (h2 : (!lexI c b) = true) : (!lexI c a) = true := by
  rw [Bool.not_eq_true'] at *
  cases q : lexI c a with
  | false => rfl
  | true =>
    cases q2 : lexI a b with
    | true => rw [lexI_trans q q2] at h2; cases h2
    | false =>
      have e := lexI_total q2 h1
      subst e
      rw [q] at h2; cases h2
theorem srt_sorted {hs : List (List Int)} (nd : hs.Nodup) : (srt hs).Pairwise fun a b => lexI a b = true := by
  have h1 : (srt hs).Pairwise fun a b => (!lexI b a) = true := List.pairwise_mergeSort (le := fun a b => !lexI b a) (fun a b c h1 h2 => lexI_le_trans h1 h2) (fun a b => by
    show (!lexI b a || !lexI a b) = true
    cases q1 : lexI b a with
    | false => rfl
    | true =>
      cases q2 : lexI a b with
      | false => rfl
      | true => have := lexI_trans q1 q2; rw [lexI_irrefl] at this; cases this) hs
  have h2 : (srt hs).Nodup := (List.mergeSort_perm hs _).nodup_iff.mpr nd
  refine (h1.and h2).imp fun {a b} h => ?_
  obtain ⟨h1, h2⟩ := h
  cases q : lexI a b with
  | true => rfl
  | false =>
    rw [Bool.not_eq_true'] at h1
    exact absurd (lexI_total q h1) h2
end VL

/-! M4: the law's graph. -/
namespace VL
open PySem PySem.Spec PyProof.Rows L2
section
variable {m n : Rho → R Out} {ρ ρ' : Rho} {Q : Out → Prop} {ma mb mc : Rho → R D} {ml : Rho → R (List D)}
/-- one statement, then the rest -/
theorem wp_stp (h : m ρ = .ok (.nx ρ')) (k : wp (n ρ') Q) : wp (mSeq m n ρ) Q := by rw [wp_seq, h, wp_ok]; exact k
theorem wp_end {o : Out} (h : m ρ = .ok o) (k : Q o) : wp (m ρ) Q := by rw [h, wp_ok]; exact k
theorem mSet_ok {i : Nat} {d : D} (h : ma ρ = .ok d) : mSet i ma ρ = .ok (.nx (ρ.set i (.d d))) := by rw [mSet_eq, h, R.bind_ok]
theorem mSetN_ok {i : Nat} {d : List D} (h : ml ρ = .ok d) : mSetN i ml ρ = .ok (.nx (ρ.set i (.m d))) := by rw [mSetN_eq, h, R.bind_ok]
theorem mRet_ok {d : D} (h : ma ρ = .ok d) : mRet ma ρ = .ok (.rt d) := by rw [mRet_eq, h, R.bind_ok]
theorem mExpr_ok {d : D} (h : ma ρ = .ok d) : mExpr ma ρ = .ok (.nx ρ) := by rw [mExpr_eq, h, R.bind_ok]
end
local macro_rules | `(tactic| walk_at "go") => `(tactic| simp only [List.map, List.length_cons, List.length_nil, List.replicate, List.cons_append, List.nil_append, Nat.reduceAdd, Nat.reduceSub, Nat.add_zero, Nat.zero_add])
local macro_rules | `(tactic| walk_at "st") => `(tactic| simp only [List.set_cons_zero, List.set_cons_succ])
theorem split_range' {α : Type} {f : Nat → α} {a k : Nat} {pre r : List α} {d : α} (e : (List.range' a k).map f = pre ++ d :: r) : d = f (a + pre.length) ∧ pre.length < k := by
  have hl := congrArg List.length e
  simp at hl
  have hk : pre.length < k := by omega
  have h2 : ((List.range' a k).map f)[pre.length]? = some d := by rw [e, List.getElem?_append_right (Nat.le_refl _)]; simp
  rw [List.getElem?_map, List.getElem?_range' hk] at h2
  simp at h2
  exact ⟨h2.symm, hk⟩
theorem split_range {α : Type} {f : Nat → α} {k : Nat} {pre r : List α} {d : α} (e : (List.range k).map f = pre ++ d :: r) : d = f pre.length ∧ pre.length < k := by
  rw [List.range_eq_range'] at e
  have z := split_range' e
  rw [Nat.zero_add] at z
  exact z
theorem split_map {α β : Type} {f : β → α} {xs : List β} {pre r : List α} {d : α} (e : xs.map f = pre ++ d :: r) : ∃ x, d = f x ∧ xs[pre.length]? = some x ∧ pre.length < xs.length := by
  have h2 : (xs.map f)[pre.length]? = some d := by rw [e, List.getElem?_append_right (Nat.le_refl _)]; simp
  rw [List.getElem?_map] at h2
  cases q : xs[pre.length]? with
  | none => rw [q] at h2; cases h2
  | some x =>
    rw [q] at h2
    exact ⟨x, (Option.some.inj h2).symm, rfl, (List.getElem?_eq_some_iff.mp q).1⟩
abbrev Ed := Nat × Nat
def eI (e : Ed) : List Int := [(e.1 : Int), (e.2 : Int)]
def eD (e : Ed) : D := hD (eI e)
theorem eD_eq (e : Ed) : eD e = .tup [nD e.1, nD e.2] := rfl
def gD (n : Nat) (E : List Ed) : D := .tup [nD n, .tup (E.map eD)]
theorem eI_inj {e f : Ed} (h : eI e = eI f) : e = f := by
  obtain ⟨a, b⟩ := e
  obtain ⟨c, d⟩ := f
  simp [eI] at h
  exact Prod.ext (by simp; omega) (by simp; omega)
theorem int_inj {α : Type} {f : α → Int} (hf : ∀ a b, f a = f b → a = b) {a b : α} (h : D.int (f a) = D.int (f b)) : a = b := hf a b (D.int.inj h)
theorem eD_inj {e f : Ed} (h : eD e = eD f) : e = f := by
  obtain ⟨a, b⟩ := e
  obtain ⟨c, d⟩ := f
  simp [eD, eI] at h
  exact Prod.ext (by simp; omega) (by simp; omega)
theorem pln_eD {k : Nat} (e : Ed) : pln (k + 1) (eD e) = true := pln_hD _
theorem plns_eDs {k : Nat} (E : List Ed) : plns (k + 1) (E.map eD) = true := plns_iff.mpr fun x hx => by
  obtain ⟨e, _, rfl⟩ := List.mem_map.mp hx
  exact pln_eD e
theorem mem_eD {e : Ed} {E : List Ed} : eD e ∈ E.map eD ↔ e ∈ E := ⟨fun h => by
  obtain ⟨f, hf, q⟩ := List.mem_map.mp h
  exact eD_inj q ▸ hf, fun h => List.mem_map.mpr ⟨e, h, rfl⟩⟩
/-- the order of edges -/
def eLt (e f : Ed) : Prop := e.1 < f.1 ∨ (e.1 = f.1 ∧ e.2 < f.2)
theorem lexI_eI {e f : Ed} : lexI (eI e) (eI f) = true ↔ eLt e f := by
  simp [eI, lexI, eLt]
  omega
/-- the graphs of the laws -/
structure GOk (n : Nat) (E : List Ed) : Prop where
  pos : 1 ≤ n
  le : n ≤ 8
  few : E.length ≤ 14
  ed : ∀ e ∈ E, e.1 < e.2 ∧ e.2 < n
  srt : E.Pairwise eLt
  con : ∀ v, v < n → v ≠ 0 → ∃ u, u < v ∧ (u, v) ∈ E
/-- edges, sorted -/
theorem sort_edges {E : List Ed} (nd : E.Nodup) (hl : E.length ≤ 1000000) : ∃ E' : List Ed, fSorted [.lst (E.map eD)] = .ok (.lst (E'.map eD)) ∧ E'.Pairwise eLt ∧ (∀ e, e ∈ E' ↔ e ∈ E) ∧ E'.length = E.length := by
  have h := fSorted_hD (hs := E.map eI) (fun h hh => by obtain ⟨e, _, rfl⟩ := List.mem_map.mp hh; simp [eI]) (by simpa using hl)
  rw [List.map_map] at h
  have nd' : (E.map eI).Nodup := List.Pairwise.map _ (fun a b hab z => hab (eI_inj z)) nd
  refine ⟨E.mergeSort fun a b => !lexI (eI b) (eI a), ?_, ?_, fun e => List.mem_mergeSort, List.length_mergeSort E⟩
  · show fSorted [.lst (E.map (hD ∘ eI))] = _
    rw [h, ← List.map_mergeSort (r := fun a b => !lexI (eI b) (eI a)) (f := eI) (fun a _ b _ => rfl), List.map_map]
    rfl
  · have s := srt_sorted nd'
    unfold VL.srt at s
    rw [← List.map_mergeSort (r := fun a b => !lexI (eI b) (eI a)) (f := eI) (fun a _ b _ => rfl), List.pairwise_map] at s
    exact s.imp fun h => lexI_eI.mp h
theorem rep_one {x : D} : ∀ n : Nat, (List.replicate n [x]).flatten = List.replicate n x
  | 0 => rfl
  | n + 1 => by rw [List.replicate_succ, List.flatten_cons, rep_one n, List.replicate_succ]; rfl
theorem getD_nD {ds : List Nat} {k : Nat} (h : k < ds.length) : (ds.map nD)[k]? = some (nD (ds.getD k 0)) := by
  rw [List.getElem?_map, List.getElem?_eq_getElem h, List.getD_eq_getElem?_getD, List.getElem?_eq_getElem h]
  rfl
theorem nat_mod {a b : Nat} : (a : Int) % (b : Int) = ((a % b : Nat) : Int) := by omega
theorem graph_eq (ns : List Int) (at_ most : Nat) (h1 : 1 ≤ most) (h8 : most ≤ 8) : ∃ n E, GOk n E ∧ n ≤ most ∧ g__law_graph [.scr ns, nD at_, nD most] = .ok (gD n E) := by
  obtain ⟨ds, hl, hd, hrow⟩ := row_eq ns at_
  have dr : ∀ k, k < 60 → oIx (.lst (ds.map nD)) (nD k) = .ok (nD (ds.getD k 0)) := fun k hk => oIx_lst (getD_nD (by omega))
  have d0 : oIx (.lst (ds.map nD)) (.int 0) = .ok (nD (ds.getD 0 0)) := dr 0 (by omega)
  have d20 : oIx (.lst (ds.map nD)) (.int 20) = .ok (nD (ds.getD 20 0)) := dr 20 (by omega)
  have d40 : oIx (.lst (ds.map nD)) (.int 40) = .ok (nD (ds.getD 40 0)) := dr 40 (by omega)
  have main : ∃ d, g__law_graph [.scr ns, nD at_, nD most] = .ok d ∧ ∃ n E, GOk n E ∧ n ≤ most ∧ d = gD n E := by
    refine run_some fun Q hQ => ?_
    walk_at "go"
    unfold m__law_graph
    refine wp_stp (mSet_ok (d := .lst (ds.map nD)) (by simp [hrow])) ?_
    obtain ⟨n, hn, hn1, hn2⟩ : ∃ n : Nat, 1 + ((ds.getD 0 0 : Nat) : Int) % (most : Int) = (n : Int) ∧ 1 ≤ n ∧ n ≤ most := ⟨1 + ds.getD 0 0 % most, by rw [nat_mod]; omega, by omega, by have := Nat.mod_lt (ds.getD 0 0) h1; omega⟩
    walk_at "st"
    refine wp_stp (mSet_ok (d := nD n) (by simp [d0, oMod_int (show (0 : Int) < most by omega)]; simpa using hn)) ?_
    refine wp_stp (mSetN_ok (d := []) (by simp [mLst])) ?_
    refine wp_stp (mSetN_ok (d := List.replicate n (.int 0)) (by rw [mRep_ok (xs := [.int 0]) (k := n) (by simp [mLst]) (by simp) (by simp) (by omega), rep_one])) ?_
    walk_at "st"
    rw [wp_seq]
    refine wp_for (ds := (List.range' 1 (n - 1)).map fun i => nD i) (fun pre ρ => ∃ (es : List Ed) (sd : List Int) (a7 a8 : A), ρ = [.d (.scr ns), .d (nD at_), .d (nD most), .d (.lst (ds.map nD)), .d (nD n), .m (es.map eD), .m (sd.map D.int), a7, a8, .un, .un, .un] ∧ sd.length = n ∧
      es.length = pre.length ∧ es.Nodup ∧ (∀ e ∈ es, e.1 < e.2 ∧ e.2 ≤ pre.length) ∧ ∀ v, 1 ≤ v → v ≤ pre.length → ∃ u, u < v ∧ (u, v) ∈ es)
      (by simp; exact fRange2_nat (i := 1) (k := n) (by omega) (by omega)) ⟨[], List.replicate n 0, .un, .un, by simp, by simp, rfl, List.nodup_nil, by simp, fun v h1 h2 => by simp at h2; omega⟩ ?_ ?_
    · rintro pre d r ρ e ⟨es, sd, a7, a8, rfl, hsd, hes, nd, hed, hcon⟩
      obtain ⟨rfl, hlt⟩ := split_range' e
      generalize hv : 1 + pre.length = v at *
      refine ⟨_, rfl, fun Q' hQ' => ?_⟩
      walk_at "st"
      have hu : ds.getD v 0 % v < v := Nat.mod_lt _ (by omega)
      generalize hu' : ds.getD v 0 % v = u at hu
      refine wp_stp (mSet_ok (d := nD u) (by simp [dr v (by omega), oMod_int (show (0 : Int) < v by omega)]; rw [← hu']; simp)) ?_
      walk_at "st"
      obtain ⟨x, hx⟩ : ∃ x, sd[u]? = some x := ⟨_, List.getElem?_eq_getElem (by omega)⟩
      refine wp_stp (mPut_ok (k := v) (xs := sd.map D.int) (d := .int (1 - x)) rfl (by simp [oIx_lst (xs := sd.map D.int) (k := u) (d := .int x) (by simp [hx])]) (by simp) (by simp; omega)) ?_
      refine wp_end (mApp_ok (xs := es.map eD) (d := eD (u, v)) rfl (by rw [mTup_ok (ds := [nD u, nD v]) (by simp) (by simp)]; rfl) (by simp; omega)) (hQ' _ ⟨es ++ [(u, v)], sd.set v (1 - x), _, _, by simp; exact ⟨rfl, rfl⟩, by simpa using hsd, by simp [hes], ?_, ?_, ?_⟩)
      · rw [List.nodup_append]
        refine ⟨nd, by simp, fun a ha b hb z => ?_⟩
        rw [List.mem_singleton] at hb
        subst hb
        have := hed a ha
        rw [z] at this
        simp at this
        omega
      · intro e he
        rcases List.mem_append.mp he with he | he
        · have := hed e he
          simp
          omega
        · rw [List.mem_singleton.mp he]
          simp
          omega
      · intro w h1 h2
        simp at h2
        by_cases hw : w ≤ pre.length
        · obtain ⟨u', h3, h4⟩ := hcon w h1 hw
          exact ⟨u', h3, List.mem_append_left _ h4⟩
        · obtain rfl : w = v := by omega
          exact ⟨u, hu, List.mem_append_right _ (by simp)⟩
    · rintro ρ ⟨es, sd, a7, a8, rfl, hsd, hes, nd, hed, hcon⟩
      simp at hes hed hcon
      rw [thn_nx, wp_seq]
      refine wp_for (ds := (List.range (ds.getD 20 0 % 5)).map fun i => nD i) (fun pre ρ => ∃ (es : List Ed) (a7 a8 a9 a10 a11 : A), ρ = [.d (.scr ns), .d (nD at_), .d (nD most), .d (.lst (ds.map nD)), .d (nD n), .m (es.map eD), .m (sd.map D.int), a7, a8, a9, a10, a11] ∧
        es.length ≤ n - 1 + pre.length ∧ es.Nodup ∧ (∀ e ∈ es, e.1 < e.2 ∧ e.2 < n) ∧ ∀ v, 1 ≤ v → v ≤ n - 1 → ∃ u, u < v ∧ (u, v) ∈ es)
        (by simp only [mIter_eq, mCons_eq, mBin_eq, mB_eq, mC_eq, mNil_eq, List.getElem?_cons_succ, List.getElem?_cons_zero, bw_d, R.bind_ok, d20, oMod_int (show (0 : Int) < 5 by omega)]
            have := fRange1_nat (k := ds.getD 20 0 % 5) (by omega)
            rw [← nat_mod] at this
            exact this) ⟨es, a7, a8, .un, .un, .un, rfl, by simp; omega, nd, fun e he => by have := hed e.1 e.2 he; omega, fun v h1 h2 => hcon v h1 h2⟩ ?_ ?_
      · rintro pre d r ρ e ⟨es, a7, a8, a9, a10, a11, rfl, hes, nd, hed, hcon⟩
        obtain ⟨rfl, hlt⟩ := split_range e
        generalize hv : pre.length = t at *
        refine ⟨_, rfl, fun Q' hQ' => ?_⟩
        walk_at "st"
        have ho : ds.getD (21 + 2 * t) 0 % n < n := Nat.mod_lt _ (by omega)
        have hp : ds.getD (22 + 2 * t) 0 % n < n := Nat.mod_lt _ (by omega)
        generalize ho' : ds.getD (21 + 2 * t) 0 % n = o at ho
        generalize hp' : ds.getD (22 + 2 * t) 0 % n = p at hp
        have e21 : oIx (.lst (ds.map nD)) (.int (21 + 2 * (t : Int))) = .ok (nD (ds.getD (21 + 2 * t) 0)) := by
          rw [show 21 + 2 * (t : Int) = ((21 + 2 * t : Nat) : Int) by omega]
          exact dr (21 + 2 * t) (by omega)
        have e22 : oIx (.lst (ds.map nD)) (.int (22 + 2 * (t : Int))) = .ok (nD (ds.getD (22 + 2 * t) 0)) := by
          rw [show 22 + 2 * (t : Int) = ((22 + 2 * t : Nat) : Int) by omega]
          exact dr (22 + 2 * t) (by omega)
        refine wp_stp (mSet_ok (d := nD o) (by simp only [mBin_eq, mB_eq, mC_eq, List.getElem?_cons_succ, List.getElem?_cons_zero, bw_d, R.bind_ok, oMul_int (.inl (show (-18446744073709551616 : Int) < 2 ∧ (2 : Int) < 18446744073709551616 by omega)), oAdd_int, e21, oMod_int (show (0 : Int) < n by omega), nat_mod, ho'])) ?_
        walk_at "st"
        refine wp_stp (mSet_ok (d := nD p) (by simp only [mBin_eq, mB_eq, mC_eq, List.getElem?_cons_succ, List.getElem?_cons_zero, bw_d, R.bind_ok, oMul_int (.inl (show (-18446744073709551616 : Int) < 2 ∧ (2 : Int) < 18446744073709551616 by omega)), oAdd_int, e22, oMod_int (show (0 : Int) < n by omega), nat_mod, hp'])) ?_
        walk_at "st"
        have emin : (if (p : Int) < (o : Int) then (p : Int) else (o : Int)) = ((min o p : Nat) : Int) := by split <;> omega
        have emax : (if (p : Int) > (o : Int) then (p : Int) else (o : Int)) = ((max o p : Nat) : Int) := by split <;> omega
        refine wp_stp (mSet_ok (d := eD (min o p, max o p)) (by rw [mTup_ok (ds := [nD (min o p), nD (max o p)]) (by simp only [mCons_eq, mNil_eq, mCall_eq, mB_eq, List.getElem?_cons_succ, List.getElem?_cons_zero, bw_d, R.bind_ok, fMin2_int, fMax2_int, emin, emax]) (by simp)]; rfl)) ?_
        walk_at "st"
        obtain ⟨x, hx⟩ : ∃ x, sd[o]? = some x := ⟨_, List.getElem?_eq_getElem (by omega)⟩
        obtain ⟨y, hy⟩ : ∃ x, sd[p]? = some x := ⟨_, List.getElem?_eq_getElem (by omega)⟩
        have ex := oIx_lst (xs := sd.map D.int) (k := o) (d := .int x) (by simp [hx])
        have ey := oIx_lst (xs := sd.map D.int) (k := p) (d := .int y) (by simp [hy])
        refine wp_if (b := decide ((o : Int) ≠ p) && (decide ((min o p, max o p) ∉ es) && (decide (x ≠ y) || decide ((ds.getD 40 0 : Int) % 6 = 0)))) ?_ (fun hb => ?_) (fun _ => ?_)
        · refine mAnd_ok (by simp) fun _ => mAnd_ok ?_ fun _ => mOr_ok (by simp [ex, ey]) fun _ => by simp [d40, oMod_int]
          have z := oNotIn_lst (k := 1) (d := eD (min o p, max o p)) (xs := es.map eD) (b := decide ((min o p, max o p) ∉ es)) (pln_eD _) (plns_eDs _) (by omega) (by rw [decide_eq_true_eq, mem_eD])
          simp only [mT_eq, mBin_eq, mB_eq, List.getElem?_cons_succ, List.getElem?_cons_zero, bw_d, bw_m, R.bind_ok, z, boolOf_bl]
        · simp only [Bool.and_eq_true, decide_eq_true_eq] at hb
          obtain ⟨h1, h2, _⟩ := hb
          refine wp_end (mApp_ok (xs := es.map eD) (d := eD (min o p, max o p)) rfl (by simp) (by simp; omega)) (hQ' _ ⟨es ++ [(min o p, max o p)], _, _, _, _, _, by simp; exact ⟨rfl, rfl, rfl, rfl, rfl⟩, by simp; omega, ?_, ?_, ?_⟩)
          · rw [List.nodup_append]
            refine ⟨nd, by simp, fun a ha b hb z => ?_⟩
            rw [List.mem_singleton] at hb
            rw [z, hb] at ha
            exact h2 ha
          · intro e he
            rcases List.mem_append.mp he with he | he
            · exact hed e he
            · rw [List.mem_singleton.mp he]
              show min o p < max o p ∧ max o p < n
              omega
          · intro w h3 h4
            obtain ⟨u', h5, h6⟩ := hcon w h3 h4
            exact ⟨u', h5, List.mem_append_left _ h6⟩
        · rw [mSkip_eq, wp_ok]
          exact hQ' _ ⟨es, _, _, _, _, _, rfl, by simp; omega, nd, hed, hcon⟩
      · rintro ρ ⟨es, a7, a8, a9, a10, a11, rfl, hes, nd, hed, hcon⟩
        have hes : es.length ≤ n - 1 + ds.getD 20 0 % 5 := by simpa using hes
        obtain ⟨E, hE, hs, hm, hle⟩ := sort_edges nd (by omega)
        rw [thn_nx]
        refine wp_end (mRet_ok (d := gD n E) ?_) (hQ _ ⟨n, E, ⟨hn1, by omega, by omega, fun e he => hed e ((hm e).mp he), hs, fun v h1 h2 => ?_⟩, hn2, rfl⟩)
        · rw [mTup_ok (ds := [nD n, .tup (E.map eD)]) (by simp [hE]) (by simp)]; rfl
        · obtain ⟨u, h3, h4⟩ := hcon v (by omega) (by omega)
          exact ⟨u, h3, (hm _).mpr h4⟩
  obtain ⟨d, h, n, E, h1, h2, rfl⟩ := main
  exact ⟨n, E, h1, h2, h⟩
end VL

/-! M5: walks and distances, heights. No program here. -/
namespace VL
def Adj (E : List Ed) (u v : Nat) : Prop := (u, v) ∈ E ∨ (v, u) ∈ E
theorem Adj.symm {E : List Ed} {u v : Nat} (h : Adj E u v) : Adj E v u := Or.symm h
theorem Adj.lt {n : Nat} {E : List Ed} (G : GOk n E) {u v : Nat} (h : Adj E u v) : u < n ∧ v < n ∧ u ≠ v := by
  rcases h with h | h
  · have := G.ed _ h; simp at this; omega
  · have := G.ed _ h; simp at this; omega
/-- a walk with k steps -/
def Wlk (E : List Ed) : Nat → Nat → Nat → Prop
  | 0, u, v => u = v
  | k + 1, u, v => ∃ w, Adj E u w ∧ Wlk E k w v
theorem Wlk.trans {E : List Ed} : ∀ {a b u v w : Nat}, Wlk E a u v → Wlk E b v w → Wlk E (a + b) u w
  | 0, b, u, v, w, h, k => by cases (show u = v from h); rw [Nat.zero_add]; exact k
  | a + 1, b, u, v, w, ⟨x, h1, h2⟩, k => by rw [Nat.succ_add]; exact ⟨x, h1, h2.trans k⟩
theorem Wlk.one {E : List Ed} {u v : Nat} (h : Adj E u v) : Wlk E 1 u v := ⟨v, h, rfl⟩
theorem Wlk.rev {E : List Ed} : ∀ {k u v : Nat}, Wlk E k u v → Wlk E k v u
  | 0, u, v, h => (show u = v from h).symm
  | k + 1, u, v, ⟨x, h1, h2⟩ => (Wlk.rev h2).trans (Wlk.one h1.symm)
theorem Wlk.lt {n : Nat} {E : List Ed} (G : GOk n E) : ∀ {k u v : Nat}, Wlk E k u v → v < n → u < n
  | 0, u, v, h, hv => by cases (show u = v from h); exact hv
  | k + 1, u, v, ⟨x, h1, _⟩, _ => (h1.lt G).1
/-- dist tells the least number of steps -/
structure DistOk (n : Nat) (E : List Ed) (dist : Nat → Nat → Nat) : Prop where
  walk : ∀ s v, s < n → v < n → Wlk E (dist s v) v s
  low : ∀ s v k, s < n → v < n → Wlk E k v s → dist s v ≤ k
/-- what a search from s must leave -/
structure FromOk (n : Nat) (E : List Ed) (s : Nat) (d : Nat → Nat) : Prop where
  zero : d s = 0
  lip : ∀ u v, Adj E u v → d v ≤ d u + 1
  pre : ∀ v, v < n → v ≠ s → ∃ u, Adj E v u ∧ d v = d u + 1
theorem FromOk.walk {n : Nat} {E : List Ed} (G : GOk n E) {s : Nat} {d : Nat → Nat} (F : FromOk n E s d) : ∀ (k v : Nat), v < n → d v = k → Wlk E k v s
  | 0, v, hv, h => by
    by_cases e : v = s
    · exact e
    · obtain ⟨u, _, h2⟩ := F.pre v hv e; omega
  | k + 1, v, hv, h => by
    by_cases e : v = s
    · subst e; rw [F.zero] at h; cases h
    · obtain ⟨u, h1, h2⟩ := F.pre v hv e
      exact ⟨u, h1, F.walk G k u (h1.lt G).2.1 (by omega)⟩
theorem FromOk.low {n : Nat} {E : List Ed} {s : Nat} {d : Nat → Nat} (F : FromOk n E s d) : ∀ {k v : Nat}, Wlk E k v s → d v ≤ k
  | 0, v, h => by cases (show v = s from h); rw [F.zero]; exact Nat.le_refl 0
  | k + 1, v, ⟨w, h1, h2⟩ => by
    have := F.low h2
    have := F.lip w v h1.symm
    omega
theorem distOk_of {n : Nat} {E : List Ed} (G : GOk n E) {dist : Nat → Nat → Nat} (h : ∀ s, s < n → FromOk n E s (dist s)) : DistOk n E dist :=
  ⟨fun s v hs hv => (h s hs).walk G _ v hv rfl, fun s v k hs _ w => (h s hs).low w⟩
theorem FromOk.eq {n : Nat} {E : List Ed} (G : GOk n E) {s : Nat} {d : Nat → Nat} (F : FromOk n E s d) {dist : Nat → Nat → Nat} (D : DistOk n E dist) (hs : s < n) {v : Nat} (hv : v < n) : d v = dist s v := by
  have h1 := D.low s v _ hs hv (F.walk G _ v hv rfl)
  have h2 := F.low (D.walk s v hs hv)
  omega
section
variable {n : Nat} {E : List Ed} {dist : Nat → Nat → Nat}
theorem DistOk.self (D : DistOk n E dist) {s : Nat} (hs : s < n) : dist s s = 0 := by
  have := D.low s s 0 hs hs rfl
  omega
theorem DistOk.sym (D : DistOk n E dist) {s v : Nat} (hs : s < n) (hv : v < n) : dist s v = dist v s := by
  have h1 := D.low s v _ hs hv (D.walk v s hv hs).rev
  have h2 := D.low v s _ hv hs (D.walk s v hs hv).rev
  omega
theorem DistOk.tri (D : DistOk n E dist) {s u v : Nat} (hs : s < n) (hu : u < n) (hv : v < n) : dist s v ≤ dist s u + dist u v := by
  have := D.low s v _ hs hv ((D.walk u v hu hv).trans (D.walk s u hs hu))
  omega
theorem DistOk.zero_eq (D : DistOk n E dist) {s v : Nat} (hs : s < n) (hv : v < n) (h : dist s v = 0) : v = s := by
  have w := D.walk s v hs hv
  rw [h] at w
  exact w
theorem DistOk.lip (G : GOk n E) (D : DistOk n E dist) {s u v : Nat} (hs : s < n) (h : Adj E u v) : dist s v ≤ dist s u + 1 := by
  have hl := h.lt G
  have := D.low s v _ hs hl.2.1 ((Wlk.one h.symm).trans (D.walk s u hs hl.1))
  omega
theorem DistOk.pre (G : GOk n E) (D : DistOk n E dist) {s v : Nat} (hs : s < n) (hv : v < n) (e : v ≠ s) : ∃ u, Adj E v u ∧ u < n ∧ dist s v = dist s u + 1 := by
  have w := D.walk s v hs hv
  cases q : dist s v with
  | zero => exact absurd (D.zero_eq hs hv q) e
  | succ k =>
    rw [q] at w
    obtain ⟨u, h1, h2⟩ := w
    have hu := (h1.lt G).2.1
    have a := D.low s u k hs hu h2
    have b := D.lip G hs h1.symm
    exact ⟨u, h1, hu, by omega⟩
theorem DistOk.from (G : GOk n E) (D : DistOk n E dist) {s : Nat} (hs : s < n) : FromOk n E s (dist s) :=
  ⟨D.self hs, fun u v h => D.lip G hs h, fun v hv e => let ⟨u, h1, _, h2⟩ := D.pre G hs hv e; ⟨u, h1, h2⟩⟩
/-- every distance is less than n: by what is left out .. -/
theorem DistOk.lt_aux (G : GOk n E) (D : DistOk n E dist) {s : Nat} (hs : s < n) : ∀ (k v : Nat), v < n → dist s v = k → ∃ l : List Nat, l.Nodup ∧ l.length = k + 1 ∧ ∀ x ∈ l, x < n ∧ dist s x ≤ k
  | 0, v, hv, h => ⟨[v], by simp, rfl, fun x hx => by rw [List.mem_singleton.mp hx]; exact ⟨hv, by omega⟩⟩
  | k + 1, v, hv, h => by
    have e : v ≠ s := fun z => by rw [z, D.self hs] at h; cases h
    obtain ⟨u, _, hu, h2⟩ := D.pre G hs hv e
    obtain ⟨l, nd, hl, hx⟩ := D.lt_aux G hs k u hu (by omega)
    refine ⟨v :: l, List.nodup_cons.mpr ⟨fun hm => ?_, nd⟩, by simp [hl], fun x hm => ?_⟩
    · have := (hx v hm).2; omega
    · rcases List.mem_cons.mp hm with rfl | hm
      · exact ⟨hv, by omega⟩
      · exact ⟨(hx x hm).1, by have := (hx x hm).2; omega⟩
theorem nodup_le : ∀ {n : Nat} {l : List Nat}, l.Nodup → (∀ x ∈ l, x < n) → l.length ≤ n := by
  intro n l nd h
  have : l ⊆ List.range n := fun x hx => List.mem_range.mpr (h x hx)
  have := nd.length_le_of_subset this
  simpa using this
theorem DistOk.lt (G : GOk n E) (D : DistOk n E dist) {s v : Nat} (hs : s < n) (hv : v < n) : dist s v < n := by
  obtain ⟨l, nd, hl, hx⟩ := D.lt_aux G hs _ v hv rfl
  have := nodup_le nd fun x hm => (hx x hm).1
  omega
end
/-! ### heights -/
/-- h goes up or down by one along each edge -/
def Stp (E : List Ed) (h : Nat → Int) : Prop := ∀ e ∈ E, h e.1 - h e.2 = 1 ∨ h e.2 - h e.1 = 1
theorem Stp.adj {E : List Ed} {h : Nat → Int} (s : Stp E h) {u v : Nat} (a : Adj E u v) : h u - h v = 1 ∨ h v - h u = 1 := by
  rcases a with a | a
  · exact s _ a
  · exact (s _ a).symm
theorem Stp.walk {E : List Ed} {h : Nat → Int} (s : Stp E h) : ∀ {k u v : Nat}, Wlk E k u v → h u - h v ≤ k ∧ h v - h u ≤ k ∧ (h u - h v - k) % 2 = 0
  | 0, u, v, w => by cases (show u = v from w); omega
  | k + 1, u, v, ⟨x, h1, h2⟩ => by
    have a := s.adj h1
    have b := s.walk h2
    omega
/-- h has the told heights -/
def Tld (n : Nat) (t : Nat → Option Int) (h : Nat → Int) : Prop := ∀ v x, v < n → t v = some x → h v = x
/-- no odd closed walk -/
def Bip (E : List Ed) (d0 : Nat → Nat) : Prop := ∀ e ∈ E, d0 e.1 % 2 ≠ d0 e.2 % 2
theorem Bip.walk {E : List Ed} {d0 : Nat → Nat} (b : Bip E d0) : ∀ {k u v : Nat}, Wlk E k u v → (d0 u + d0 v + k) % 2 = 0
  | 0, u, v, w => by cases (show u = v from w); omega
  | k + 1, u, v, ⟨x, h1, h2⟩ => by
    have z := b.walk h2
    have : d0 u % 2 ≠ d0 x % 2 := by
      rcases h1 with h1 | h1
      · exact b _ h1
      · exact Ne.symm (b _ h1)
    omega
/-- the told heights fit pairwise -/
structure Fits (n : Nat) (dist : Nat → Nat → Nat) (t : Nat → Option Int) : Prop where
  far : ∀ u v x y, u < n → v < n → t u = some x → t v = some y → x - y ≤ dist u v
  par : ∀ u v x y, u < n → v < n → t u = some x → t v = some y → (x - y - dist u v) % 2 = 0
/-- the least of told + distance, over the vertices below k -/
def upTo (t : Nat → Option Int) (dv : Nat → Nat) : Nat → Option Int
  | 0 => none
  | k + 1 => match t k, upTo t dv k with
    | some x, some m => some (min (x + dv k) m)
    | some x, none => some (x + dv k)
    | none, m => m
theorem upTo_none {t : Nat → Option Int} {dv : Nat → Nat} : ∀ {k : Nat}, upTo t dv k = none → ∀ u, u < k → t u = none
  | 0, _, u, h => absurd h (Nat.not_lt_zero _)
  | k + 1, e, u, h => by
    unfold upTo at e
    cases q : t k with
    | some x => rw [q] at e; cases q2 : upTo t dv k <;> rw [q2] at e <;> cases e
    | none =>
      rw [q] at e
      by_cases hu : u = k
      · rw [hu]; exact q
      · exact upTo_none (k := k) (by simpa using e) u (by omega)
theorem upTo_some {t : Nat → Option Int} {dv : Nat → Nat} : ∀ {k : Nat} {m : Int}, upTo t dv k = some m → (∃ u x, u < k ∧ t u = some x ∧ m = x + dv u) ∧ ∀ u x, u < k → t u = some x → m ≤ x + dv u
  | 0, m, h => by cases h
  | k + 1, m, e => by
    unfold upTo at e
    cases q : t k with
    | none =>
      rw [q] at e
      obtain ⟨⟨u, x, h1, h2, h3⟩, h4⟩ := upTo_some (k := k) (m := m) (by simpa using e)
      refine ⟨⟨u, x, by omega, h2, h3⟩, fun u' x' hu' hx' => ?_⟩
      by_cases hu : u' = k
      · rw [hu, q] at hx'; cases hx'
      · exact h4 u' x' (by omega) hx'
    | some x =>
      rw [q] at e
      cases q2 : upTo t dv k with
      | none =>
        rw [q2] at e
        have e : x + (dv k : Int) = m := by simpa using e
        refine ⟨⟨k, x, by omega, q, e.symm⟩, fun u' x' hu' hx' => ?_⟩
        by_cases hu : u' = k
        · rw [hu, q] at hx'; cases hx'; rw [hu]; omega
        · have := upTo_none q2 u' (by omega); rw [this] at hx'; cases hx'
      | some m' =>
        rw [q2] at e
        have e : min (x + (dv k : Int)) m' = m := by simpa using e
        obtain ⟨⟨u, y, h1, h2, h3⟩, h4⟩ := upTo_some q2
        refine ⟨?_, fun u' x' hu' hx' => ?_⟩
        · by_cases hm : x + (dv k : Int) ≤ m'
          · exact ⟨k, x, by omega, q, by omega⟩
          · exact ⟨u, y, by omega, h2, by omega⟩
        · by_cases hu : u' = k
          · rw [hu, q] at hx'; cases hx'; rw [hu]; omega
          · have := h4 u' x' (by omega) hx'; omega
/-- the greatest heights -/
def top_ (n : Nat) (dist : Nat → Nat → Nat) (t : Nat → Option Int) (v : Nat) : Int := (upTo t (fun u => dist u v) n).getD 0
section
variable {n : Nat} {E : List Ed} {dist : Nat → Nat → Nat} {t : Nat → Option Int}
theorem top_spec (hk : ∃ u x, u < n ∧ t u = some x) (v : Nat) : (∃ u x, u < n ∧ t u = some x ∧ top_ n dist t v = x + dist u v) ∧ ∀ u x, u < n → t u = some x → top_ n dist t v ≤ x + dist u v := by
  unfold top_
  cases q : upTo t (fun u => dist u v) n with
  | none =>
    obtain ⟨u, x, hu, hx⟩ := hk
    rw [upTo_none q u hu] at hx
    cases hx
  | some m => exact upTo_some q
/-- they are heights, if the told heights fit -/
theorem top_hts (G : GOk n E) (D : DistOk n E dist) (b : Bip E (dist 0)) (f : Fits n dist t) (hk : ∃ u x, u < n ∧ t u = some x) : Stp E (top_ n dist t) ∧ Tld n t (top_ n dist t) := by
  have lip : ∀ u v, Adj E u v → top_ n dist t v ≤ top_ n dist t u + 1 := fun u v a => by
    obtain ⟨⟨w, x, hw, hx, e⟩, _⟩ := top_spec (dist := dist) hk u
    have h2 := (top_spec (dist := dist) hk v).2 w x hw hx
    have := D.lip G hw a
    omega
  have par : ∀ u v, Adj E u v → (top_ n dist t v - top_ n dist t u) % 2 ≠ 0 := fun u v a => by
    obtain ⟨⟨w, x, hw, hx, e⟩, _⟩ := top_spec (dist := dist) hk u
    obtain ⟨⟨w', x', hw', hx', e'⟩, _⟩ := top_spec (dist := dist) hk v
    have hl := a.lt G
    have h1 := f.par w w' x x' hw hw' hx hx'
    have h2 := b.walk (D.walk w u hw hl.1)
    have h3 := b.walk (D.walk w' v hw' hl.2.1)
    have h4 := b.walk (D.walk w w' hw hw')
    have h5 := b.walk (Wlk.one a)
    omega
  refine ⟨fun e he => ?_, fun v x hv hx => ?_⟩
  · have a : Adj E e.1 e.2 := .inl he
    have h1 := lip _ _ a
    have h2 := lip _ _ a.symm
    have h3 := par _ _ a
    omega
  · obtain ⟨⟨w, y, hw, hy, e⟩, h2⟩ := top_spec (dist := dist) hk v
    have h3 := h2 v x hv hx
    have h4 := D.self hv
    have h5 := f.far v w x y hv hw hx hy
    have h6 := D.sym hv hw
    omega
/-- heights fit: the told heights too, and there is no odd closed walk -/
theorem fits_of (D : DistOk n E dist) {h : Nat → Int} (s : Stp E h) (l : Tld n t h) : Fits n dist t :=
  ⟨fun u v x y hu hv hx hy => by
    have := s.walk (D.walk u v hu hv)
    rw [l u x hu hx, l v y hv hy] at this
    omega, fun u v x y hu hv hx hy => by
    have := s.walk (D.walk u v hu hv)
    rw [l u x hu hx, l v y hv hy] at this
    omega⟩
theorem bip_of (G : GOk n E) (D : DistOk n E dist) {h : Nat → Int} (s : Stp E h) : Bip E (dist 0) := fun e he => by
  have a : Adj E e.1 e.2 := .inl he
  have hl := a.lt G
  have h1 := s.walk (D.walk 0 e.1 (by have := G.pos; omega) hl.1)
  have h2 := s.walk (D.walk 0 e.2 (by have := G.pos; omega) hl.2.1)
  have h3 := s.adj a
  omega
/-- no heights are greater -/
theorem top_max (D : DistOk n E dist) (hk : ∃ u x, u < n ∧ t u = some x) {h : Nat → Int} (s : Stp E h) (l : Tld n t h) {v : Nat} (hv : v < n) : h v ≤ top_ n dist t v ∧ (top_ n dist t v - h v) % 2 = 0 := by
  obtain ⟨⟨w, x, hw, hx, e⟩, _⟩ := top_spec (dist := dist) hk v
  have := s.walk (D.walk w v hw hv)
  rw [l w x hw hx] at this
  omega
end
end VL

/-! M6: the search of the program: distances. -/
namespace VL
open PySem PySem.Spec PyProof.Rows L2
local macro_rules | `(tactic| walk_at "go") => `(tactic| simp only [List.map, List.length_cons, List.length_nil, List.replicate, List.cons_append, List.nil_append, Nat.reduceAdd, Nat.reduceSub, Nat.add_zero, Nat.zero_add])
local macro_rules | `(tactic| walk_at "st") => `(tactic| simp only [List.set_cons_zero, List.set_cons_succ])
def kD : Option Nat → D
  | none => .non
  | some k => nD k
/-- a list over the vertices -/
def row {α : Type} (n : Nat) (f : Nat → α) : List α := (List.range n).map f
theorem row_get {α : Type} {n : Nat} {f : Nat → α} {v : Nat} (h : v < n) : (row n f)[v]? = some (f v) := by
  unfold row
  rw [List.getElem?_map, List.getElem?_range h]
  rfl
theorem row_len {α : Type} (n : Nat) (f : Nat → α) : (row n f).length = n := by simp [row]
def upF {α : Type} (f : Nat → α) (u : Nat) (x : α) : Nat → α := fun w => if w = u then x else f w
theorem row_set {α : Type} {n : Nat} {f : Nat → α} {u : Nat} {x : α} : (row n f).set u x = row n (upF f u x) := by
  apply List.ext_getElem?
  intro i
  unfold row
  rw [List.getElem?_set]
  by_cases hi : i < n
  · by_cases h : u = i
    · subst h
      rw [if_pos rfl]
      simp [hi, upF]
    · rw [if_neg h]
      simp [hi, upF, Ne.symm h]
  · by_cases h : u = i
    · subst h; simp [hi]
    · rw [if_neg h]; simp [hi]
theorem row_map {α β : Type} {n : Nat} {f : Nat → α} {g : α → β} : (row n f).map g = row n fun v => g (f v) := by simp [row, Function.comp_def]
theorem row_const {α : Type} (n : Nat) (x : α) : List.replicate n x = row n fun _ => x := by
  apply List.ext_getElem?
  intro i
  unfold row
  by_cases hi : i < n <;> simp [hi]
/-- how many are not found yet -/
def cnt (f : Nat → Option Nat) : Nat → Nat
  | 0 => 0
  | n + 1 => (if f n = none then 1 else 0) + cnt f n
theorem cnt_le (f : Nat → Option Nat) : ∀ n, cnt f n ≤ n
  | 0 => Nat.le_refl 0
  | n + 1 => by have := cnt_le f n; unfold cnt; split <;> omega
theorem cnt_up {f : Nat → Option Nat} {u k : Nat} (h : f u = none) : ∀ {n : Nat}, (u < n → cnt (upF f u (some k)) n + 1 = cnt f n) ∧ (n ≤ u → cnt (upF f u (some k)) n = cnt f n)
  | 0 => ⟨fun h => absurd h (Nat.not_lt_zero _), fun _ => rfl⟩
  | n + 1 => by
    have ih := cnt_up (k := k) h (n := n)
    unfold cnt
    constructor
    · intro hu
      by_cases e : u = n
      · subst e
        rw [ih.2 (Nat.le_refl _)]
        simp [upF, h]
        omega
      · have e2 : upF f u (some k) n = f n := by simp [upF, Ne.symm e]
        rw [e2, ← ih.1 (by omega)]
        omega
    · intro hu
      have e2 : upF f u (some k) n = f n := by simp [upF]; intro z; omega
      rw [e2, ih.2 (by omega)]
theorem upF_kD {f : Nat → Option Nat} {u k : Nat} : upF (fun v => kD (f v)) u (nD k) = fun v => kD (upF f u (some k) v) := by
  funext w
  by_cases z : w = u <;> simp [upF, z, kD]
def val (f : Nat → Option Nat) (v : Nat) : Nat := (f v).getD 0
/-- between two turns -/
structure BInv (n : Nat) (E : List Ed) (s : Nat) (f : Nat → Option Nat) (q : List Nat) : Prop where
  st : f s = some 0
  dom : ∀ v k, f v = some k → v < n
  qin : ∀ v ∈ q, ∃ k, f v = some k
  pre : ∀ v k, f v = some k → v = s ∨ ∃ u k', f u = some k' ∧ Adj E v u ∧ k = k' + 1
  srt : q.Pairwise fun a b => val f a ≤ val f b
theorem dist_search {n : Nat} {E : List Ed} (G : GOk n E) {s : Nat} (hs : s < n) : ∃ d : Nat → Nat, FromOk n E s d ∧ g_distances [gD n E, nD s] = .ok (.lst (row n fun v => nD (d v))) := by
  have main : ∃ d, g_distances [gD n E, nD s] = .ok d ∧ ∃ dd : Nat → Nat, FromOk n E s dd ∧ d = .lst (row n fun v => nD (dd v)) := by
    refine run_some fun Q hQ => ?_
    walk_at "go"
    unfold m_distances
    have g0 : oIx (gD n E) (.int 0) = .ok (nD n) := by unfold gD; simp
    have g1 : oIx (gD n E) (.int 1) = .ok (.tup (E.map eD)) := by unfold gD; simp
    refine wp_stp (mSetN_ok (d := row n fun _ => .non) (by rw [mRep_ok (xs := [.non]) (k := n) (by simp [mLst]) (by simp [g0]) (by simp) (by have := G.le; omega), rep_one, row_const])) ?_
    walk_at "st"
    refine wp_stp (mPut_ok (k := s) (xs := row n fun _ => .non) (d := .int 0) rfl (by simp) (by simp) (by rw [row_len]; exact hs)) ?_
    walk_at "st"
    refine wp_stp (mSetN_ok (d := [nD s]) (by simp [mLst])) ?_
    walk_at "st"
    rw [row_set, wp_seq]
    refine wp_while (fun m ρ => ∃ (f : Nat → Option Nat) (q : List Nat) (a4 a5 a6 : A), ρ = [.d (gD n E), .d (nD s), .m (row n fun v => kD (f v)), .m (q.map nD), a4, a5, a6] ∧ m = 2 * cnt f n + q.length ∧ 2 * cnt f n + q.length ≤ 100 ∧ BInv n E s f q ∧
      (∀ v k, f v = some k → v ∉ q → ∀ u, Adj E v u → ∃ k', f u = some k' ∧ k' ≤ k + 1) ∧ ∀ h r, q = h :: r → ∀ v k, f v = some k → k ≤ val f h + 1) (2 * cnt (upF (fun _ => none) s (some 0)) n + 1) (by have := cnt_le (upF (fun _ => none) s (some 0)) n; have := G.le; omega)
      ⟨upF (fun _ => none) s (some 0), [s], .un, .un, .un, ?_, rfl, by have := cnt_le (upF (fun _ => none) s (some 0)) n; have := G.le; simp; omega, ⟨by simp [upF], ?_, ?_, ?_, by simp⟩, ?_, ?_⟩ ?_
    · congr 3
      apply congrArg A.m
      unfold row
      apply List.map_congr_left
      intro v _
      by_cases h : v = s <;> simp [upF, h, kD]
    · intro v k h
      by_cases e : v = s
      · omega
      · simp [upF, e] at h
    · intro v hv
      rw [List.mem_singleton.mp hv]
      exact ⟨0, by simp [upF]⟩
    · intro v k h
      by_cases e : v = s
      · exact .inl e
      · simp [upF, e] at h
    · intro v k h hq
      by_cases e : v = s
      · exact absurd (by simp [e]) hq
      · simp [upF, e] at h
    · intro h r e v k hk
      by_cases e2 : v = s
      · simp [upF, e2] at hk; omega
      · simp [upF, e2] at hk
    · rintro m ρ ⟨f, q, a4, a5, a6, rfl, rfl, h100, I, hdone, htop⟩
      cases q with
      | nil =>
        refine ⟨false, by simp, fun h => (Bool.false_ne_true h).elim, fun _ => ?_⟩
        rw [thn_nx]
        have all : ∀ v, v < n → ∃ k, f v = some k := by
          have down : ∀ v, (∃ k, f v = some k) → ∃ k, f 0 = some k := by
            intro v
            induction v using Nat.strongRecOn with
            | _ v ih =>
              rintro ⟨k, hk⟩
              by_cases e : v = 0
              · subst e; exact ⟨k, hk⟩
              · obtain ⟨u, hu, he⟩ := G.con v (I.dom v k hk) e
                obtain ⟨k', h1, _⟩ := hdone v k hk (by simp) u (.inr he)
                exact ih u hu ⟨k', h1⟩
          have zero := down s ⟨0, I.st⟩
          intro v
          induction v using Nat.strongRecOn with
          | _ v ih =>
            intro hv
            by_cases e : v = 0
            · subst e; exact zero
            · obtain ⟨u, hu, he⟩ := G.con v hv e
              obtain ⟨k, hk⟩ := ih u hu (by omega)
              obtain ⟨k', h1, _⟩ := hdone u k hk (by simp) v (.inl he)
              exact ⟨k', h1⟩
        refine wp_end (mRetN_m (xs := row n fun v => kD (f v)) rfl) (hQ _ ⟨val f, ⟨by unfold val; rw [I.st]; rfl, fun u v a => ?_, fun v hv e => ?_⟩, ?_⟩)
        · have hl := a.lt G
          obtain ⟨k, hk⟩ := all u hl.1
          obtain ⟨k', h1, h2⟩ := hdone u k hk (by simp) v a
          unfold val
          rw [hk, h1]
          exact h2
        · obtain ⟨k, hk⟩ := all v hv
          rcases I.pre v k hk with h | ⟨u, k', h1, h2, h3⟩
          · exact absurd h e
          · exact ⟨u, h2, by unfold val; rw [hk, h1]; exact h3⟩
        · congr 1
          unfold row
          apply List.map_congr_left
          intro v hv
          obtain ⟨k, hk⟩ := all v (List.mem_range.mp hv)
          simp [val, hk, kD]
      | cons v q =>
        refine ⟨true, by simp, fun _ Q' hQ' => ?_, fun h => (Bool.false_ne_true h.symm).elim⟩
        obtain ⟨kv, hkv⟩ := I.qin v List.mem_cons_self
        have hvn := I.dom v kv hkv
        refine wp_stp (mPop0_ok (xs := q.map nD) (d := nD v) rfl) ?_
        walk_at "st"
        have vv : val f v = kv := by unfold val; rw [hkv]; rfl
        refine wp_for (ds := E.map eD) (fun pre ρ => ∃ (f' : Nat → Option Nat) (q' : List Nat) (a5 a6 : A), ρ = [.d (gD n E), .d (nD s), .m (row n fun v => kD (f' v)), .m (q'.map nD), .d (nD v), a5, a6] ∧ 2 * cnt f' n + q'.length ≤ 2 * cnt f n + q.length ∧ BInv n E s f' q' ∧
          f' v = some kv ∧ (∀ w k, f' w = some k → w ∉ q' → w ≠ v → ∀ u, Adj E w u → ∃ k', f' u = some k' ∧ k' ≤ k + 1) ∧ (∀ e, eD e ∈ pre → (e.1 = v → ∃ k', f' e.2 = some k' ∧ k' ≤ kv + 1) ∧ (e.2 = v → ∃ k', f' e.1 = some k' ∧ k' ≤ kv + 1)) ∧
          (∀ w k, f' w = some k → k ≤ kv + 1) ∧ ∀ w ∈ q', kv ≤ val f' w) (by simp [g1, mItemsA]) ?_ ?_ ?_
        · refine ⟨f, q, a5, a6, rfl, Nat.le_refl _, ⟨I.st, I.dom, fun w hw => I.qin w (List.mem_cons_of_mem _ hw), I.pre, (List.pairwise_cons.mp I.srt).2⟩, hkv, fun w k hw hq hv u a => hdone w k hw (fun z => ?_) u a, by simp, fun w k hw => ?_, fun w hw => ?_⟩
          · rcases List.mem_cons.mp z with z | z
            · exact hv z
            · exact hq z
          · have := htop v q rfl w k hw
            omega
          · have := (List.pairwise_cons.mp I.srt).1 w hw
            omega
        · rintro pre d r ρ e ⟨f', q', a5, a6, rfl, hm, I', hv', hd', hdv, htp, hlo⟩
          obtain ⟨⟨a, b⟩, rfl, hget, _⟩ := split_map e
          have hab : (a, b) ∈ E := List.mem_of_getElem? hget
          have hed := G.ed _ hab
          simp only at hed
          refine ⟨_, rfl, fun Q'' hQ'' => ?_⟩
          walk_at "st"
          have hin : oIn (nD v) (eD (a, b)) = .ok (.bl (decide (v = a ∨ v = b))) := by
            rw [eD_eq]
            refine oIn_tup (by simp [pln]) (by simp [pln, plns]) ?_
            simp
            omega
          have keep : (v ≠ a ∧ v ≠ b) → Q'' (.nx [.d (gD n E), .d (nD s), .m (row n fun v => kD (f' v)), .m (q'.map nD), .d (nD v), .d (eD (a, b)), a6]) := fun hne =>
            hQ'' _ ⟨f', q', _, _, rfl, hm, I', hv', hd', fun e he => by
              rcases List.mem_append.mp he with he | he
              · exact hdv e he
              · obtain rfl := eD_inj (List.mem_singleton.mp he)
                exact ⟨fun z => absurd z.symm hne.1, fun z => absurd z.symm hne.2⟩, htp, hlo⟩
          refine wp_if (b := decide (v = a ∨ v = b)) (by simp only [mT_eq, mBin_eq, mB_eq, List.getElem?_cons_succ, List.getElem?_cons_zero, bw_d, R.bind_ok, hin, boolOf_bl]) (fun hb => ?_) (fun hb => ?_)
          · have hb := of_decide_eq_true hb
            obtain ⟨u, hu, hun, huv⟩ : ∃ u : Nat, (a : Int) + b - v = (u : Int) ∧ u < n ∧ ((v = a ∧ u = b) ∨ (v = b ∧ u = a)) := by
              rcases hb with rfl | rfl
              · exact ⟨b, by omega, by omega, .inl ⟨rfl, rfl⟩⟩
              · exact ⟨a, by omega, by omega, .inr ⟨rfl, rfl⟩⟩
            have adj : Adj E v u := by rcases huv with ⟨rfl, rfl⟩ | ⟨rfl, rfl⟩; exact .inl hab; exact .inr hab
            have hne : u ≠ v := by omega
            refine wp_stp (mSet_ok (d := nD u) (by simp [eD_eq, hu])) ?_
            walk_at "st"
            have gu : oIx (.lst (row n fun v => kD (f' v))) (nD u) = .ok (kD (f' u)) := oIx_lst (row_get hun)
            have gv : oIx (.lst (row n fun v => kD (f' v))) (nD v) = .ok (nD kv) := oIx_lst (by rw [row_get hvn, hv']; rfl)
            refine wp_if (b := isNon (kD (f' u))) (by simp [gu]) (fun hn => ?_) (fun hn => ?_)
            · have hfu : f' u = none := by
                cases q2 : f' u with
                | none => rfl
                | some k => rw [q2] at hn; cases hn
              refine wp_stp (mPut_ok (k := u) (xs := row n fun v => kD (f' v)) (d := nD (kv + 1)) rfl (by simp [gv]) (by simp) (by rw [row_len]; exact hun)) ?_
              walk_at "st"
              have ext : ∀ {w k}, f' w = some k → upF f' u (some (kv + 1)) w = some k := fun {w k} h => by
                have : w ≠ u := fun z => by rw [z, hfu] at h; cases h
                simp [upF, this, h]
              have new : upF f' u (some (kv + 1)) u = some (kv + 1) := by simp [upF]
              have back : ∀ {w k}, upF f' u (some (kv + 1)) w = some k → (w = u ∧ k = kv + 1) ∨ (w ≠ u ∧ f' w = some k) := fun {w k} h => by
                by_cases z : w = u
                · subst z; rw [new] at h; cases h; exact .inl ⟨rfl, rfl⟩
                · simp [upF, z] at h; exact .inr ⟨z, h⟩
              have vsame : ∀ {w}, w ∈ q' → val (upF f' u (some (kv + 1))) w = val f' w := fun {w} hw => by
                obtain ⟨k, hk⟩ := I'.qin w hw
                unfold val
                rw [ext hk, hk]
              have vnew : val (upF f' u (some (kv + 1))) u = kv + 1 := by unfold val; rw [new]; rfl
              refine wp_end (mApp_ok (xs := q'.map nD) (d := nD u) rfl (by simp) (by simp at h100; simp; omega)) (hQ'' _ ⟨upF f' u (some (kv + 1)), q' ++ [u], .d (eD (a, b)), .d (nD u), ?_, ?_, ⟨ext I'.st, fun w k h => ?_, fun w h => ?_, fun w k h => ?_, ?_⟩, ext hv', ?_, ?_, ?_, ?_⟩)
              · rw [row_set, upF_kD, List.map_append]
                rfl
              · have := (cnt_up (k := kv + 1) hfu (n := n)).1 hun
                simp
                omega
              · rcases back h with ⟨rfl, _⟩ | ⟨_, h⟩
                · exact hun
                · exact I'.dom w k h
              · rcases List.mem_append.mp h with h | h
                · obtain ⟨k, hk⟩ := I'.qin w h
                  exact ⟨k, ext hk⟩
                · rw [List.mem_singleton.mp h]; exact ⟨_, new⟩
              · rcases back h with ⟨rfl, rfl⟩ | ⟨_, h⟩
                · exact .inr ⟨v, kv, ext hv', adj.symm, rfl⟩
                · rcases I'.pre w k h with h | ⟨x, k', h1, h2, h3⟩
                  · exact .inl h
                  · exact .inr ⟨x, k', ext h1, h2, h3⟩
              · rw [List.pairwise_append]
                refine ⟨I'.srt.imp_of_mem fun {x y} hx hy h => by rw [vsame hx, vsame hy]; exact h, by simp, fun x hx y hy => ?_⟩
                rw [List.mem_singleton.mp hy, vnew, vsame hx]
                obtain ⟨k, hk⟩ := I'.qin x hx
                have := htp x k hk
                unfold val
                rw [hk]
                exact this
              · intro w k hw hq hwv x ax
                rcases back hw with ⟨rfl, _⟩ | ⟨_, hw⟩
                · exact absurd (List.mem_append_right _ (by simp)) hq
                · obtain ⟨k', h1, h2⟩ := hd' w k hw (fun z => hq (List.mem_append_left _ z)) hwv x ax
                  exact ⟨k', ext h1, h2⟩
              · intro e he
                rcases List.mem_append.mp he with he | he
                · obtain ⟨h1, h2⟩ := hdv e he
                  exact ⟨fun z => let ⟨k', a1, a2⟩ := h1 z; ⟨k', ext a1, a2⟩, fun z => let ⟨k', a1, a2⟩ := h2 z; ⟨k', ext a1, a2⟩⟩
                · obtain rfl := eD_inj (List.mem_singleton.mp he)
                  refine ⟨fun z => ⟨kv + 1, ?_, Nat.le_refl _⟩, fun z => ⟨kv + 1, ?_, Nat.le_refl _⟩⟩
                  · have : b = u := by simp only at z; omega
                    rw [← this] at new ⊢; exact new
                  · have : a = u := by simp only at z; omega
                    rw [← this] at new ⊢; exact new
              · intro w k hw
                rcases back hw with ⟨_, rfl⟩ | ⟨_, hw⟩
                · exact Nat.le_refl _
                · exact htp w k hw
              · intro w hw
                rcases List.mem_append.mp hw with hw | hw
                · rw [vsame hw]; exact hlo w hw
                · rw [List.mem_singleton.mp hw, vnew]; omega
            · obtain ⟨k, hk⟩ : ∃ k, f' u = some k := by
                cases q2 : f' u with
                | none => rw [q2] at hn; cases hn
                | some k => exact ⟨k, rfl⟩
              rw [mSkip_eq, wp_ok]
              refine hQ'' _ ⟨f', q', _, _, rfl, hm, I', hv', hd', fun e he => ?_, htp, hlo⟩
              rcases List.mem_append.mp he with he | he
              · exact hdv e he
              · obtain rfl := eD_inj (List.mem_singleton.mp he)
                have := htp u k hk
                refine ⟨fun z => ⟨k, ?_, this⟩, fun z => ⟨k, ?_, this⟩⟩
                · have : b = u := by simp only at z; omega
                  show f' b = some k
                  rw [this]; exact hk
                · have : a = u := by simp only at z; omega
                  show f' a = some k
                  rw [this]; exact hk
          · have hb := of_decide_eq_false hb
            rw [mSkip_eq, wp_ok]
            exact keep (by omega)
        · rintro ρ ⟨f', q', a5, a6, rfl, hm, I', hv', hd', hdv, htp, hlo⟩
          refine hQ' _ (2 * cnt f' n + q'.length) (by simp; omega) ⟨f', q', _, _, _, rfl, rfl, by simp at h100; omega, I', fun w k hw hq u a => ?_, fun h r e w k hw => ?_⟩
          · by_cases z : w = v
            · subst z
              rw [hv'] at hw
              cases hw
              rcases a with a | a
              · exact (hdv (w, u) (mem_eD.mpr a)).1 rfl
              · exact (hdv (u, w) (mem_eD.mpr a)).2 rfl
            · exact hd' w k hw hq z u a
          · have h1 := htp w k hw
            have h2 := hlo h (by rw [e]; exact List.mem_cons_self)
            omega
  obtain ⟨d, h, dd, h1, rfl⟩ := main
  exact ⟨dd, h1, h⟩
end VL

/-! M7: the program's checks at the laws' graphs; neighbors. -/
namespace VL
open PySem PySem.Spec PyProof.Rows L2
local macro_rules | `(tactic| walk_at "go") => `(tactic| simp only [List.map, List.length_cons, List.length_nil, List.replicate, List.cons_append, List.nil_append, Nat.reduceAdd, Nat.reduceSub, Nat.add_zero, Nat.zero_add])
local macro_rules | `(tactic| walk_at "st") => `(tactic| simp only [List.set_cons_zero, List.set_cons_succ])
theorem dists_ex {n : Nat} {E : List Ed} (G : GOk n E) : ∃ dist, DistOk n E dist ∧ ∀ s, s < n → g_distances [gD n E, nD s] = .ok (.lst (row n fun v => nD (dist s v))) := by
  have h : ∀ s, ∃ d : Nat → Nat, s < n → FromOk n E s d ∧ g_distances [gD n E, nD s] = .ok (.lst (row n fun v => nD (d v))) := fun s => by
    by_cases hs : s < n
    · obtain ⟨d, h⟩ := dist_search G hs
      exact ⟨d, fun _ => h⟩
    · exact ⟨fun _ => 0, fun h => absurd h hs⟩
  exact ⟨fun s => Classical.choose (h s), distOk_of G fun s hs => (Classical.choose_spec (h s) hs).1, fun s hs => (Classical.choose_spec (h s) hs).2⟩
theorem in_range_int (i lo hi : Int) : g_in_range [.int i, .int lo, .int hi] = .ok (.bl (decide (lo ≤ i ∧ i ≤ hi))) := by
  refine run_of fun Q hQ => ?_
  walk_at "go"
  unfold m_in_range
  refine wp_end (mRet_ok (d := .bl (decide (lo ≤ i ∧ i ≤ hi))) ?_) hQ
  rw [mAndV_ok (a := true) (by simp) (fun _ => mAndV_ok (a := true) (by simp) (fun _ => mChain_le (i := lo) (j := i) (k := hi) (by simp) (by simp) (by simp)))]
  simp
theorem gD0 (n : Nat) (E : List Ed) : oIx (gD n E) (.int 0) = .ok (nD n) := by unfold gD; simp
theorem gD1 (n : Nat) (E : List Ed) : oIx (gD n E) (.int 1) = .ok (.tup (E.map eD)) := by unfold gD; simp
theorem eD0 (e : Ed) : oIx (eD e) (.int 0) = .ok (nD e.1) := by rw [eD_eq]; simp
theorem eD1 (e : Ed) : oIx (eD e) (.int 1) = .ok (nD e.2) := by rw [eD_eq]; simp
theorem is_edge_ok {n : Nat} {e : Ed} (h : e.1 < e.2 ∧ e.2 < n) : g_is_edge [nD n, eD e] = .ok (.bl true) := by
  refine run_of fun Q hQ => ?_
  walk_at "go"
  unfold m_is_edge
  refine wp_seq_if (b := false || (false || false)) (mOr_ok (by simp [eD_eq]) fun _ => mOr_ok (by simp [eD_eq]) fun _ => ?_) (fun z => by cases z) (fun _ => ?_)
  · simp [eD0, in_range_int]
    omega
  · rw [mSkip_eq, wp_ok, thn_nx]
    refine wp_end (mRet_ok (d := .bl true) ?_) hQ
    simp [eD0, eD1, in_range_int]
    omega
theorem zipD_mem : ∀ {xs ys : List D} {d : D}, d ∈ zipD xs ys → ∃ (i : Nat) (x y : D), xs[i]? = some x ∧ ys[i]? = some y ∧ d = .tup [x, y]
  | [], _, _, h => by simp [zipD] at h
  | _ :: _, [], _, h => by simp [zipD] at h
  | x :: xs, y :: ys, d, h => by
    simp only [zipD, List.mem_cons] at h
    rcases h with rfl | h
    · exact ⟨0, x, y, rfl, rfl, rfl⟩
    · obtain ⟨i, x', y', h1, h2, h3⟩ := zipD_mem h
      exact ⟨i + 1, x', y', by simpa using h1, by simpa using h2, h3⟩
theorem cutD_from (xs : List D) (k : Nat) : cutD xs (some (k : Int)) none = xs.drop k := by
  unfold cutD
  rw [HT.sIx_nat, HT.sIx_none]
  by_cases h : k ≤ xs.length
  · rw [Nat.min_eq_left h]
    exact List.take_of_length_le (by simp)
  · rw [Nat.min_eq_right (by omega), List.drop_length, List.drop_eq_nil_of_le (by omega)]
    simp
theorem oSl_from (xs : List D) (k : Nat) : oSl (.tup xs) (some (k : Int)) none = .ok (.tup (xs.drop k)) := by
  show R.ok (D.tup (cutD xs (some (k : Int)) none)) = _
  rw [cutD_from]
theorem oSl_from1 (xs : List D) : oSl (.tup xs) (some 1) none = .ok (.tup (xs.drop 1)) := oSl_from xs 1
theorem mPart_ok {ma : Rho → R D} {ρ : Rho} {i : Int} (h : ma ρ = .ok (.int i)) : mPart ma ρ = .ok (some i) := by unfold mPart; rw [h]; rfl
theorem geI_eD {e f : Ed} (h : eLt e f) : oGe (eD e) (eD f) = .ok (.bl false) := by
  have z : oGe (eD e) (eD f) = .ok (.bl (geI (eI e) (eI f))) := by
    show intsOk (fun ns => intsOk (fun ms => R.ok (D.bl (geI ns ms))) ((eI f).map D.int)) ((eI e).map D.int) = _
    rw [intsOk_ints, intsOk_ints]
  rw [z]
  congr 2
  unfold geI
  simp only [eI, List.length_cons, List.length_nil, Nat.zero_add, Nat.reduceAdd, Nat.min_self]
  rw [Ob.lexAt_succ]
  unfold eLt at h
  by_cases h1 : e.1 = f.1
  · rw [if_pos (by simp [h1]), Ob.lexAt_succ, if_neg (by simp; omega)]
    simp
    omega
  · rw [if_neg (by simp; omega)]
    simp
    omega
theorem is_graph_ok {n : Nat} {E : List Ed} (G : GOk n E) : g_is_graph [gD n E] = .ok (.bl true) := by
  obtain ⟨dist, DD, hd⟩ := dists_ex G
  have g0 := gD0 n E
  have g1 := gD1 n E
  have hp := G.pos
  have hle := G.le
  have hf := G.few
  refine run_of fun Q hQ => ?_
  walk_at "go"
  unfold m_is_graph
  refine wp_seq_if (b := false || (false || false)) (mOr_ok (by simp [gD]) fun _ => mOr_ok (by simp [gD]) fun _ => by simp [g0, in_range_int]; omega) (fun z => by cases z) (fun _ => ?_)
  rw [mSkip_eq, wp_ok, thn_nx]
  refine wp_seq_if (b := false || false) (mOr_ok (by simp [g1]) fun _ => by simp [g1]; omega) (fun z => by cases z) (fun _ => ?_)
  rw [mSkip_eq, wp_ok, thn_nx]
  refine wp_seq_if (b := false) ?_ (fun z => by cases z) (fun _ => ?_)
  · rw [mTru_eq, mLc_ok (ds := E.map eD) (h := fun _ => none) (by simp [g1, mItemsA]) (by simp; omega) fun d hd => ?_]
    · simp
    · obtain ⟨e, he, rfl⟩ := List.mem_map.mp hd
      refine lcf_f (tName_eq) ?_
      simp [wipeR, g0, is_edge_ok (G.ed e he)]
  rw [mSkip_eq, wp_ok, thn_nx]
  refine wp_seq_if (b := false) ?_ (fun z => by cases z) (fun _ => ?_)
  · have hz : (mIter fZip (mCons (mBin oIx (mB 0) (mC (.int 1))) (mCons (mSl (mBin oIx (mB 0) (mC (.int 1))) (mPart (mC (.int 1))) mNoPart) mNil))) [A.d (gD n E), A.un, A.un] = .ok (zipD (E.map eD) ((E.map eD).drop 1)) := by
      simp only [mIter_eq, mCons_eq, mBin_eq, mB_eq, mC_eq, mNil_eq, mSl_eq, mPart_ok (ma := mC (.int 1)) (i := 1) rfl, mNoPart_eq, List.getElem?_cons_zero, bw_d, R.bind_ok, g1, oSl_from1]
      rfl
    rw [mTru_eq, mLc_ok (ds := zipD (E.map eD) ((E.map eD).drop 1)) (h := fun _ => none) hz (by rw [zipD_len]; simp; omega) fun d hd => ?_]
    · simp
    · obtain ⟨i, x, y, hx, hy, rfl⟩ := zipD_mem hd
      rw [List.getElem?_map] at hx
      rw [List.getElem?_drop, List.getElem?_map] at hy
      cases hx' : E[i]? with
      | none => rw [hx'] at hx; cases hx
      | some e =>
        cases hy' : E[1 + i]? with
        | none => rw [hy'] at hy; cases hy
        | some f =>
          rw [hx'] at hx
          rw [hy'] at hy
          cases hx
          cases hy
          obtain ⟨hi, rfl⟩ := List.getElem?_eq_some_iff.mp hx'
          obtain ⟨hj, rfl⟩ := List.getElem?_eq_some_iff.mp hy'
          have hlt : eLt E[i] E[1 + i] := List.pairwise_iff_getElem.mp G.srt i (1 + i) hi hj (by omega)
          refine lcf_f (tTuple2_eq) ?_
          simp [wipeR, geI_eD hlt]
  rw [mSkip_eq, wp_ok, thn_nx]
  refine wp_end (mRet_ok (d := .bl true) ?_) hQ
  have hd0 := hd 0 (by omega)
  have e0 : g_distances [gD n E, .int 0] = .ok (.lst (row n fun v => nD (dist 0 v))) := hd0
  have z := oNotIn_lst (k := 0) (d := .non) (xs := row n fun v => nD (dist 0 v)) (b := true) (by simp [pln]) (plns_iff.mpr fun x hx => by
    obtain ⟨v, _, rfl⟩ := List.mem_map.mp hx
    simp [pln]) (by omega) ⟨fun _ hm => (by
    obtain ⟨v, _, q⟩ := List.mem_map.mp hm
    cases q), fun _ => rfl⟩
  simp [e0, z]
theorem check_graph_ok {n : Nat} {E : List Ed} (G : GOk n E) : g_check_graph [gD n E] = .ok .non := by
  refine run_none fun Q hQ => ?_
  walk_at "go"
  unfold m_check_graph
  refine wp_if (b := false) (by simp [is_graph_ok G]) (fun z => by cases z) (fun _ => ?_)
  rw [mSkip_eq, wp_ok]
  exact hQ _
/-! ### told heights -/
def tD (n : Nat) (t : Nat → Option Int) : D := .tup (row n fun v => oD (t v))
structure TOk (n : Nat) (t : Nat → Option Int) : Prop where
  some_ : ∃ v x, v < n ∧ t v = some x
  rng : ∀ v x, v < n → t v = some x → -20 ≤ x ∧ x ≤ 20
theorem isNon_oD {o : Option Int} : isNon (oD o) = o.isNone := by cases o <;> rfl
theorem are_told_ok {n : Nat} {E : List Ed} (G : GOk n E) {t : Nat → Option Int} (T : TOk n t) : g_are_told [gD n E, tD n t] = .ok (.bl true) := by
  have g0 := gD0 n E
  have hle := G.le
  refine run_of fun Q hQ => ?_
  walk_at "go"
  unfold m_are_told
  refine wp_seq_if (b := false || false) (mOr_ok (by simp [tD]) fun _ => by simp [g0, tD, row_len]) (fun z => by cases z) (fun _ => ?_)
  rw [mSkip_eq, wp_ok, thn_nx]
  have hk : mLc [3] (mItemsA (mV 1)) (tName 3) (mTest false (mB 3)) (mV 3) [A.d (gD n E), A.d (tD n t), A.un, A.un] = .ok (.lst ((row n fun v => oD (t v)).filterMap fun d => if isNon d = true then none else some d)) := by
    refine mLc_ok (by simp [mItemsA, tD]) (by rw [row_len]; omega) fun d hd => ?_
    cases q : isNon d with
    | true => exact lcf_f tName_eq (by simp [wipeR, q])
    | false => exact lcf_t tName_eq (by simp [wipeR, q]) (by simp [wipeR])
  refine wp_stp (mSet_ok hk) ?_
  walk_at "st"
  generalize hks : ((row n fun v => oD (t v)).filterMap fun d => if isNon d = true then none else some d) = ks
  have hmem : ∀ d ∈ ks, ∃ v x, v < n ∧ t v = some x ∧ d = .int x := fun d hd => by
    rw [← hks] at hd
    obtain ⟨a, ha, e⟩ := List.mem_filterMap.mp hd
    obtain ⟨v, hv, rfl⟩ := List.mem_map.mp ha
    cases q : t v with
    | none => simp [q, oD] at e
    | some x => simp [q, oD] at e; exact ⟨v, x, List.mem_range.mp hv, q, e.symm⟩
  have hne : ks ≠ [] := fun z => by
    obtain ⟨v, x, hv, hx⟩ := T.some_
    have : D.int x ∈ ks := by
      rw [← hks]
      exact List.mem_filterMap.mpr ⟨.int x, List.mem_map.mpr ⟨v, List.mem_range.mpr hv, by rw [hx]; rfl⟩, by simp⟩
    rw [z] at this
    simp at this
  have hlen : ks.length ≤ 8 := by
    have := List.length_filterMap_le (fun d => if isNon d = true then none else some d) (row n fun v => oD (t v))
    rw [hks, row_len] at this
    omega
  have hpl : plns 0 ks = true := plns_iff.mpr fun d hd => by
    obtain ⟨v, x, _, _, rfl⟩ := hmem d hd
    simp [pln]
  refine wp_end (mRet_ok (d := .bl (true && true)) (mAndV_ok ?_ fun _ => ?_)) hQ
  · have z := oNe_ok (k := 1) (d := .lst ks) (e := .lst []) (b := true) (by simpa [pln] using hpl) (by simp [pln, plns]) (by omega) ⟨fun _ e => hne (D.lst.inj e), fun _ => rfl⟩
    simp [mLst, z]
  · rw [mNotT_eq, mLc_ok (ds := ks) (h := fun _ => none) (by simp [mItemsA]) (by omega) fun d hd => ?_]
    · simp
    · obtain ⟨v, x, hv, hx, rfl⟩ := hmem d hd
      refine lcf_f tName_eq ?_
      have := T.rng v x hv hx
      simp [wipeR, in_range_int, mNeg_eq (ma := mC (.int 20)) (i := 20) rfl]
      omega
theorem check_told_ok {n : Nat} {E : List Ed} (G : GOk n E) {t : Nat → Option Int} (T : TOk n t) : g_check_told [gD n E, tD n t] = .ok .non := by
  refine run_none fun Q hQ => ?_
  walk_at "go"
  unfold m_check_told
  refine wp_stp (mExpr_ok (d := .non) (by simp [check_graph_ok G])) ?_
  refine wp_if (b := false) (by simp [are_told_ok G T]) (fun z => by cases z) (fun _ => ?_)
  rw [mSkip_eq, wp_ok]
  exact hQ _
end VL

/-! M8: the law's own distances and told heights. -/
namespace VL
open PySem PySem.Spec PyProof.Rows L2
local macro_rules | `(tactic| walk_at "go") => `(tactic| simp only [List.map, List.length_cons, List.length_nil, List.replicate, List.cons_append, List.nil_append, Nat.reduceAdd, Nat.reduceSub, Nat.add_zero, Nat.zero_add])
local macro_rules | `(tactic| walk_at "st") => `(tactic| simp only [List.set_cons_zero, List.set_cons_succ])
theorem upF_nD {f : Nat → Nat} {u k : Nat} : upF (fun v => nD (f v)) u (nD k) = fun v => nD (upF f u k v) := by
  funext w
  by_cases z : w = u <;> simp [upF, z]
theorem far_ok {n : Nat} {E : List Ed} (G : GOk n E) {dist : Nat → Nat → Nat} (DD : DistOk n E dist) {s : Nat} (hs : s < n) : g__law_far [gD n E, nD s] = .ok (.lst (row n fun v => nD (dist s v))) := by
  have g0 := gD0 n E
  have g1 := gD1 n E
  have hle := G.le
  refine run_of fun Q hQ => ?_
  walk_at "go"
  unfold m__law_far
  refine wp_stp (mSetN_ok (d := row n fun _ => nD 99) (by rw [mRep_ok (xs := [.int 99]) (k := n) (by simp [mLst]) (by simp [g0]) (by simp) (by omega), rep_one, row_const]; rfl)) ?_
  walk_at "st"
  refine wp_stp (mPut_ok (k := s) (xs := row n fun _ => nD 99) (d := nD 0) rfl rfl (by simp) (by rw [row_len]; exact hs)) ?_
  walk_at "st"
  rw [row_set, upF_nD, wp_seq]
  refine wp_for (ds := (List.range n).map fun i => nD i) (fun pre ρ => ∃ (f : Nat → Nat) (a3 a4 a5 : A), ρ = [.d (gD n E), .d (nD s), .m (row n fun v => nD (f v)), a3, a4, a5] ∧ (∀ v, v < n → dist s v ≤ f v) ∧ ∀ v, v < n → dist s v ≤ pre.length → f v ≤ dist s v)
    (by simp [g0]; exact fRange1_nat (k := n) (by omega)) ⟨_, _, _, _, rfl, fun v hv => ?_, fun v hv h => ?_⟩ ?_ ?_
  · by_cases z : v = s
    · subst z; rw [DD.self hs]; exact Nat.zero_le _
    · have := DD.lt G hs hv
      simp [upF, z]
      omega
  · have z := DD.zero_eq hs hv (by simpa using h)
    subst z
    simp [upF]
  · rintro pre d r ρ e ⟨f, a3, a4, a5, rfl, hlb, hub⟩
    refine ⟨_, rfl, fun Q' hQ' => ?_⟩
    walk_at "st"
    refine wp_for (ds := E.map eD) (fun pre' ρ => ∃ (f' : Nat → Nat) (a3 a4 a5 : A), ρ = [.d (gD n E), .d (nD s), .m (row n fun v => nD (f' v)), a3, a4, a5] ∧ (∀ v, v < n → dist s v ≤ f' v) ∧ (∀ v, f' v ≤ f v) ∧ ∀ e, eD e ∈ pre' → f' e.1 ≤ f e.2 + 1 ∧ f' e.2 ≤ f e.1 + 1)
      (by simp [g1, mItemsA]) ⟨f, _, _, _, rfl, hlb, fun v => Nat.le_refl _, by simp⟩ ?_ ?_
    · rintro pre' d' r' ρ e' ⟨f', a3, a4, a5, rfl, hlb', hmo, hed⟩
      obtain ⟨⟨a, b⟩, rfl, hget, _⟩ := split_map e'
      have hab : (a, b) ∈ E := List.mem_of_getElem? hget
      have he := G.ed _ hab
      simp only at he
      refine ⟨_, by rw [eD_eq]; exact tTuple2_eq, fun Q'' hQ'' => ?_⟩
      walk_at "st"
      have ga : oIx (.lst (row n fun v => nD (f' v))) (nD a) = .ok (nD (f' a)) := oIx_lst (row_get (by omega))
      have gb : oIx (.lst (row n fun v => nD (f' v))) (nD b) = .ok (nD (f' b)) := oIx_lst (row_get (by omega))
      have em : ∀ x y : Nat, (if (y : Int) + 1 < (x : Int) then (y : Int) + 1 else (x : Int)) = ((min x (y + 1) : Nat) : Int) := fun x y => by split <;> omega
      refine wp_stp (mPut_ok (k := a) (xs := row n fun v => nD (f' v)) (d := nD (min (f' a) (f' b + 1))) rfl (by simp [ga, gb, em]) (by simp) (by rw [row_len]; omega)) ?_
      walk_at "st"
      rw [row_set, upF_nD]
      generalize hf2 : upF f' a (min (f' a) (f' b + 1)) = f2
      have f2a : f2 a = min (f' a) (f' b + 1) := by rw [← hf2]; simp [upF]
      have f2o : ∀ w, w ≠ a → f2 w = f' w := fun w hw => by rw [← hf2]; simp [upF, hw]
      have ga : oIx (.lst (row n fun v => nD (f2 v))) (nD a) = .ok (nD (f2 a)) := oIx_lst (row_get (by omega))
      have gb : oIx (.lst (row n fun v => nD (f2 v))) (nD b) = .ok (nD (f2 b)) := oIx_lst (row_get (by omega))
      refine wp_end (mPut_ok (k := b) (xs := row n fun v => nD (f2 v)) (d := nD (min (f2 b) (f2 a + 1))) rfl (by simp [ga, gb, em]) (by simp) (by rw [row_len]; omega)) ?_
      walk_at "st"
      rw [row_set, upF_nD]
      generalize hf3 : upF f2 b (min (f2 b) (f2 a + 1)) = f3
      have f3b : f3 b = min (f2 b) (f2 a + 1) := by rw [← hf3]; simp [upF]
      have f3o : ∀ w, w ≠ b → f3 w = f2 w := fun w hw => by rw [← hf3]; simp [upF, hw]
      have le23 : ∀ w, f3 w ≤ f' w := fun w => by
        by_cases h1 : w = b
        · subst h1; rw [f3b, f2o w (by omega)]; omega
        · rw [f3o w h1]
          by_cases h2 : w = a
          · subst h2; rw [f2a]; omega
          · rw [f2o w h2]; exact Nat.le_refl _
      have la := hlb' a (by omega)
      have lb := hlb' b (by omega)
      have adj : Adj E a b := .inl hab
      have l1 := DD.lip G hs adj
      have l2 := DD.lip G hs adj.symm
      have m1 := hmo a
      have m2 := hmo b
      refine hQ'' _ ⟨f3, _, _, _, rfl, fun v hv => ?_, fun v => Nat.le_trans (le23 v) (hmo v), fun e he => ?_⟩
      · by_cases h1 : v = b
        · subst h1; rw [f3b, f2o v (by omega), f2a]; omega
        · rw [f3o v h1]
          by_cases h2 : v = a
          · subst h2; rw [f2a]; omega
          · rw [f2o v h2]; exact hlb' v hv
      · rcases List.mem_append.mp he with he | he
        · have := hed e he
          have := le23 e.1
          have := le23 e.2
          omega
        · obtain rfl := eD_inj (List.mem_singleton.mp he)
          simp only
          rw [f3o a (by omega), f3b, f2a, f2o b (by omega)]
          omega
    · rintro ρ ⟨f', a3, a4, a5, rfl, hlb', hmo, hed⟩
      refine hQ' _ ⟨f', _, _, _, rfl, hlb', fun v hv h => ?_⟩
      by_cases hv2 : dist s v ≤ pre.length
      · exact Nat.le_trans (hmo v) (hub v hv hv2)
      · have e1 : dist s v = pre.length + 1 := by simp at h; omega
        have hne : v ≠ s := fun z => by rw [z, DD.self hs] at e1; cases e1
        obtain ⟨u, au, hu, h2⟩ := DD.pre G hs hv hne
        have h3 := hub u hu (by omega)
        rcases au with au | au
        · have := (hed (v, u) (mem_eD.mpr au)).1
          simp only at this
          omega
        · have := (hed (u, v) (mem_eD.mpr au)).2
          simp only at this
          omega
  · rintro ρ ⟨f, a3, a4, a5, rfl, hlb, hub⟩
    rw [thn_nx]
    refine wp_end (mRetN_m (xs := row n fun v => nD (f v)) rfl) ?_
    have e : (row n fun v => nD (f v)) = row n fun v => nD (dist s v) := by
      unfold row
      apply List.map_congr_left
      intro v hv
      have hv := List.mem_range.mp hv
      have h1 := hlb v hv
      have h2 := hub v hv (by have := DD.lt G hs hv; simp; omega)
      rw [show f v = dist s v by omega]
    rw [e]
    exact hQ
theorem told_eq12 {n : Nat} {E : List Ed} (G : GOk n E) (ns : List Int) (at_ : Nat) : ∃ t, TOk n t ∧ (∀ v x, v < n → t v = some x → -12 ≤ x ∧ x ≤ 12) ∧ g__law_told [.scr ns, nD at_, gD n E] = .ok (tD n t) := by
  obtain ⟨dist, DD, _⟩ := dists_ex G
  have g0 := gD0 n E
  have hle := G.le
  have hpos := G.pos
  obtain ⟨ds, hl, hd, hrow⟩ := row_eq ns at_
  have dr : ∀ k, k < 60 → oIx (.lst (ds.map nD)) (nD k) = .ok (nD (ds.getD k 0)) := fun k hk => oIx_lst (getD_nD (by omega))
  have d0 : oIx (.lst (ds.map nD)) (.int 0) = .ok (nD (ds.getD 0 0)) := dr 0 (by omega)
  have d1 : oIx (.lst (ds.map nD)) (.int 1) = .ok (nD (ds.getD 1 0)) := dr 1 (by omega)
  have dk : ∀ (a t : Nat), a + t < 60 → oIx (.lst (ds.map nD)) (.int ((a : Int) + (t : Int))) = .ok (nD (ds.getD (a + t) 0)) := fun a t h => dr (a + t) h
  have hfar : g__law_far [gD n E, .int 0] = .ok (.lst (row n fun v => nD (dist 0 v))) := far_ok G DD (s := 0) (by omega)
  have main : ∃ d, g__law_told [.scr ns, nD at_, gD n E] = .ok d ∧ ∃ t, (TOk n t ∧ ∀ v x, v < n → t v = some x → -12 ≤ x ∧ x ≤ 12) ∧ d = tD n t := by
    refine run_some fun Q hQ => ?_
    walk_at "go"
    unfold m__law_told
    refine wp_stp (mSet_ok (d := .lst (ds.map nD)) (by simp [hrow])) ?_
    walk_at "st"
    refine wp_stp (mSet_ok (d := .lst (row n fun v => nD (dist 0 v))) (by simp [hfar])) ?_
    walk_at "st"
    refine wp_stp (mSetN_ok (d := row n fun _ => .non) (by rw [mRep_ok (xs := [.non]) (k := n) (by simp [mLst]) (by simp [g0]) (by simp) (by omega), rep_one, row_const])) ?_
    walk_at "st"
    generalize hb : ((ds.getD 0 0 : Nat) : Int) % 7 - 3 = base
    refine wp_stp (mSet_ok (d := .int base) (by simp [d0, oMod_int]; simpa using hb)) ?_
    walk_at "st"
    rw [wp_seq]
    refine wp_for (ds := (List.range (1 + ds.getD 1 0 % 4)).map fun i => nD i) (fun pre ρ => ∃ (t : Nat → Option Int) (a7 a8 a9 a10 : A), ρ = [.d (.scr ns), .d (nD at_), .d (gD n E), .d (.lst (ds.map nD)), .d (.lst (row n fun v => nD (dist 0 v))), .m (row n fun v => oD (t v)), .d (.int base), a7, a8, a9, a10] ∧
      (pre ≠ [] → ∃ v x, v < n ∧ t v = some x) ∧ ∀ v x, v < n → t v = some x → -12 ≤ x ∧ x ≤ 12) ?_ ⟨fun _ => none, _, _, _, _, rfl, fun h => absurd rfl h, fun v x _ h => by cases h⟩ ?_ ?_
    · have := fRange1_nat (k := 1 + ds.getD 1 0 % 4) (by omega)
      simp only [mIter_eq, mCons_eq, mBin_eq, mB_eq, mC_eq, mNil_eq, List.getElem?_cons_succ, List.getElem?_cons_zero, bw_d, R.bind_ok, d1, oMod_int (show (0 : Int) < 4 by omega), oAdd_int]
      rw [show (1 : Int) + ((ds.getD 1 0 : Nat) : Int) % 4 = ((1 + ds.getD 1 0 % 4 : Nat) : Int) by omega]
      exact this
    · rintro pre d r ρ e ⟨t, a7, a8, a9, a10, rfl, hne, hr⟩
      obtain ⟨rfl, hlt⟩ := split_range e
      generalize hv : pre.length = k at *
      refine ⟨_, rfl, fun Q' hQ' => ?_⟩
      walk_at "st"
      have hvn : ds.getD (2 + k) 0 % n < n := Nat.mod_lt _ (by omega)
      generalize hv' : ds.getD (2 + k) 0 % n = v at hvn
      have gv : oIx (.lst (row n fun v => nD (dist 0 v))) (nD v) = .ok (nD (dist 0 v)) := oIx_lst (row_get hvn)
      have d2 := dk 2 k (by omega)
      have d10 := dk 10 k (by omega)
      have d20 := dk 20 k (by omega)
      have hdl := DD.lt G (show 0 < n by omega) hvn
      refine wp_stp (mSet_ok (d := nD v) (by simp only [mBin_eq, mB_eq, mC_eq, List.getElem?_cons_succ, List.getElem?_cons_zero, bw_d, R.bind_ok, oAdd_int]; rw [show (2 : Int) = ((2 : Nat) : Int) from rfl, d2]; simp only [R.bind_ok, g0, oMod_int (show (0 : Int) < n by omega), nat_mod, hv'])) ?_
      walk_at "st"
      have hg : ds.getD (10 + k) 0 % (dist 0 v + 1) ≤ dist 0 v := by have := Nat.mod_lt (ds.getD (10 + k) 0) (show 0 < dist 0 v + 1 by omega); omega
      generalize hg' : ds.getD (10 + k) 0 % (dist 0 v + 1) = g at hg
      refine wp_stp (mSet_ok (d := nD g) (by simp only [mBin_eq, mB_eq, mC_eq, List.getElem?_cons_succ, List.getElem?_cons_zero, bw_d, R.bind_ok, oAdd_int]; rw [show (10 : Int) = ((10 : Nat) : Int) from rfl, d10]; simp only [R.bind_ok, gv, oAdd_int, oMod_int (show (0 : Int) < (dist 0 v : Int) + 1 by omega)]; rw [← hg', show ((dist 0 v : Nat) : Int) + 1 = ((dist 0 v + 1 : Nat) : Int) from rfl, nat_mod])) ?_
      walk_at "st"
      obtain ⟨od, hod, ho1, ho2⟩ : ∃ od : Int, (if decide (((ds.getD (20 + k) 0 : Nat) : Int) % 12 = 0) = true then (1 : Int) else 0) = od ∧ 0 ≤ od ∧ od ≤ 1 := ⟨_, rfl, by split <;> omega, by split <;> omega⟩
      refine wp_stp (mSet_ok (d := .int od) (by simp only [mCall_eq, mCons_eq, mNil_eq, mBin_eq, mB_eq, mC_eq, List.getElem?_cons_succ, List.getElem?_cons_zero, bw_d, R.bind_ok, oAdd_int]; rw [show (20 : Int) = ((20 : Nat) : Int) from rfl, d20]; simp only [R.bind_ok, oMod_int (show (0 : Int) < 12 by omega), oEq_int, fInt_bl]; rw [hod])) ?_
      walk_at "st"
      have hbase : -3 ≤ base ∧ base ≤ 3 := by omega
      generalize hval : base + (dist 0 v : Int) - 2 * (g : Int) + od = x
      refine wp_end (mPut_ok (k := v) (xs := row n fun v => oD (t v)) (d := .int x) rfl (by simp only [mBin_eq, mB_eq, mC_eq, List.getElem?_cons_succ, List.getElem?_cons_zero, bw_d, R.bind_ok, gv, oAdd_int, oSub_int, oMul_int (.inl (show (-18446744073709551616 : Int) < 2 ∧ (2 : Int) < 18446744073709551616 by omega)), hval]) (by simp) (by rw [row_len]; exact hvn)) ?_
      walk_at "st"
      have eu : (row n fun v => oD (t v)).set v (.int x) = row n fun w => oD (upF t v (some x) w) := by
        rw [row_set]
        congr 1
        funext w
        by_cases z : w = v <;> simp [upF, z, oD]
      rw [eu]
      refine hQ' _ ⟨upF t v (some x), _, _, _, _, rfl, fun _ => ⟨v, x, hvn, by simp [upF]⟩, fun w y hw hy => ?_⟩
      by_cases z : w = v
      · simp [upF, z] at hy
        omega
      · simp [upF, z] at hy
        exact hr w y hw hy
    · rintro ρ ⟨t, a7, a8, a9, a10, rfl, hne, hr⟩
      rw [thn_nx]
      refine wp_end (mRet_ok (d := tD n t) (by simp [tD])) (hQ _ ⟨t, ⟨⟨hne ?_, fun v x hv hx => by have := hr v x hv hx; omega⟩, hr⟩, rfl⟩)
      intro z
      have := congrArg List.length z
      simp at this
  obtain ⟨d, h, t, ⟨h1, h2⟩, rfl⟩ := main
  exact ⟨t, h1, h2, h⟩
theorem told_eq {n : Nat} {E : List Ed} (G : GOk n E) (ns : List Int) (at_ : Nat) : ∃ t, TOk n t ∧ g__law_told [.scr ns, nD at_, gD n E] = .ok (tD n t) := by
  obtain ⟨t, h1, _, h2⟩ := told_eq12 G ns at_
  exact ⟨t, h1, h2⟩
end VL

/-! M9: neighbors, walks, papers. -/
namespace VL
open PySem PySem.Spec PyProof.Rows L2
local macro_rules | `(tactic| walk_at "go") => `(tactic| simp only [List.map, List.length_cons, List.length_nil, List.replicate, List.cons_append, List.nil_append, Nat.reduceAdd, Nat.reduceSub, Nat.add_zero, Nat.zero_add])
local macro_rules | `(tactic| walk_at "st") => `(tactic| simp only [List.set_cons_zero, List.set_cons_succ])
/-- the other end -/
def oth (v : Nat) (e : Ed) : Option Nat := if v = e.1 then some e.2 else if v = e.2 then some e.1 else none
def nbr (E : List Ed) (v : Nat) : List Nat := E.filterMap (oth v)
theorem mem_nbr {n : Nat} {E : List Ed} (G : GOk n E) {v u : Nat} : u ∈ nbr E v ↔ Adj E v u := by
  unfold nbr
  rw [List.mem_filterMap]
  constructor
  · rintro ⟨⟨a, b⟩, he, h⟩
    unfold oth at h
    simp only at h
    by_cases h1 : v = a
    · rw [if_pos h1] at h; cases h; subst h1; exact .inl he
    · rw [if_neg h1] at h
      by_cases h2 : v = b
      · rw [if_pos h2] at h; cases h; subst h2; exact .inr he
      · rw [if_neg h2] at h; cases h
  · rintro (h | h)
    · exact ⟨_, h, by simp [oth]⟩
    · have := G.ed _ h
      simp only at this
      exact ⟨_, h, by unfold oth; rw [if_neg (show ¬ v = u by omega), if_pos (show v = v from rfl)]⟩
theorem in_eD (v : Nat) (e : Ed) : oIn (nD v) (eD e) = .ok (.bl (decide (v = e.1 ∨ v = e.2))) := by
  rw [eD_eq]
  refine oIn_tup (by simp [pln]) (by simp [pln, plns]) ?_
  simp
  omega
theorem oth_in {v : Nat} {e : Ed} (h : v = e.1 ∨ v = e.2) (hlt : e.1 < e.2) : ∃ u, oth v e = some u ∧ (e.1 : Int) + e.2 - v = (u : Int) := by
  unfold oth
  rcases h with h | h
  · exact ⟨e.2, if_pos h, by omega⟩
  · exact ⟨e.1, by rw [if_neg (by omega), if_pos h], by omega⟩
theorem oth_out {v : Nat} {e : Ed} (h : ¬ (v = e.1 ∨ v = e.2)) : oth v e = none := by
  unfold oth
  rw [if_neg (by omega), if_neg (by omega)]
theorem fm_congr {α β : Type} {f g : α → Option β} : ∀ {l : List α}, (∀ x ∈ l, f x = g x) → l.filterMap f = l.filterMap g
  | [], _ => rfl
  | x :: l, h => by rw [List.filterMap_cons, List.filterMap_cons, h x List.mem_cons_self, fm_congr fun y hy => h y (List.mem_cons_of_mem _ hy)]
theorem filterMap_eD {E : List Ed} {v : Nat} {h : D → Option D} (hh : ∀ e ∈ E, h (eD e) = (oth v e).map nD) : (E.map eD).filterMap h = (nbr E v).map nD := by
  unfold nbr
  rw [List.filterMap_map, List.map_filterMap]
  exact fm_congr fun e he => hh e he
def edgeOf (d : D) : Ed := match d with
  | .tup [.int a, .int b] => (a.toNat, b.toNat)
  | _ => (0, 0)
theorem edgeOf_eD (e : Ed) : edgeOf (eD e) = e := by rw [eD_eq]; simp [edgeOf]
theorem nbr_len {E : List Ed} {v : Nat} : (nbr E v).length ≤ E.length := List.length_filterMap_le _ _
theorem beside_ok {n : Nat} {E : List Ed} (G : GOk n E) (v : Nat) : g__law_beside [gD n E, nD v] = .ok (.lst ((nbr E v).map nD)) := by
  have g1 := gD1 n E
  have hf := G.few
  refine run_of fun Q hQ => ?_
  walk_at "go"
  unfold m__law_beside
  refine wp_end (mRet_ok (d := .lst ((nbr E v).map nD)) ?_) hQ
  rw [mLc_ok (ds := E.map eD) (h := fun d => (oth v (edgeOf d)).map nD) (by simp [g1, mItemsA]) (by simp; omega) fun d hd => ?_]
  · rw [filterMap_eD (v := v) fun e he => by simp only [edgeOf_eD]]
  · obtain ⟨e, he, rfl⟩ := List.mem_map.mp hd
    have hlt := (G.ed e he).1
    rw [edgeOf_eD]
    by_cases h : v = e.1 ∨ v = e.2
    · obtain ⟨u, hu, eu⟩ := oth_in h hlt
      rw [hu]
      refine lcf_t tName_eq ?_ ?_
      · simp only [wipeR, mT_eq, mBin_eq, mB_eq, List.set_cons_zero, List.set_cons_succ, List.getElem?_cons_succ, List.getElem?_cons_zero, bw_d, R.bind_ok, in_eD, boolOf_bl, decide_eq_true h]
      · simp [wipeR, eD0, eD1, eu]
    · rw [oth_out h]
      refine lcf_f tName_eq ?_
      simp only [wipeR, mT_eq, mBin_eq, mB_eq, List.set_cons_zero, List.set_cons_succ, List.getElem?_cons_succ, List.getElem?_cons_zero, bw_d, R.bind_ok, in_eD, boolOf_bl, decide_eq_false h]
/-- the neighbors in order -/
def nbs (E : List Ed) (v : Nat) : List Nat := (nbr E v).mergeSort fun a b => decide ((a : Int) ≤ (b : Int))
theorem mem_nbs {n : Nat} {E : List Ed} (G : GOk n E) {v u : Nat} : u ∈ nbs E v ↔ Adj E v u := by
  unfold nbs
  rw [List.mem_mergeSort]
  exact mem_nbr G
theorem nbs_len {E : List Ed} {v : Nat} : (nbs E v).length ≤ E.length := by unfold nbs; rw [List.length_mergeSort]; exact nbr_len
theorem neighbors_ok {n : Nat} {E : List Ed} (G : GOk n E) (v : Nat) : g_neighbors [gD n E, nD v] = .ok (.lst ((nbs E v).map nD)) := by
  have g1 := gD1 n E
  have hf := G.few
  refine run_of fun Q hQ => ?_
  walk_at "go"
  unfold m_neighbors
  refine wp_end (mRet_ok (d := .lst ((nbs E v).map nD)) ?_) hQ
  have e1 : mLc [2] (mItemsA (mBin oIx (mB 0) (mC (.int 1)))) (tName 2) (mT (mBin oIn (mB 1) (mB 2))) (mBin oSub (mCall fSum (mCons (mB 2) mNil)) (mB 1)) [A.d (gD n E), A.d (nD v), A.un] = .ok (.lst ((nbr E v).map nD)) := by
    rw [mLc_ok (ds := E.map eD) (h := fun d => (oth v (edgeOf d)).map nD) (by simp [g1, mItemsA]) (by simp; omega) fun d hd => ?_]
    · rw [filterMap_eD (v := v) fun e he => by simp only [edgeOf_eD]]
    · obtain ⟨e, he, rfl⟩ := List.mem_map.mp hd
      have hlt := (G.ed e he).1
      rw [edgeOf_eD]
      by_cases h : v = e.1 ∨ v = e.2
      · obtain ⟨u, hu, eu⟩ := oth_in h hlt
        rw [hu]
        refine lcf_t tName_eq ?_ ?_
        · simp only [wipeR, mT_eq, mBin_eq, mB_eq, List.set_cons_zero, List.set_cons_succ, List.getElem?_cons_succ, List.getElem?_cons_zero, bw_d, R.bind_ok, in_eD, boolOf_bl, decide_eq_true h]
        · simp [wipeR, eD_eq, eu]
      · rw [oth_out h]
        refine lcf_f tName_eq ?_
        simp only [wipeR, mT_eq, mBin_eq, mB_eq, List.set_cons_zero, List.set_cons_succ, List.getElem?_cons_succ, List.getElem?_cons_zero, bw_d, R.bind_ok, in_eD, boolOf_bl, decide_eq_false h]
  have hlen := nbr_len (E := E) (v := v)
  have e2 := fSorted_ints (ns := (nbr E v).map fun u : Nat => (u : Int)) (by simp; omega)
  rw [List.map_map] at e2
  rw [mCall_eq, mCons_eq, e1]
  simp only [mNil_eq, R.bind_ok]
  refine e2.trans ?_
  unfold nbs
  rw [← List.map_mergeSort (r := fun a b : Nat => decide ((a : Int) ≤ (b : Int))) (f := fun u : Nat => (u : Int)) (fun a _ b _ => rfl), List.map_map]
  rfl
/-! ### walks as lists -/
def Pth (E : List Ed) : List Nat → Prop
  | [] => False
  | [_] => True
  | u :: v :: r => Adj E u v ∧ Pth E (v :: r)
theorem Pth.snoc {E : List Ed} : ∀ {p : List Nat} {v u : Nat}, Pth E (p ++ [v]) → Adj E v u → Pth E (p ++ [v] ++ [u])
  | [], v, u, _, a => ⟨a, trivial⟩
  | [x], v, u, h, a => ⟨h.1, a, trivial⟩
  | x :: y :: r, v, u, h, a => ⟨h.1, Pth.snoc (p := y :: r) h.2 a⟩
theorem Pth.append {E : List Ed} : ∀ {p q : List Nat} {v u : Nat}, Pth E (p ++ [v]) → Pth E (u :: q) → Adj E v u → Pth E (p ++ [v] ++ u :: q)
  | [], q, v, u, _, h, a => ⟨a, h⟩
  | [x], q, v, u, h, h2, a => ⟨h.1, a, h2⟩
  | x :: y :: r, q, v, u, h, h2, a => ⟨h.1, Pth.append (p := y :: r) h.2 h2 a⟩
theorem Pth.wlk {E : List Ed} : ∀ {p : List Nat} {u v : Nat}, Pth E (u :: p) → (u :: p).getLast? = some v → Wlk E p.length u v
  | [], u, v, _, h => by simp at h; exact h
  | x :: p, u, v, h, e => ⟨x, h.1, Pth.wlk h.2 (by simpa [List.getLast?_cons_cons] using e)⟩
theorem Pth.get {E : List Ed} : ∀ {p : List Nat} {i u v : Nat}, Pth E p → p[i]? = some u → p[i + 1]? = some v → Adj E u v
  | [], i, u, v, h, _, _ => h.elim
  | [x], i, u, v, _, _, h => by simp at h
  | x :: y :: r, 0, u, v, h, h1, h2 => by simp at h1 h2; subst h1 h2; exact h.1
  | x :: y :: r, i + 1, u, v, h, h1, h2 => Pth.get (p := y :: r) (i := i) h.2 (by simpa using h1) (by simpa using h2)
theorem oIx_last {xs : List D} {d : D} : oIx (.lst (xs ++ [d])) (.int (-1)) = .ok d := by
  show ofO (atI (xs ++ [d]) (-1)) = _
  unfold atI ixN
  rw [if_neg (by omega), if_pos (by simp; omega)]
  have e : ((-1 : Int) + ((xs ++ [d]).length : Int)).toNat = xs.length := by simp; omega
  rw [e]
  simp [ofO]
theorem oIx_lastT {xs : List D} {d : D} : oIx (.tup (xs ++ [d])) (.int (-1)) = .ok d := oIx_last (xs := xs) (d := d)
theorem neg1 {ρ : Rho} : mNeg (mC (.int 1)) ρ = .ok (.int (-1)) := rfl
/-- a shortest walk -/
theorem walk_ok {n : Nat} {E : List Ed} (G : GOk n E) {dist : Nat → Nat → Nat} (DD : DistOk n E dist) (hd : ∀ s, s < n → g_distances [gD n E, nD s] = .ok (.lst (row n fun v => nD (dist s v)))) {s g : Nat} (hs : s < n) (hg : g < n) :
    ∃ p : List Nat, Pth E p ∧ p.head? = some s ∧ p.getLast? = some g ∧ p.length = dist g s + 1 ∧ (∀ v ∈ p, v < n) ∧ g_walk_between [gD n E, nD s, nD g] = .ok (.tup (p.map nD)) := by
  have hle := G.le
  have hf := G.few
  have main : ∃ d, g_walk_between [gD n E, nD s, nD g] = .ok d ∧ ∃ p : List Nat, Pth E p ∧ p.head? = some s ∧ p.getLast? = some g ∧ p.length = dist g s + 1 ∧ (∀ v ∈ p, v < n) ∧ d = .tup (p.map nD) := by
    refine run_some fun Q hQ => ?_
    walk_at "go"
    unfold m_walk_between
    refine wp_stp (mSet_ok (d := .lst (row n fun v => nD (dist g v))) (by simp [hd g hg])) ?_
    walk_at "st"
    refine wp_stp (mSetN_ok (d := [nD s]) (by simp [mLst])) ?_
    walk_at "st"
    rw [wp_seq]
    refine wp_while (fun k ρ => ∃ (p : List Nat) (v : Nat) (a5 : A), ρ = [.d (gD n E), .d (nD s), .d (nD g), .d (.lst (row n fun v => nD (dist g v))), .m ((p ++ [v]).map nD), a5] ∧ k = dist g v ∧ v < n ∧ Pth E (p ++ [v]) ∧ (p ++ [v]).head? = some s ∧ (p ++ [v]).length + k = dist g s + 1 ∧ ∀ x ∈ p ++ [v], x < n)
      (dist g s) (by have := DD.lt G hg hs; omega) ⟨[], s, .un, rfl, rfl, hs, trivial, rfl, by simp; omega, by simpa using hs⟩ ?_
    rintro k ρ ⟨p, v, a5, rfl, rfl, hv, hp, hh, hl, hx⟩
    have lst : oIx (.lst ((p ++ [v]).map nD)) (.int (-1)) = .ok (nD v) := by rw [List.map_append]; exact oIx_last
    have dl := DD.lt G hg hv
    have dl2 := DD.lt G hg hs
    refine ⟨decide ((v : Int) ≠ g), by simp only [mT_eq, mBin_eq, mB_eq, neg1, List.getElem?_cons_succ, List.getElem?_cons_zero, bw_d, bw_m, R.bind_ok, lst, oNe_int, boolOf_bl], fun hb Q' hQ' => ?_, fun hb => ?_⟩
    · have hne : v ≠ g := by have := of_decide_eq_true hb; omega
      have dv : oIx (.lst (row n fun v => nD (dist g v))) (nD v) = .ok (nD (dist g v)) := oIx_lst (row_get hv)
      obtain ⟨u0, a0, hu0, e0⟩ := DD.pre G hg hv hne
      have hc : mLc [5] (mItemsA (mFn 2 g_neighbors (mCons (mV 0) (mCons (mBin oIx (mB 4) (mNeg (mC (.int 1)))) mNil)))) (tName 5) (mT (mBin oEq (mBin oIx (mB 3) (mB 5)) (mBin oSub (mBin oIx (mB 3) (mBin oIx (mB 4) (mNeg (mC (.int 1))))) (mC (.int 1))))) (mV 5) [.d (gD n E), .d (nD s), .d (nD g), .d (.lst (row n fun v => nD (dist g v))), .m ((p ++ [v]).map nD), a5]
          = .ok (.lst (((nbs E v).filter fun u => decide ((dist g u : Int) = dist g v - 1)).map nD)) := by
        have hlen := nbs_len (E := E) (v := v)
        rw [mLc_ok (ds := (nbs E v).map nD) (h := fun d => match d with
          | .int i => if (dist g i.toNat : Int) = dist g v - 1 then some (nD i.toNat) else none
          | _ => none) (by simp only [mItemsA, mFn_eq, mCons_eq, mNil_eq, mV_eq, mBin_eq, mB_eq, neg1, List.getElem?_cons_succ, List.getElem?_cons_zero, vw_d, bw_m, R.bind_ok, lst, List.length_cons, List.length_nil, Nat.zero_add, Nat.reduceAdd, if_true, neighbors_ok G v]) (by simp; omega) fun d hd => ?_]
        · congr 2
          rw [List.filterMap_map, ← List.filterMap_eq_filter, List.map_filterMap]
          apply fm_congr
          intro u _
          simp only [Function.comp, Option.guard, Int.toNat_natCast]
          by_cases h : (dist g u : Int) = dist g v - 1
          · simp [h]
          · simp [h]
        · obtain ⟨u, hu, rfl⟩ := List.mem_map.mp hd
          have hun := (((mem_nbs G).mp hu).lt G).2.1
          have du : oIx (.lst (row n fun v => nD (dist g v))) (nD u) = .ok (nD (dist g u)) := oIx_lst (row_get hun)
          simp only [Int.toNat_natCast]
          by_cases h : (dist g u : Int) = dist g v - 1
          · rw [if_pos h]
            refine lcf_t tName_eq ?_ rfl
            simp only [wipeR, mT_eq, mBin_eq, mB_eq, mC_eq, neg1, List.set_cons_zero, List.set_cons_succ, List.getElem?_cons_succ, List.getElem?_cons_zero, bw_d, bw_m, R.bind_ok, du, dv, lst, oSub_int, oEq_int, boolOf_bl, decide_eq_true h]
          · rw [if_neg h]
            refine lcf_f tName_eq ?_
            simp only [wipeR, mT_eq, mBin_eq, mB_eq, mC_eq, neg1, List.set_cons_zero, List.set_cons_succ, List.getElem?_cons_succ, List.getElem?_cons_zero, bw_d, bw_m, R.bind_ok, du, dv, lst, oSub_int, oEq_int, boolOf_bl, decide_eq_false h]
      have hne2 : u0 ∈ (nbs E v).filter fun u => decide ((dist g u : Int) = dist g v - 1) := List.mem_filter.mpr ⟨(mem_nbs G).mpr a0, decide_eq_true (by omega)⟩
      cases hcs : (nbs E v).filter fun u => decide ((dist g u : Int) = dist g v - 1) with
      | nil => rw [hcs] at hne2; cases hne2
      | cons u us =>
        have hu : u ∈ (nbs E v).filter fun u => decide ((dist g u : Int) = dist g v - 1) := by rw [hcs]; exact List.mem_cons_self
        obtain ⟨h1, h2⟩ := List.mem_filter.mp hu
        have h2 := of_decide_eq_true h2
        have adj := (mem_nbs G).mp h1
        rw [hcs] at hc
        refine wp_end (mApp_ok (xs := (p ++ [v]).map nD) (d := nD u) rfl (by rw [mBin_eq, hc]; simp) (by simp at hl; simp; omega)) (hQ' _ (dist g u) (by omega) ⟨p ++ [v], u, a5, by simp, rfl, (adj.lt G).2.1, hp.snoc adj, ?_, ?_, fun x hx' => ?_⟩)
        · rw [List.head?_append, hh]; rfl
        · simp at hl ⊢; omega
        · rcases List.mem_append.mp hx' with h | h
          · exact hx x h
          · rw [List.mem_singleton.mp h]; exact (adj.lt G).2.1
    · have e : v = g := by
        have := of_decide_eq_false hb
        omega
      subst e
      rw [DD.self hg] at hl
      rw [thn_nx]
      exact wp_end (mRet_ok (d := .tup ((p ++ [v]).map nD)) (by simp)) (hQ _ ⟨p ++ [v], hp, hh, by simp, by omega, hx, rfl⟩)
  obtain ⟨d, h, p, h1, h2, h3, h4, h5, rfl⟩ := main
  exact ⟨p, h1, h2, h3, h4, h5, h⟩
end VL

/-! M10: papers found. -/
namespace VL
open PySem PySem.Spec PyProof.Rows L2
local macro_rules | `(tactic| walk_at "go") => `(tactic| simp only [List.map, List.length_cons, List.length_nil, List.replicate, List.cons_append, List.nil_append, Nat.reduceAdd, Nat.reduceSub, Nat.add_zero, Nat.zero_add])
local macro_rules | `(tactic| walk_at "st") => `(tactic| simp only [List.set_cons_zero, List.set_cons_succ])
def ab (i : Int) : Int := if i < 0 then -i else i
def pD (kind : Str) (p : List Nat) : D := .tup [.str kind, .tup (p.map nD)]
structure PaperOk (n : Nat) (E : List Ed) (t : Nat → Option Int) (kind : Str) (p : List Nat) : Prop where
  pth : Pth E p
  lt : ∀ v ∈ p, v < n
  few : p.length ≤ 100
  ok : (kind = "odd" ∧ ∃ s, p.head? = some s ∧ p.getLast? = some s ∧ p.length % 2 = 0) ∨
    ∃ s g x y, p.head? = some s ∧ p.getLast? = some g ∧ t s = some x ∧ t g = some y ∧ ((kind = "far" ∧ (p.length : Int) - 1 < ab (x - y)) ∨ (kind = "parity" ∧ (ab (x - y) - ((p.length : Int) - 1)) % 2 ≠ 0))
/-- with a paper there are no heights -/
theorem PaperOk.none {n : Nat} {E : List Ed} {t : Nat → Option Int} {kind : Str} {p : List Nat} (P : PaperOk n E t kind p) {h : Nat → Int} (s : Stp E h) (l : Tld n t h) : False := by
  obtain ⟨pth, lt, _, ok⟩ := P
  cases p with
  | nil => exact pth
  | cons u p =>
    rcases ok with ⟨_, s0, h1, h2, h3⟩ | ⟨s0, g, x, y, h1, h2, hx, hy, h3⟩
    · simp at h1
      subst h1
      have w := s.walk (pth.wlk h2)
      simp at h3
      omega
    · simp at h1
      subst h1
      have w := s.walk (pth.wlk h2)
      have hg : g < n := lt g (List.mem_of_getLast? h2)
      rw [l u x (lt u List.mem_cons_self) hx, l g y hg hy] at w
      unfold ab at h3
      rcases h3 with ⟨_, h3⟩ | ⟨_, h3⟩
      · simp at h3
        split at h3 <;> omega
      · simp at h3
        split at h3 <;> omega
section
variable {n : Nat} {E : List Ed} {dist : Nat → Nat → Nat}
theorem odd_walk_ok (G : GOk n E) (DD : DistOk n E dist) (hd : ∀ s, s < n → g_distances [gD n E, nD s] = .ok (.lst (row n fun v => nD (dist s v)))) (t : Nat → Option Int) :
    (Bip E (dist 0) ∧ g_odd_walk [gD n E] = .ok .non) ∨ ∃ p, PaperOk n E t "odd" p ∧ g_odd_walk [gD n E] = .ok (.tup (p.map nD)) := by
  have g1 := gD1 n E
  have hpos := G.pos
  have hle := G.le
  have main : ∃ d, g_odd_walk [gD n E] = .ok d ∧ ((Bip E (dist 0) ∧ d = .non) ∨ ∃ p, PaperOk n E t "odd" p ∧ d = .tup (p.map nD)) := by
    refine run_some fun Q hQ => ?_
    walk_at "go"
    unfold m_odd_walk
    have hd0 : g_distances [gD n E, .int 0] = .ok (.lst (row n fun v => nD (dist 0 v))) := hd 0 (by omega)
    refine wp_stp (mSet_ok (d := .lst (row n fun v => nD (dist 0 v))) (by simp [hd0])) ?_
    walk_at "st"
    rw [wp_seq]
    refine wp_forR (ds := E.map eD) (fun pre ρ => ∃ (a2 a3 : A), ρ = [.d (gD n E), .d (.lst (row n fun v => nD (dist 0 v))), a2, a3] ∧ ∀ e, eD e ∈ pre → dist 0 e.1 % 2 ≠ dist 0 e.2 % 2) (by simp [g1, mItemsA]) ⟨_, _, rfl, by simp⟩ ?_ ?_
    · rintro pre d r ρ e ⟨a2, a3, rfl, hb⟩
      obtain ⟨⟨a, b⟩, rfl, hget, _⟩ := split_map e
      have hab : (a, b) ∈ E := List.mem_of_getElem? hget
      have he := G.ed _ hab
      simp only at he
      refine ⟨_, by rw [eD_eq]; exact tTuple2_eq, fun Q' h1 h2 => ?_⟩
      walk_at "st"
      have ga : oIx (.lst (row n fun v => nD (dist 0 v))) (nD a) = .ok (nD (dist 0 a)) := oIx_lst (row_get (by omega))
      have gb : oIx (.lst (row n fun v => nD (dist 0 v))) (nD b) = .ok (nD (dist 0 b)) := oIx_lst (row_get (by omega))
      refine wp_if (b := decide ((dist 0 a : Int) % 2 = (dist 0 b : Int) % 2)) (by simp only [mT_eq, mBin_eq, mB_eq, mC_eq, List.getElem?_cons_succ, List.getElem?_cons_zero, bw_d, R.bind_ok, ga, gb, oMod_int (show (0 : Int) < 2 by omega), oEq_int, boolOf_bl]) (fun hc => ?_) (fun hc => ?_)
      · have hc := of_decide_eq_true hc
        obtain ⟨p1, q1, q2, q3, q4, q5, q6⟩ := walk_ok G DD hd (s := 0) (g := a) (by omega) (by omega)
        obtain ⟨p2, r1, r2, r3, r4, r5, r6⟩ := walk_ok G DD hd (s := b) (g := 0) (by omega) (by omega)
        obtain ⟨l1, rfl⟩ : ∃ l, p1 = l ++ [a] := List.getLast?_eq_some_iff.mp q3
        obtain ⟨l2, rfl⟩ : ∃ l, p2 = b :: l := by
          cases p2 with
          | nil => cases r2
          | cons x l => simp at r2; exact ⟨l, by rw [r2]⟩
        have hda := DD.lt G (show a < n by omega) (show 0 < n by omega)
        have hdb := DD.lt G (show 0 < n by omega) (show b < n by omega)
        have hsa := DD.sym (show a < n by omega) (show 0 < n by omega)
        refine wp_end (mRet_ok (d := .tup (((l1 ++ [a]) ++ b :: l2).map nD)) ?_) (h2 _ (hQ _ (.inr ⟨(l1 ++ [a]) ++ b :: l2, ⟨Pth.append q1 r1 (.inl hab), fun v hv => ?_, ?_, .inl ⟨rfl, 0, ?_, ?_, ?_⟩⟩, rfl⟩)))
        · have e1 : g_walk_between [gD n E, .int 0, nD a] = .ok (.tup ((l1 ++ [a]).map nD)) := q6
          have e2 : g_walk_between [gD n E, nD b, .int 0] = .ok (.tup ((b :: l2).map nD)) := r6
          simp only [mBin_eq, mFn_eq, mCons_eq, mNil_eq, mV_eq, mC_eq, List.getElem?_cons_succ, List.getElem?_cons_zero, vw_d, R.bind_ok, List.length_cons, List.length_nil, Nat.zero_add, Nat.reduceAdd, if_true, e1, e2]
          rw [oAdd_tup (by simp only [List.length_map]; rw [q4, r4]; omega), ← List.map_append]
        · rcases List.mem_append.mp hv with h | h
          · exact q5 v h
          · exact r5 v h
        · rw [List.length_append, q4, r4]; omega
        · rw [List.head?_append, q2]; rfl
        · rw [List.getLast?_append, r3]; rfl
        · rw [List.length_append, q4, r4, hsa]
          omega
      · have hc := of_decide_eq_false hc
        rw [mSkip_eq, wp_ok]
        refine h1 _ ⟨_, _, rfl, fun e he => ?_⟩
        rcases List.mem_append.mp he with he | he
        · exact hb e he
        · obtain rfl := eD_inj (List.mem_singleton.mp he)
          simp only
          omega
    · rintro ρ ⟨a2, a3, rfl, hb⟩
      rw [thn_nx]
      exact wp_end (mRet_ok (d := .non) rfl) (hQ _ (.inl ⟨fun e he => hb e (mem_eD.mpr he), rfl⟩))
  obtain ⟨d, h, ⟨h1, rfl⟩ | ⟨p, h1, rfl⟩⟩ := main
  · exact .inl ⟨h1, h⟩
  · exact .inr ⟨p, h1, h⟩
theorem enumD_row (f : Nat → D) : ∀ (m k : Nat), enumD k ((List.range' k m).map f) = (List.range' k m).map fun v => .tup [nD v, f v]
  | 0, k => rfl
  | m + 1, k => by rw [List.range'_succ, List.map_cons, List.map_cons, enumD, enumD_row f m (k + 1)]
theorem enum_row (n : Nat) (f : Nat → D) : enumD 0 (row n f) = row n fun v => .tup [nD v, f v] := by
  unfold row
  rw [List.range_eq_range']
  exact enumD_row f n 0
/-- the told vertices -/
def kno (n : Nat) (t : Nat → Option Int) : List Nat := (List.range n).filter fun v => (t v).isSome
theorem mem_kno {t : Nat → Option Int} {v : Nat} : v ∈ kno n t ↔ v < n ∧ ∃ x, t v = some x := by
  unfold kno
  rw [List.mem_filter, List.mem_range, Option.isSome_iff_exists]
theorem kno_len {t : Nat → Option Int} : (kno n t).length ≤ n := by
  have := List.length_filter_le (fun v => (t v).isSome) (List.range n)
  simpa [kno] using this
theorem tD_get {t : Nat → Option Int} {v : Nat} {x : Int} (hv : v < n) (h : t v = some x) : oIx (tD n t) (nD v) = .ok (.int x) := oIx_tup (by rw [row_get hv, h]; rfl)
theorem tD_get' {t : Nat → Option Int} {v : Nat} (hv : v < n) : oIx (tD n t) (nD v) = .ok (oD (t v)) := oIx_tup (row_get hv)
theorem known_lc {t : Nat → Option Int} (hle : n ≤ 8) {i j : Nat} {ρ : Rho} (hij : i < ρ.length ∧ j < ρ.length ∧ i ≠ j) {m : Rho → R (List D)} (hm : m ρ = .ok [tD n t]) :
    mLc [i, j] (mIter fEnum m) (tTuple 2 (tsCons (tName i) (tsCons (tName j) tsNil))) (mTest false (mB j)) (mV i) ρ = .ok (.lst ((kno n t).map nD)) := by
  rw [mLc_ok (ds := row n fun v => .tup [nD v, oD (t v)]) (h := fun d => match d with
    | .tup [.int v, o] => if isNon o = true then none else some (nD v.toNat)
    | _ => none) (by rw [mIter_eq, hm, R.bind_ok]; show R.ok (enumD 0 (row n fun v => oD (t v))) = _; rw [enum_row]) (by rw [row_len]; omega) fun d hd => ?_]
  · congr 2
    unfold kno row
    rw [List.filterMap_map, ← List.filterMap_eq_filter, List.map_filterMap]
    apply fm_congr
    intro v _
    simp only [Function.comp, Option.guard, Int.toNat_natCast]
    have z : t v = none ∨ ∃ x, t v = some x := by
      cases h : t v with
      | none => exact .inl rfl
      | some x => exact .inr ⟨x, rfl⟩
    rcases z with z | ⟨x, z⟩
    · simp [z, oD]
    · simp [z, oD]
  · obtain ⟨v, hv, rfl⟩ := List.mem_map.mp hd
    have hl : (wipeR ρ [i, j]).length = ρ.length := by simp [wipeR]
    generalize hw : wipeR ρ [i, j] = ρ0 at hl
    have e1 : ((ρ0.set i (.d (nD v))).set j (.d (oD (t v))))[j]? = some (.d (oD (t v))) := List.getElem?_set_self (by rw [List.length_set]; omega)
    have e2 : ((ρ0.set i (.d (nD v))).set j (.d (oD (t v))))[i]? = some (.d (nD v)) := by rw [List.getElem?_set_ne (Ne.symm hij.2.2)]; exact List.getElem?_set_self (by omega)
    cases q : isNon (oD (t v)) with
    | true =>
      simp only [q, if_true]
      exact lcf_f tTuple2_eq (by rw [mTest_eq, mB_eq, e1]; simp [q])
    | false =>
      simp only [q, Int.toNat_natCast]
      exact lcf_t tTuple2_eq (by rw [mTest_eq, mB_eq, e1]; simp [q]) (by rw [mV_eq, e2]; rfl)
theorem found_paper_ok (G : GOk n E) (DD : DistOk n E dist) (hd : ∀ s, s < n → g_distances [gD n E, nD s] = .ok (.lst (row n fun v => nD (dist s v)))) {t : Nat → Option Int} (T : TOk n t) :
    (Bip E (dist 0) ∧ Fits n dist t ∧ g_found_paper [gD n E, tD n t] = .ok .non) ∨ ∃ (kind : Str) (p : List Nat), (kind = "odd" ∨ kind = "far" ∨ kind = "parity") ∧ PaperOk n E t kind p ∧ g_found_paper [gD n E, tD n t] = .ok (pD kind p) := by
  have hle := G.le
  have main : ∃ d, g_found_paper [gD n E, tD n t] = .ok d ∧ ((Bip E (dist 0) ∧ Fits n dist t ∧ d = .non) ∨ ∃ (kind : Str) (p : List Nat), (kind = "odd" ∨ kind = "far" ∨ kind = "parity") ∧ PaperOk n E t kind p ∧ d = pD kind p) := by
    refine run_some fun Q hQ => ?_
    walk_at "go"
    unfold m_found_paper
    rcases odd_walk_ok G DD hd t with ⟨bip, ho⟩ | ⟨p, P, ho⟩
    · refine wp_stp (mSet_ok (d := .non) (by simp [ho])) ?_
      walk_at "st"
      refine wp_seq_if (b := false) (by simp) (fun z => by cases z) (fun _ => ?_)
      rw [mSkip_eq, wp_ok, thn_nx]
      refine wp_stp (mSet_ok (d := .lst ((kno n t).map nD)) (known_lc hle (by simp) (by simp))) ?_
      walk_at "st"
      rw [wp_seq]
      refine wp_forR (ds := (kno n t).map nD) (fun pre ρ => ∃ (a4 a5 a6 a7 : A), ρ = [.d (gD n E), .d (tD n t), .d .non, .d (.lst ((kno n t).map nD)), a4, a5, a6, a7, .un, .un] ∧ ∀ u w x y, nD u ∈ pre → w < n → t u = some x → t w = some y → ab (x - y) ≤ dist u w ∧ (ab (x - y) - dist u w) % 2 = 0)
        (by simp [mItemsA]) ⟨_, _, _, _, rfl, by simp⟩ ?_ ?_
      · rintro pre d r ρ e ⟨a4, a5, a6, a7, rfl, hb⟩
        obtain ⟨u, rfl, hget, _⟩ := split_map e
        obtain ⟨hu, x, hx⟩ := mem_kno.mp (List.mem_of_getElem? hget)
        refine ⟨_, rfl, fun Q' h1 h2 => ?_⟩
        walk_at "st"
        refine wp_stp (mSet_ok (d := .lst (row n fun v => nD (dist u v))) (by simp [hd u hu])) ?_
        walk_at "st"
        refine wp_forR (ds := (kno n t).map nD) (fun pre' ρ => ∃ (a6 a7 : A), ρ = [.d (gD n E), .d (tD n t), .d .non, .d (.lst ((kno n t).map nD)), .d (nD u), .d (.lst (row n fun v => nD (dist u v))), a6, a7, .un, .un] ∧ ∀ w y, nD w ∈ pre' → w < n → t w = some y → ab (x - y) ≤ dist u w ∧ (ab (x - y) - dist u w) % 2 = 0)
          (by simp [mItemsA]) ⟨_, _, rfl, by simp⟩ ?_ ?_
        · rintro pre' d' r' ρ e' ⟨a6, a7, rfl, hb'⟩
          obtain ⟨w, rfl, hget', _⟩ := split_map e'
          obtain ⟨hw, y, hy⟩ := mem_kno.mp (List.mem_of_getElem? hget')
          refine ⟨_, rfl, fun Q'' k1 k2 => ?_⟩
          walk_at "st"
          have tu := tD_get hu hx
          have tw := tD_get hw hy
          have dw : oIx (.lst (row n fun v => nD (dist u v))) (nD w) = .ok (nD (dist u w)) := oIx_lst (row_get hw)
          obtain ⟨p, q1, q2, q3, q4, q5, q6⟩ := walk_ok G DD hd hu hw
          have hsy := DD.sym hu hw
          have hdl := DD.lt G hu hw
          refine wp_stp (mSet_ok (d := .int (ab (x - y))) (by simp only [mCall_eq, mCons_eq, mNil_eq, mBin_eq, mB_eq, List.getElem?_cons_succ, List.getElem?_cons_zero, bw_d, R.bind_ok, tu, tw, oSub_int, fAbs_int]; rfl)) ?_
          walk_at "st"
          refine wp_seq_if (b := decide ((dist u w : Int) < ab (x - y))) (by simp only [mT_eq, mBin_eq, mB_eq, List.getElem?_cons_succ, List.getElem?_cons_zero, bw_d, R.bind_ok, dw, oGt_int, boolOf_bl]) (fun hc => ?_) (fun hc => ?_)
          · have hc := of_decide_eq_true hc
            refine wp_end (mRet_ok (d := pD "far" p) ?_) (k2 _ (h2 _ (hQ _ (.inr ⟨"far", p, .inr (.inl rfl), ⟨q1, q5, by omega, .inr ⟨u, w, x, y, q2, q3, hx, hy, .inl ⟨rfl, by omega⟩⟩⟩, rfl⟩))))
            rw [mTup_ok (ds := [.str "far", .tup (p.map nD)]) (by simp [q6]) (by simp)]
            rfl
          · have hc := of_decide_eq_false hc
            rw [mSkip_eq, wp_ok, thn_nx]
            refine wp_if (b := decide ((ab (x - y) - (dist u w : Int)) % 2 ≠ 0)) (by simp only [mT_eq, mBin_eq, mB_eq, mC_eq, List.getElem?_cons_succ, List.getElem?_cons_zero, bw_d, R.bind_ok, dw, oSub_int, oMod_int (show (0 : Int) < 2 by omega), oNe_int, boolOf_bl]) (fun hc2 => ?_) (fun hc2 => ?_)
            · have hc2 := of_decide_eq_true hc2
              refine wp_end (mRet_ok (d := pD "parity" p) ?_) (k2 _ (h2 _ (hQ _ (.inr ⟨"parity", p, .inr (.inr rfl), ⟨q1, q5, by omega, .inr ⟨u, w, x, y, q2, q3, hx, hy, .inr ⟨rfl, ?_⟩⟩⟩, rfl⟩))))
              · rw [mTup_ok (ds := [.str "parity", .tup (p.map nD)]) (by simp [q6]) (by simp)]
                rfl
              · rw [q4, ← hsy]
                omega
            · have hc2 := of_decide_eq_false hc2
              rw [mSkip_eq, wp_ok]
              refine k1 _ ⟨_, _, rfl, fun w' y' hm hw' hy' => ?_⟩
              rcases List.mem_append.mp hm with hm | hm
              · exact hb' w' y' hm hw' hy'
              · have : w' = w := by
                  have := D.int.inj (List.mem_singleton.mp hm)
                  omega
                subst this
                rw [hy] at hy'
                cases hy'
                omega
        · rintro ρ ⟨a6, a7, rfl, hb'⟩
          refine h1 _ ⟨_, _, _, _, rfl, fun u' w x' y hm hw hx' hy => ?_⟩
          rcases List.mem_append.mp hm with hm | hm
          · exact hb u' w x' y hm hw hx' hy
          · have : u' = u := by
              have := D.int.inj (List.mem_singleton.mp hm)
              omega
            subst this
            rw [hx] at hx'
            cases hx'
            exact hb' w y (List.mem_map.mpr ⟨w, mem_kno.mpr ⟨hw, y, hy⟩, rfl⟩) hw hy
      · rintro ρ ⟨a4, a5, a6, a7, rfl, hb⟩
        rw [thn_nx]
        refine wp_end (mRet_ok (d := .non) rfl) (hQ _ (.inl ⟨bip, ⟨fun u w x y hu hw hx hy => ?_, fun u w x y hu hw hx hy => ?_⟩, rfl⟩))
        · have := hb u w x y (List.mem_map.mpr ⟨u, mem_kno.mpr ⟨hu, x, hx⟩, rfl⟩) hw hx hy
          unfold ab at this
          split at this <;> omega
        · have := hb u w x y (List.mem_map.mpr ⟨u, mem_kno.mpr ⟨hu, x, hx⟩, rfl⟩) hw hx hy
          unfold ab at this
          split at this <;> omega
    · refine wp_stp (mSet_ok (d := .tup (p.map nD)) (by simp [ho])) ?_
      walk_at "st"
      refine wp_seq_if (b := true) (by simp) (fun _ => ?_) (fun z => by cases z)
      refine wp_end (mRet_ok (d := pD "odd" p) ?_) (hQ _ (.inr ⟨"odd", p, .inl rfl, P, rfl⟩))
      rw [mTup_ok (ds := [.str "odd", .tup (p.map nD)]) (by simp) (by simp)]
      rfl
  obtain ⟨d, h, ⟨h1, h2, rfl⟩ | ⟨kind, p, hk, h1, rfl⟩⟩ := main
  · exact .inl ⟨h1, h2, h⟩
  · exact .inr ⟨kind, p, hk, h1, h⟩
end
end VL

/-! M11: papers checked. -/
namespace VL
open PySem PySem.Spec PyProof.Rows L2
local macro_rules | `(tactic| walk_at "go") => `(tactic| simp only [List.map, List.length_cons, List.length_nil, List.replicate, List.cons_append, List.nil_append, Nat.reduceAdd, Nat.reduceSub, Nat.add_zero, Nat.zero_add])
local macro_rules | `(tactic| walk_at "st") => `(tactic| simp only [List.set_cons_zero, List.set_cons_succ])
@[simp] theorem oEq_str {a b : Str} : oEq (.str a) (.str b) = .ok (.bl (decide (a = b))) := by
  unfold oEq okEq eqD
  simp only [scalS, D.py, PyData.eqv, Bool.true_or, if_true]
  by_cases h : a = b <;> simp [h]
theorem mPar2_ok {i j : Nat} {m : Rho → R (List D)} {ρ : Rho} {d e : D} (h : m ρ = .ok [d, e]) : mPar2 i j m ρ = .ok (.nx ((ρ.set i (.d d)).set j (.d e))) := by unfold mPar2; rw [h]; rfl
theorem mPar3_ok {i j l : Nat} {m : Rho → R (List D)} {ρ : Rho} {d e f : D} (h : m ρ = .ok [d, e, f]) : mPar3 i j l m ρ = .ok (.nx (((ρ.set i (.d d)).set j (.d e)).set l (.d f))) := by unfold mPar3; rw [h]; rfl
section
variable {n : Nat} {E : List Ed} {t : Nat → Option Int}
theorem pth_ne {p : List Nat} (h : Pth E p) : p ≠ [] := fun z => by rw [z] at h; exact h
theorem head_ix {p : List Nat} {s : Nat} (h : p.head? = some s) : oIx (.tup (p.map nD)) (.int 0) = .ok (nD s) := by
  cases p with
  | nil => cases h
  | cons x p => simp at h; subst h; simp
theorem last_ix {p : List Nat} {s : Nat} (h : p.getLast? = some s) : oIx (.tup (p.map nD)) (.int (-1)) = .ok (nD s) := by
  obtain ⟨l, rfl⟩ := List.getLast?_eq_some_iff.mp h
  rw [List.map_append]
  exact oIx_lastT
theorem is_walk_ok (G : GOk n E) {p : List Nat} (hp : Pth E p) (hl : ∀ v ∈ p, v < n) (h100 : p.length ≤ 100) : g_is_walk [gD n E, .tup (p.map nD)] = .ok (.bl true) := by
  have g0 := gD0 n E
  refine run_of fun Q hQ => ?_
  walk_at "go"
  unfold m_is_walk
  have hne := pth_ne hp
  refine wp_seq_if (b := false || false) (mOr_ok (by simp) fun _ => by simp [hne]) (fun z => by cases z) (fun _ => ?_)
  rw [mSkip_eq, wp_ok, thn_nx]
  refine wp_seq_if (b := false) ?_ (fun z => by cases z) (fun _ => ?_)
  · rw [mTru_eq, mLc_ok (ds := p.map nD) (h := fun _ => none) (by simp [mItemsA]) (by simp; omega) fun d hd => ?_]
    · simp
    · obtain ⟨v, hv, rfl⟩ := List.mem_map.mp hd
      have := hl v hv
      refine lcf_f tName_eq ?_
      simp [wipeR, g0, in_range_int]
      omega
  rw [mSkip_eq, wp_ok, thn_nx]
  refine wp_end (mRet_ok (d := .bl true) ?_) hQ
  have hz : (mIter fZip (mCons (mV 1) (mCons (mSl (mB 1) (mPart (mC (.int 1))) mNoPart) mNil))) [A.d (gD n E), A.d (.tup (p.map nD)), A.un, A.un, A.un] = .ok (zipD (p.map nD) ((p.map nD).drop 1)) := by
    simp only [mIter_eq, mCons_eq, mV_eq, mB_eq, mNil_eq, mSl_eq, mPart_ok (ma := mC (.int 1)) (i := 1) rfl, mNoPart_eq, List.getElem?_cons_zero, List.getElem?_cons_succ, vw_d, bw_d, R.bind_ok, oSl_from1]
    rfl
  rw [mNotT_eq, mLc_ok (ds := zipD (p.map nD) ((p.map nD).drop 1)) (h := fun _ => none) hz (by rw [zipD_len]; simp; omega) fun d hd => ?_]
  · simp
  · obtain ⟨i, x, y, hx, hy, rfl⟩ := zipD_mem hd
    rw [List.getElem?_map] at hx
    rw [List.getElem?_drop, List.getElem?_map, Nat.add_comm] at hy
    cases hx' : p[i]? with
    | none => rw [hx'] at hx; cases hx
    | some u =>
      cases hy' : p[i + 1]? with
      | none => rw [hy'] at hy; cases hy
      | some w =>
        rw [hx'] at hx
        rw [hy'] at hy
        cases hx
        cases hy
        have adj := hp.get hx' hy'
        refine lcf_f tTuple2_eq ?_
        have z := oNotIn_lst (k := 0) (d := nD w) (xs := (nbs E u).map nD) (b := false) (by simp [pln]) (plns_iff.mpr fun x hx => by obtain ⟨v, _, rfl⟩ := List.mem_map.mp hx; simp [pln]) (by omega)
          ⟨fun z => absurd z Bool.false_ne_true, fun z => absurd (List.mem_map.mpr ⟨w, (mem_nbs G).mpr adj, rfl⟩) z⟩
        simp [wipeR, neighbors_ok G u, z]
theorem is_paper_ok (G : GOk n E) (T : TOk n t) {kind : Str} {p : List Nat} (hk : kind = "odd" ∨ kind = "far" ∨ kind = "parity") (P : PaperOk n E t kind p) : g_is_paper [gD n E, tD n t, pD kind p] = .ok (.bl true) := by
  have g0 := gD0 n E
  have p0 : oIx (pD kind p) (.int 0) = .ok (.str kind) := by unfold pD; simp
  have p1 : oIx (pD kind p) (.int 1) = .ok (.tup (p.map nD)) := by unfold pD; simp
  obtain ⟨pth, lt, few, ok⟩ := P
  refine run_of fun Q hQ => ?_
  walk_at "go"
  unfold m_is_paper
  refine wp_stp (mExpr_ok (d := .non) (by simp [check_told_ok G T])) ?_
  refine wp_seq_if (b := false || (false || false)) (mOr_ok (by simp [pD]) fun _ => mOr_ok (by simp [pD]) fun _ => by simp [p1, is_walk_ok G pth lt few]) (fun z => by cases z) (fun _ => ?_)
  rw [mSkip_eq, wp_ok, thn_nx]
  refine wp_stp (mSet_ok (d := .int ((p.length : Int) - 1)) (by simp [p1])) ?_
  walk_at "st"
  have fo : ("far" : Str) ≠ "odd" := by decide
  have po : ("parity" : Str) ≠ "odd" := by decide
  have pf : ("parity" : Str) ≠ "far" := by decide
  have oF : ("odd" : Str) ≠ "far" := by decide
  have oP : ("odd" : Str) ≠ "parity" := by decide
  have fP : ("far" : Str) ≠ "parity" := by decide
  have par2 : ∀ {s g : Nat}, p.head? = some s → p.getLast? = some g → (mCons (mBin oIx (mBin oIx (mB 2) (mC (.int 1))) (mC (.int 0))) (mCons (mBin oIx (mBin oIx (mB 2) (mC (.int 1))) (mNeg (mC (.int 1)))) mNil)) [A.d (gD n E), A.d (tD n t), A.d (pD kind p), A.d (.int ((p.length : Int) - 1)), A.un, A.un, A.un] = .ok [nD s, nD g] := fun {s g} h1 h2 => by
    simp only [mCons_eq, mBin_eq, mB_eq, mC_eq, mNil_eq, neg1, List.getElem?_cons_succ, List.getElem?_cons_zero, bw_d, R.bind_ok, p1, head_ix h1, last_ix h2]
  rcases ok with ⟨rfl, s, h1, h2, h3⟩ | ⟨s, g, x, y, h1, h2, hx, hy, h3⟩
  · refine wp_stp (mPar2_ok (par2 h1 h2)) ?_
    walk_at "st"
    refine wp_seq_if (b := true) (by simp [p0]) (fun _ => ?_) (fun z => by cases z)
    refine wp_end (mRet_ok (d := .bl (true && true)) (mAndV_ok (by simp) fun _ => ?_)) hQ
    simp [oMod_int]
    omega
  · refine wp_stp (mPar2_ok (par2 h1 h2)) ?_
    walk_at "st"
    have hs : s < n := lt s (List.mem_of_head? h1)
    have hg : g < n := lt g (List.mem_of_getLast? h2)
    have ts := tD_get hs hx
    have tg := tD_get hg hy
    have hko : kind ≠ "odd" := by rcases h3 with ⟨rfl, _⟩ | ⟨rfl, _⟩; exact fo; exact po
    refine wp_seq_if (b := false) (by simp [p0, hko]) (fun z => by cases z) (fun _ => ?_)
    rw [mSkip_eq, wp_ok, thn_nx]
    refine wp_seq_if (b := false || (false || false)) (mOr_ok ?_ fun _ => mOr_ok (by simp [ts]) fun _ => by simp [tg]) (fun z => by cases z) (fun _ => ?_)
    · have sp : PyData.strOk kind = true := by rcases hk with rfl | rfl | rfl <;> decide +kernel
      have z := oNotIn_tup (d := .str kind) (xs := [.str "far", .str "parity"]) (b := false) (by simpa [pln] using sp) (by simp only [plns, pln]; decide +kernel) ⟨fun z => absurd z Bool.false_ne_true, fun z => absurd (show D.str kind ∈ [D.str "far", D.str "parity"] from by rcases h3 with ⟨rfl, _⟩ | ⟨rfl, _⟩; exact List.mem_cons_self; exact List.mem_cons_of_mem _ List.mem_cons_self) z⟩
      rw [mT_eq, mBin_eq, mTup_ok (ds := [.str "far", .str "parity"]) (by simp) (by simp)]
      simp [p0, z]
    rw [mSkip_eq, wp_ok, thn_nx]
    refine wp_stp (mSet_ok (d := .int (ab (x - y))) (by simp only [mCall_eq, mCons_eq, mNil_eq, mBin_eq, mB_eq, List.getElem?_cons_succ, List.getElem?_cons_zero, bw_d, R.bind_ok, ts, tg, oSub_int, fAbs_int]; rfl)) ?_
    walk_at "st"
    refine wp_end (mRet_ok (d := .bl true) ?_) hQ
    rcases h3 with ⟨rfl, h3⟩ | ⟨rfl, h3⟩
    · rw [mIf_t (by simp [p0])]
      simp
      omega
    · rw [mIf_f (by simp [p0, pf])]
      simp [oMod_int]
      omega
theorem law_whole_int (i : Int) : g__law_whole [.int i] = .ok (.bl true) := by
  refine run_of fun Q hQ => ?_
  walk_at "go"
  unfold m__law_whole
  exact wp_end (mRet_ok (d := .bl (true && true)) (mAndV_ok (by simp) fun _ => by simp)) hQ
theorem law_in_int (i lo hi : Int) : g__law_in [.int i, .int lo, .int hi] = .ok (.bl (decide (lo ≤ i ∧ i ≤ hi))) := by
  refine run_of fun Q hQ => ?_
  walk_at "go"
  unfold m__law_in
  refine wp_end (mRet_ok (d := .bl (decide (lo ≤ i ∧ i ≤ hi))) ?_) hQ
  rw [mAndV_ok (a := true) (by simp [law_whole_int]) (fun _ => mChain_le (i := lo) (j := i) (k := hi) (by simp) (by simp) (by simp))]
  simp
theorem law_is_paper_ok (G : GOk n E) (T : TOk n t) {kind : Str} {p : List Nat} (hk : kind = "odd" ∨ kind = "far" ∨ kind = "parity") (P : PaperOk n E t kind p) : g__law_is_paper [gD n E, tD n t, pD kind p] = .ok (.bl true) := by
  have g0 := gD0 n E
  have p0 : oIx (pD kind p) (.int 0) = .ok (.str kind) := by unfold pD; simp
  have p1 : oIx (pD kind p) (.int 1) = .ok (.tup (p.map nD)) := by unfold pD; simp
  obtain ⟨pth, lt, few, ok⟩ := P
  have hne := pth_ne pth
  refine run_of fun Q hQ => ?_
  walk_at "go"
  unfold m__law_is_paper
  have plp : plns 0 (p.map nD) = true := plns_iff.mpr fun x hx => by obtain ⟨v, _, rfl⟩ := List.mem_map.mp hx; simp [pln]
  refine wp_seq_if (b := false || (false || (false || false))) (mOr_ok (by simp [pD]) fun _ => mOr_ok (by simp [pD]) fun _ => mOr_ok (by simp [p1]) fun _ => ?_) (fun z => by cases z) (fun _ => ?_)
  · have z := oEq_ok (k := 1) (d := .tup (p.map nD)) (e := .tup []) (b := false) (by simpa [pln] using plp) (by simp [pln, plns]) (by omega) ⟨fun z => absurd z Bool.false_ne_true, fun z => absurd (List.map_eq_nil_iff.mp (D.tup.inj z)) hne⟩
    rw [mT_eq, mBin_eq, mTup_ok (ds := []) rfl (by simp)]
    simp [p1, z]
  rw [mSkip_eq, wp_ok, thn_nx]
  refine wp_stp (mSet_ok (d := .tup (p.map nD)) (by simp [p1])) ?_
  walk_at "st"
  refine wp_seq_if (b := false) ?_ (fun z => by cases z) (fun _ => ?_)
  · have hl : mLc [9] (mItemsA (mV 3)) (tName 9) (mNot (mTru (mFn 3 g__law_in (mCons (mV 9) (mCons (mC (.int 0)) (mCons (mBin oSub (mBin oIx (mB 0) (mC (.int 0))) (mC (.int 1))) mNil)))))) (mV 9) [A.d (gD n E), A.d (tD n t), A.d (pD kind p), A.d (.tup (p.map nD)), A.un, A.un, A.un, A.un, A.un, A.un] = .ok (.lst []) := by
      rw [mLc_ok (ds := p.map nD) (h := fun _ => none) (by simp [mItemsA]) (by simp; omega) fun d hd => ?_]
      · simp
      · obtain ⟨v, hv, rfl⟩ := List.mem_map.mp hd
        have := lt v hv
        refine lcf_f tName_eq ?_
        simp [wipeR, g0, law_in_int]
        omega
    have z := oNe_ok (k := 1) (d := .lst []) (e := .lst []) (b := false) (by simp [pln, plns]) (by simp [pln, plns]) (by omega) ⟨fun z => absurd z Bool.false_ne_true, fun z => absurd rfl z⟩
    rw [mT_eq, mBin_eq, hl]
    simp [mLst, z]
  rw [mSkip_eq, wp_ok, thn_nx, wp_seq]
  refine wp_for (ds := (List.range' 1 (p.length - 1)).map fun i => nD i) (fun pre ρ => ∃ a4 : A, ρ = [A.d (gD n E), A.d (tD n t), A.d (pD kind p), A.d (.tup (p.map nD)), a4, A.un, A.un, A.un, A.un, A.un]) ?_ ⟨_, rfl⟩ ?_ ?_
  · have z := fRange2_nat (i := 1) (k := p.length) (by omega) (by omega)
    simp
    exact z
  · rintro pre d r ρ e ⟨a4, rfl⟩
    obtain ⟨rfl, hlt⟩ := split_range' e
    refine ⟨_, rfl, fun Q' hQ' => ?_⟩
    walk_at "st"
    generalize hj : pre.length = j at *
    obtain ⟨u, hu⟩ : ∃ u, p[j]? = some u := ⟨_, List.getElem?_eq_getElem (by omega)⟩
    obtain ⟨w, hw⟩ : ∃ w, p[j + 1]? = some w := ⟨_, List.getElem?_eq_getElem (by omega)⟩
    have adj := pth.get hu hw
    have e1 : oIx (.tup (p.map nD)) (nD (1 + j)) = .ok (nD w) := oIx_tup (by rw [List.getElem?_map, Nat.add_comm, hw]; rfl)
    have e2 : oIx (.tup (p.map nD)) (.int (((1 + j : Nat) : Int) - 1)) = .ok (nD u) := by
      rw [show ((1 + j : Nat) : Int) - 1 = (j : Int) by omega]
      exact oIx_tup (by rw [List.getElem?_map, hu]; rfl)
    have z := oNotIn_lst (k := 0) (d := nD w) (xs := (nbr E u).map nD) (b := false) (by simp [pln]) (plns_iff.mpr fun x hx => by obtain ⟨v, _, rfl⟩ := List.mem_map.mp hx; simp [pln]) (by omega)
      ⟨fun z => absurd z Bool.false_ne_true, fun z => absurd (List.mem_map.mpr ⟨w, (mem_nbr G).mpr adj, rfl⟩) z⟩
    refine wp_if (b := false) (by simp only [mT_eq, mBin_eq, mB_eq, mC_eq, mFn_eq, mCons_eq, mNil_eq, mV_eq, List.getElem?_cons_succ, List.getElem?_cons_zero, vw_d, bw_d, R.bind_ok, e1, oSub_int, e2, List.length_cons, List.length_nil, Nat.zero_add, Nat.reduceAdd, if_true, beside_ok G u, z, boolOf_bl]) (fun z => by cases z) (fun _ => ?_)
    rw [mSkip_eq, wp_ok]
    exact hQ' _ ⟨_, rfl⟩
  rintro ρ ⟨a4, rfl⟩
  rw [thn_nx]
  have fo : ("far" : Str) ≠ "odd" := by decide
  have po : ("parity" : Str) ≠ "odd" := by decide
  have pf : ("parity" : Str) ≠ "far" := by decide
  have par3 : ∀ {s g : Nat}, p.head? = some s → p.getLast? = some g → (mCons (mBin oIx (mB 3) (mC (.int 0))) (mCons (mBin oIx (mB 3) (mNeg (mC (.int 1)))) (mCons (mBin oSub (mCall fLen (mCons (mB 3) mNil)) (mC (.int 1))) mNil))) [A.d (gD n E), A.d (tD n t), A.d (pD kind p), A.d (.tup (p.map nD)), a4, A.un, A.un, A.un, A.un, A.un] = .ok [nD s, nD g, .int ((p.length : Int) - 1)] := fun {s g} h1 h2 => by
    simp only [mCons_eq, mBin_eq, mB_eq, mC_eq, mNil_eq, mCall_eq, neg1, List.getElem?_cons_succ, List.getElem?_cons_zero, bw_d, R.bind_ok, head_ix h1, last_ix h2, fLen_tup, oSub_int, List.length_map]
  rcases ok with ⟨rfl, s, h1, h2, h3⟩ | ⟨s, g, x, y, h1, h2, hx, hy, h3⟩
  · refine wp_stp (mPar3_ok (par3 h1 h2)) ?_
    walk_at "st"
    refine wp_seq_if (b := true) (by simp [p0]) (fun _ => ?_) (fun z => by cases z)
    refine wp_end (mRet_ok (d := .bl (true && true)) (mAndV_ok (by simp) fun _ => ?_)) hQ
    simp [oMod_int]
    omega
  · refine wp_stp (mPar3_ok (par3 h1 h2)) ?_
    walk_at "st"
    have hs : s < n := lt s (List.mem_of_head? h1)
    have hg : g < n := lt g (List.mem_of_getLast? h2)
    have ts := tD_get hs hx
    have tg := tD_get hg hy
    have hko : kind ≠ "odd" := by rcases h3 with ⟨rfl, _⟩ | ⟨rfl, _⟩; exact fo; exact po
    refine wp_seq_if (b := false) (by simp [p0, hko]) (fun z => by cases z) (fun _ => ?_)
    rw [mSkip_eq, wp_ok, thn_nx]
    refine wp_seq_if (b := false || (false || false)) (mOr_ok ?_ fun _ => mOr_ok (by simp [ts]) fun _ => by simp [tg]) (fun z => by cases z) (fun _ => ?_)
    · have sp : PyData.strOk kind = true := by rcases hk with rfl | rfl | rfl <;> decide +kernel
      have z := oNotIn_tup (d := .str kind) (xs := [.str "far", .str "parity"]) (b := false) (by simpa [pln] using sp) (by simp only [plns, pln]; decide +kernel) ⟨fun z => absurd z Bool.false_ne_true, fun z => absurd (show D.str kind ∈ [D.str "far", D.str "parity"] from by rcases h3 with ⟨rfl, _⟩ | ⟨rfl, _⟩; exact List.mem_cons_self; exact List.mem_cons_of_mem _ List.mem_cons_self) z⟩
      rw [mT_eq, mBin_eq, mTup_ok (ds := [.str "far", .str "parity"]) (by simp) (by simp)]
      simp [p0, z]
    rw [mSkip_eq, wp_ok, thn_nx]
    refine wp_stp (mSet_ok (d := .int (ab (x - y))) (by simp only [mCall_eq, mCons_eq, mNil_eq, mBin_eq, mB_eq, List.getElem?_cons_succ, List.getElem?_cons_zero, bw_d, R.bind_ok, ts, tg, oSub_int, fAbs_int]; rfl)) ?_
    walk_at "st"
    refine wp_end (mRet_ok (d := .bl true) ?_) hQ
    rcases h3 with ⟨rfl, h3⟩ | ⟨rfl, h3⟩
    · rw [mIf_t (by simp [p0])]
      simp
      omega
    · rw [mIf_f (by simp [p0, pf])]
      simp [oMod_int]
      omega
end
end VL

/-! M12: all heights, as the law finds them along edges. -/
namespace VL
open PySem PySem.Spec PyProof.Rows L2
local macro_rules | `(tactic| walk_at "go") => `(tactic| simp only [List.map, List.length_cons, List.length_nil, List.replicate, List.cons_append, List.nil_append, Nat.reduceAdd, Nat.reduceSub, Nat.add_zero, Nat.zero_add])
local macro_rules | `(tactic| walk_at "st") => `(tactic| simp only [List.set_cons_zero, List.set_cons_succ])
/-- what is closed along edges is all -/
theorem closed_all {n : Nat} {E : List Ed} (G : GOk n E) {S : Nat → Prop} {s : Nat} (hs : s < n) (h0 : S s) (hc : ∀ u v, S u → Adj E u v → S v) : ∀ v, v < n → S v := by
  have down : ∀ v, v < n → S v → S 0 := by
    intro v
    induction v using Nat.strongRecOn with
    | _ v ih =>
      intro hv h
      by_cases e : v = 0
      · subst e; exact h
      · obtain ⟨u, hu, he⟩ := G.con v hv e
        exact ih u hu (by omega) (hc v u h (.inr he))
  have zero := down s hs h0
  intro v
  induction v using Nat.strongRecOn with
  | _ v ih =>
    intro hv
    by_cases e : v = 0
    · subst e; exact zero
    · obtain ⟨u, hu, he⟩ := G.con v hv e
      exact hc u v (ih u hu (by omega)) (.inl he)
/-! ### a table of heights by its keys and its values -/
def look (u : Nat) : List Nat → List Int → Option Int
  | k :: ks, x :: xs => if u = k then some x else look u ks xs
  | _, _ => none
abbrev iN (u : Nat) : Int := (u : Int)
def dD (od : List Nat) (vs : List Int) : D := .dic (od.map iN) (vs.map D.int)
theorem lookI_look (u : Nat) : ∀ (od : List Nat) (vs : List Int), lookI (u : Int) (od.map iN) (vs.map D.int) = (look u od vs).map D.int
  | [], _ => by cases ‹List Int› <;> rfl
  | _ :: _, [] => rfl
  | k :: od, x :: vs => by
    rw [List.map_cons, List.map_cons, lookI, look, lookI_look u od vs]
    by_cases h : u = k
    · rw [if_pos (by rw [h]), if_pos h]; rfl
    · rw [if_neg (by intro z; exact h (by have : (u : Int) = (k : Int) := z; omega)), if_neg h]
theorem look_none {u : Nat} : ∀ {od : List Nat} {vs : List Int}, u ∉ od → look u od vs = none
  | [], vs, _ => by cases vs <;> rfl
  | _ :: _, [], _ => rfl
  | k :: od, x :: vs, h => by
    rw [look, if_neg (fun z => h (by rw [z]; exact List.mem_cons_self))]
    exact look_none fun z => h (List.mem_cons_of_mem _ z)
theorem look_some {u : Nat} : ∀ {od : List Nat} {vs : List Int}, vs.length = od.length → u ∈ od → ∃ x, look u od vs = some x
  | [], vs, _, h => by cases h
  | k :: od, [], hl, _ => by simp at hl
  | k :: od, x :: vs, hl, h => by
    rw [look]
    by_cases e : u = k
    · exact ⟨x, if_pos e⟩
    · rw [if_neg e]
      exact look_some (by simpa using hl) ((List.mem_cons.mp h).resolve_left e)
theorem look_mem {u : Nat} {od : List Nat} {vs : List Int} {x : Int} (h : look u od vs = some x) : u ∈ od := by
  by_cases hu : u ∈ od
  · exact hu
  · rw [look_none hu] at h; cases h
theorem look_app {u w : Nat} {h : Int} : ∀ {od : List Nat} {vs : List Int}, vs.length = od.length → look u (od ++ [w]) (vs ++ [h]) = if u ∈ od then look u od vs else if u = w then some h else none
  | [], [], _ => by simp [look]
  | [], _ :: _, hl => by simp at hl
  | k :: od, [], hl => by simp at hl
  | k :: od, x :: vs, hl => by
    rw [List.cons_append, List.cons_append, look, look_app (od := od) (vs := vs) (by simpa using hl), look]
    by_cases e : u = k
    · rw [if_pos e, if_pos (by rw [e]; exact List.mem_cons_self), if_pos e]
    · rw [if_neg e, if_neg e]
      by_cases m : u ∈ od
      · rw [if_pos m, if_pos (List.mem_cons_of_mem _ m)]
      · rw [if_neg m, if_neg (show ¬ u ∈ k :: od by simp [e, m])]
theorem look_map {h : Nat → Int} {u : Nat} : ∀ {od : List Nat}, u ∈ od → look u od (od.map h) = some (h u)
  | [], z => by cases z
  | k :: od, z => by
    rw [List.map_cons, look]
    by_cases e : u = k
    · rw [if_pos e, e]
    · rw [if_neg e]; exact look_map ((List.mem_cons.mp z).resolve_left e)
theorem look_ext : ∀ {od : List Nat} {vs ws : List Int}, od.Nodup → vs.length = od.length → ws.length = od.length → (∀ u ∈ od, look u od vs = look u od ws) → vs = ws
  | [], [], [], _, _, _, _ => rfl
  | [], _ :: _, _, _, h, _, _ => by simp at h
  | [], _, _ :: _, _, _, h, _ => by simp at h
  | _ :: _, [], _, _, h, _, _ => by simp at h
  | _ :: _, _ :: _, [], _, _, h, _ => by simp at h
  | k :: od, x :: vs, y :: ws, nd, h1, h2, h => by
    rw [List.nodup_cons] at nd
    have e := h k List.mem_cons_self
    rw [look, look, if_pos rfl, if_pos rfl] at e
    cases e
    rw [look_ext (od := od) (vs := vs) (ws := ws) nd.2 (by simpa using h1) (by simpa using h2) fun u hu => by
      have z := h u (List.mem_cons_of_mem _ hu)
      have ne : u ≠ k := fun q => nd.1 (q ▸ hu)
      rw [look, look, if_neg ne, if_neg ne] at z
      exact z]
/-- heights on the vertices od -/
structure PVal (E : List Ed) (t : Nat → Option Int) (od : List Nat) (vs : List Int) : Prop where
  len : vs.length = od.length
  stp : ∀ e ∈ E, ∀ x y, look e.1 od vs = some x → look e.2 od vs = some y → x - y = 1 ∨ y - x = 1
  tld : ∀ u x y, look u od vs = some x → t u = some y → x = y
/-- the heights of the neighbors that are known -/
def kn (E : List Ed) (w : Nat) (od : List Nat) (vs : List Int) : List Int := (nbr E w).filterMap fun u => look u od vs
def tOk : Option Int → Int → Bool
  | none, _ => true
  | some y, h => decide (y = h)
def okH (t : Nat → Option Int) (w : Nat) (ks : List Int) (h : Int) : Bool := (ks.all fun x => decide (ab (x - h) = 1)) && tOk (t w) h
def exts (E : List Ed) (t : Nat → Option Int) (w : Nat) (od : List Nat) (vs : List Int) : List (List Int) := ([(kn E w od vs).headD 0 - 1, (kn E w od vs).headD 0 + 1].filter (okH t w (kn E w od vs))).map fun h => vs ++ [h]
theorem mem_kn {n : Nat} {E : List Ed} (G : GOk n E) {w : Nat} {od : List Nat} {vs : List Int} {x : Int} : x ∈ kn E w od vs ↔ ∃ u, Adj E w u ∧ look u od vs = some x := by
  unfold kn
  rw [List.mem_filterMap]
  constructor
  · rintro ⟨u, h1, h2⟩; exact ⟨u, (mem_nbr G).mp h1, h2⟩
  · rintro ⟨u, h1, h2⟩; exact ⟨u, (mem_nbr G).mpr h1, h2⟩
theorem ab_one {x h : Int} : ab (x - h) = 1 ↔ x - h = 1 ∨ h - x = 1 := by unfold ab; split <;> omega
theorem okH_iff {t : Nat → Option Int} {w : Nat} {ks : List Int} {h : Int} : okH t w ks h = true ↔ (∀ x ∈ ks, x - h = 1 ∨ h - x = 1) ∧ ∀ y, t w = some y → y = h := by
  unfold okH
  rw [Bool.and_eq_true, List.all_eq_true]
  constructor
  · rintro ⟨h1, h2⟩
    refine ⟨fun x hx => ab_one.mp (of_decide_eq_true (h1 x hx)), fun y hy => ?_⟩
    rw [hy] at h2
    exact of_decide_eq_true h2
  · rintro ⟨h1, h2⟩
    refine ⟨fun x hx => decide_eq_true (ab_one.mpr (h1 x hx)), ?_⟩
    cases q : t w with
    | none => rfl
    | some y => exact decide_eq_true (h2 y q)
/-- one vertex more -/
theorem mem_exts {n : Nat} {E : List Ed} (G : GOk n E) {t : Nat → Option Int} {w : Nat} {od : List Nat} (hw : w ∉ od) (hadj : ∃ u, u ∈ od ∧ Adj E w u) {vss : List (List Int)} (hv : ∀ vs, vs ∈ vss ↔ PVal E t od vs) (vs' : List Int) :
    vs' ∈ vss.flatMap (exts E t w od) ↔ PVal E t (od ++ [w]) vs' := by
  rw [List.mem_flatMap]
  obtain ⟨u0, hu0, a0⟩ := hadj
  constructor
  · rintro ⟨vs, h1, h2⟩
    have P := (hv vs).mp h1
    unfold exts at h2
    obtain ⟨h, h3, rfl⟩ := List.mem_map.mp h2
    obtain ⟨_, h4⟩ := List.mem_filter.mp h3
    obtain ⟨ok1, ok2⟩ := okH_iff.mp h4
    have lk : ∀ {u x}, look u (od ++ [w]) (vs ++ [h]) = some x → (u ∈ od ∧ look u od vs = some x) ∨ (u = w ∧ x = h) := fun {u x} z => by
      rw [look_app P.len] at z
      by_cases m : u ∈ od
      · rw [if_pos m] at z; exact .inl ⟨m, z⟩
      · rw [if_neg m] at z
        by_cases e : u = w
        · rw [if_pos e] at z; cases z; exact .inr ⟨e, rfl⟩
        · rw [if_neg e] at z; cases z
    refine ⟨by simp [P.len], fun e he x y hx hy => ?_, fun u x y hx hy => ?_⟩
    · rcases lk hx with ⟨m1, l1⟩ | ⟨e1, rfl⟩
      · rcases lk hy with ⟨m2, l2⟩ | ⟨e2, rfl⟩
        · exact P.stp e he x y l1 l2
        · exact ok1 x ((mem_kn G).mpr ⟨e.1, .inr (by rw [← e2]; exact he), l1⟩)
      · rcases lk hy with ⟨m2, l2⟩ | ⟨e2, rfl⟩
        · exact (ok1 y ((mem_kn G).mpr ⟨e.2, .inl (by rw [← e1]; exact he), l2⟩)).symm
        · have := G.ed e he; omega
    · rcases lk hx with ⟨m1, l1⟩ | ⟨e1, rfl⟩
      · exact P.tld u x y l1 hy
      · rw [e1] at hy; exact (ok2 y hy).symm
  · intro P
    have hl := P.len
    rw [List.length_append] at hl
    obtain ⟨vs, h, rfl⟩ : ∃ vs h, vs' = vs ++ [h] := by
      rcases List.eq_nil_or_concat vs' with z | ⟨l, b, z⟩
      · rw [z] at hl; simp at hl
      · exact ⟨l, b, by rw [z, List.concat_eq_append]⟩
    have hl' : vs.length = od.length := by simpa using hl
    have old : ∀ {u x}, look u od vs = some x → look u (od ++ [w]) (vs ++ [h]) = some x := fun {u x} z => by rw [look_app hl', if_pos (look_mem z)]; exact z
    have new : look w (od ++ [w]) (vs ++ [h]) = some h := by rw [look_app hl', if_neg hw, if_pos rfl]
    have P' : PVal E t od vs := ⟨hl', fun e he x y hx hy => P.stp e he x y (old hx) (old hy), fun u x y hx hy => P.tld u x y (old hx) hy⟩
    have all : ∀ x ∈ kn E w od vs, x - h = 1 ∨ h - x = 1 := fun x hx => by
      obtain ⟨u, a, l⟩ := (mem_kn G).mp hx
      rcases a with a | a
      · exact (P.stp _ a h x new (old l)).symm
      · exact P.stp _ a x h (old l) new
    refine ⟨vs, (hv vs).mpr P', ?_⟩
    unfold exts
    refine List.mem_map.mpr ⟨h, List.mem_filter.mpr ⟨?_, okH_iff.mpr ⟨all, fun y hy => (P.tld w h y new hy).symm⟩⟩, rfl⟩
    obtain ⟨x0, hx0⟩ := look_some hl' hu0
    have hm := (mem_kn G).mpr ⟨u0, a0, hx0⟩
    cases q : kn E w od vs with
    | nil => rw [q] at hm; cases hm
    | cons k ks =>
      have := all k (by rw [q]; exact List.mem_cons_self)
      simp only [List.headD_cons, List.mem_cons, List.not_mem_nil, or_false]
      omega
theorem nodup_exts {E : List Ed} {t : Nat → Option Int} {w : Nat} {od : List Nat} {vss : List (List Int)} (nd : vss.Nodup) : (vss.flatMap (exts E t w od)).Nodup := by
  unfold List.Nodup
  rw [List.pairwise_flatMap]
  refine ⟨fun vs _ => ?_, nd.imp fun {a b} hab x hx y hy e => ?_⟩
  · unfold exts
    rw [List.pairwise_map]
    refine List.Pairwise.filter _ ?_
    simp
    omega
  · unfold exts at hx hy
    obtain ⟨h1, _, rfl⟩ := List.mem_map.mp hx
    obtain ⟨h2, _, rfl⟩ := List.mem_map.mp hy
    have := List.append_inj' e rfl
    exact hab this.1
theorem exts_len {E : List Ed} {t : Nat → Option Int} {w : Nat} {od : List Nat} (vs : List Int) : (exts E t w od vs).length ≤ 2 := by
  unfold exts
  rw [List.length_map]
  exact List.length_filter_le _ _
theorem flat_len {α β : Type} {f : α → List β} (hf : ∀ x, (f x).length ≤ 2) : ∀ l : List α, (l.flatMap f).length ≤ 2 * l.length
  | [] => by simp
  | x :: l => by
    rw [List.flatMap_cons, List.length_append, List.length_cons]
    have := hf x
    have := flat_len hf l
    omega
/-! ### the program's table with one more -/
theorem with_ok {od : List Nat} {vs : List Int} {w : Nat} {h : Int} (nd : od.Nodup) (hne : od ≠ []) (hw : w ∉ od) (hl : od.length ≤ 1000) : g__law_with [dD od vs, nD w, .int h] = .ok (dD (od ++ [w]) (vs ++ [h])) := by
  refine run_of fun Q hQ => ?_
  walk_at "go"
  unfold m__law_with
  have nd' : (od.map iN).Nodup := List.Pairwise.map _ (fun a b hab z => hab (by have : (a : Int) = b := z; omega)) nd
  have hw' : iN w ∉ od.map iN := fun z => by
    obtain ⟨u, hu, e⟩ := List.mem_map.mp z
    have : u = w := by have : (u : Int) = w := e; omega
    exact hw (this ▸ hu)
  refine wp_stp (show mNewD 3 _ = .ok (.nx _) from rfl) ?_
  walk_at "st"
  refine wp_stp (ρ' := [A.d (dD od vs), A.d (nD w), A.d (.int h), A.md (od.map iN) (vs.map D.int), A.un]) ?_ ?_
  · unfold mCopyD
    simp only [List.getElem?_cons_succ, List.getElem?_cons_zero, dD]
    rw [if_pos ⟨trivial, nd', by simpa using hne, by simp; omega, by simp⟩]
    rfl
  refine wp_stp (ρ' := [A.d (dD od vs), A.d (nD w), A.d (.int h), A.md (od.map iN ++ [iN w]) (vs.map D.int ++ [.int h]), A.un]) ?_ ?_
  · unfold mDPut
    simp only [mV_eq, List.getElem?_cons_succ, List.getElem?_cons_zero, vw_d, R.bind_ok]
    rw [if_pos ⟨hw', by simp; omega⟩]
    rfl
  refine wp_end (o := .rt (dD (od ++ [w]) (vs ++ [h]))) ?_ hQ
  show R.ok (Out.rt (.dic (od.map iN ++ [iN w]) (vs.map D.int ++ [.int h]))) = _
  unfold dD
  rw [List.map_append, List.map_append]
  rfl
end VL

/-! M13: the law's list of all heights. -/
namespace VL
open PySem PySem.Spec PyProof.Rows L2
local macro_rules | `(tactic| walk_at "go") => `(tactic| simp only [List.map, List.length_cons, List.length_nil, List.replicate, List.cons_append, List.nil_append, Nat.reduceAdd, Nat.reduceSub, Nat.add_zero, Nat.zero_add])
local macro_rules | `(tactic| walk_at "st") => `(tactic| simp only [List.set_cons_zero, List.set_cons_succ])
/-- a comprehension over encoded things -/
theorem lcGo_of {α : Type} {f : D → R (Option D)} {enc : α → D} {g : α → Option D} : ∀ {xs : List α}, (∀ x ∈ xs, f (enc x) = .ok (g x)) → lcGo f (xs.map enc) = .ok (xs.filterMap g)
  | [], _ => rfl
  | x :: xs, H => by
    have e1 := H x List.mem_cons_self
    have e2 := lcGo_of (xs := xs) fun y hy => H y (List.mem_cons_of_mem _ hy)
    rw [List.map_cons]
    unfold lcGo
    rw [e1]
    cases hd : g x with
    | none => simp [hd, e2]
    | some y => simp [hd, e2]
theorem mLc_of {α : Type} {own : List Nat} {mi : Rho → R (List D)} {t : D → Rho → R Rho} {q : Rho → R Bool} {me : Rho → R D} {ρ : Rho} (xs : List α) (enc : α → D) (g : α → Option D) (hi : mi ρ = .ok (xs.map enc)) (hl : xs.length ≤ 1000000)
    (H : ∀ x ∈ xs, lcf t q me (wipeR ρ own) (enc x) = .ok (g x)) : mLc own mi t q me ρ = .ok (.lst (xs.filterMap g)) := by
  unfold mLc
  rw [hi, R.bind_ok, lcGo_of H]
  exact if_pos (Nat.le_trans (List.length_filterMap_le _ _) hl)
def fnH (h : List Int) (v : Nat) : Int := h.getD v 0
/-- heights, as a list -/
structure HT (n : Nat) (E : List Ed) (t : Nat → Option Int) (h : List Int) : Prop where
  len : h.length = n
  stp : Stp E (fnH h)
  tld : Tld n t (fnH h)
theorem sh_bl (a : Bool) : sh (.bl a) = true := by unfold sh SeqAt.shaped; simp [D.py, PyData.canLay0, PyData.depth]
@[simp] theorem oNe_bl {a b : Bool} : oNe (.bl a) (.bl b) = .ok (.bl (a != b)) := by
  unfold oNe okEq eqD
  rw [sh_bl, sh_bl]
  simp [D.py, PyData.eqv]
  cases a <;> cases b <;> rfl
@[simp] theorem oEq_bl {a b : Bool} : oEq (.bl a) (.bl b) = .ok (.bl (a == b)) := by
  unfold oEq okEq eqD
  rw [sh_bl, sh_bl]
  simp [D.py, PyData.eqv]
theorem plns_nDs (l : List Nat) : plns 0 (l.map nD) = true := plns_iff.mpr fun x hx => by obtain ⟨v, _, rfl⟩ := List.mem_map.mp hx; simp [pln]
theorem mem_nDs {v : Nat} {l : List Nat} : nD v ∈ l.map nD ↔ v ∈ l := ⟨fun h => by
  obtain ⟨u, hu, e⟩ := List.mem_map.mp h
  have : u = v := by have := D.int.inj e; omega
  exact this ▸ hu, fun h => List.mem_map.mpr ⟨v, h, rfl⟩⟩
theorem in_nDs (v : Nat) (l : List Nat) : oIn (nD v) (.lst (l.map nD)) = .ok (.bl (decide (v ∈ l))) := oIn_lst (k := 0) (by simp [pln]) (plns_nDs l) (by omega) (by rw [decide_eq_true_eq, mem_nDs])
section
variable {n : Nat} {E : List Ed} {t : Nat → Option Int}
theorem told_lc (hle : n ≤ 8) {i : Nat} {ρ : Rho} (hi : i < ρ.length) (hi0 : i ≠ 0) (hi1 : i ≠ 1) (h0 : ρ[0]? = some (.d (gD n E))) (h1 : ρ[1]? = some (.d (tD n t))) :
    mLc [i] (mIter fRange1 (mCons (mBin oIx (mB 0) (mC (.int 0))) mNil)) (tName i) (mTest false (mBin oIx (mB 1) (mB i))) (mV i) ρ = .ok (.lst ((kno n t).map nD)) := by
  rw [mLc_ok (ds := row n fun v => nD v) (h := fun d => match d with
    | .int v => if (t v.toNat).isSome = true then some (nD v.toNat) else none
    | _ => none) (by simp only [mIter_eq, mCons_eq, mBin_eq, mB_eq, mC_eq, mNil_eq, h0, bw_d, R.bind_ok, gD0]; exact fRange1_nat (k := n) (by omega)) (by rw [row_len]; omega) fun d hd => ?_]
  · congr 2
    unfold kno row
    rw [List.filterMap_map, ← List.filterMap_eq_filter, List.map_filterMap]
    apply fm_congr
    intro v _
    simp only [Function.comp, Option.guard, Int.toNat_natCast]
    by_cases hz : (t v).isSome = true <;> simp [hz]
  · obtain ⟨v, hv, rfl⟩ := List.mem_map.mp hd
    have hv := List.mem_range.mp hv
    have hl : (wipeR ρ [i]).length = ρ.length := by simp [wipeR]
    have e1 : ((wipeR ρ [i]).set i (.d (nD v)))[i]? = some (.d (nD v)) := List.getElem?_set_self (by omega)
    have e2 : ((wipeR ρ [i]).set i (.d (nD v)))[1]? = some (.d (tD n t)) := by
      rw [List.getElem?_set_ne hi1]
      show (ρ.set i .un)[1]? = _
      rw [List.getElem?_set_ne hi1]; exact h1
    have tv := tD_get' (t := t) hv
    simp only [Int.toNat_natCast]
    cases q : t v with
    | none =>
      rw [q] at tv
      exact lcf_f tName_eq (by rw [mTest_eq, mBin_eq, mB_eq, mB_eq, e1, e2]; simp [tv, oD])
    | some x =>
      rw [q] at tv
      exact lcf_t tName_eq (by rw [mTest_eq, mBin_eq, mB_eq, mB_eq, e1, e2]; simp [tv, oD]) (by rw [mV_eq, e1]; rfl)
theorem pval_one {f0 : Nat} {x0 : Int} (G : GOk n E) (hx : t f0 = some x0) (vs : List Int) : vs ∈ [[x0]] ↔ PVal E t [f0] vs := by
  rw [List.mem_singleton]
  constructor
  · rintro rfl
    refine ⟨rfl, fun e he x y h1 h2 => ?_, fun u x y h1 h2 => ?_⟩
    · have h1 := look_mem h1
      have h2 := look_mem h2
      rw [List.mem_singleton] at h1 h2
      have := G.ed e he
      omega
    · have hu := look_mem h1
      rw [List.mem_singleton] at hu
      subst hu
      simp [look] at h1
      rw [hx] at h2
      cases h2
      exact h1.symm
  · intro P
    have hl := P.len
    match vs, hl with
    | [x], _ => rw [P.tld f0 x x0 (by simp [look]) hx]
theorem look_hts {od : List Nat} (hall : ∀ v, v < n → v ∈ od) {vs : List Int} (hl : vs.length = od.length) {v : Nat} (hv : v < n) : look v od vs = some (fnH (row n fun v => (look v od vs).getD 0) v) := by
  obtain ⟨x, hx⟩ := look_some hl (hall v hv)
  unfold fnH
  rw [List.getD_eq_getElem?_getD, row_get hv, hx]
  rfl
theorem law_all_ok (G : GOk n E) (T : TOk n t) : ∃ hs : List (List Int), g__law_all [gD n E, tD n t] = .ok (.lst (hs.map hD)) ∧ (hs.Pairwise fun a b => lexI a b = true) ∧ (∀ h, h ∈ hs ↔ HT n E t h) ∧ hs.length ≤ 128 := by
  have g0 := gD0 n E
  have g1 := gD1 n E
  have hle := G.le
  have hpos := G.pos
  have hfew := G.few
  obtain ⟨f0, fr, hkn⟩ : ∃ f0 fr, kno n t = f0 :: fr := by
    obtain ⟨v, x, hv, hx⟩ := T.some_
    have hm : v ∈ kno n t := mem_kno.mpr ⟨hv, x, hx⟩
    cases q : kno n t with
    | nil => rw [q] at hm; cases hm
    | cons a l => exact ⟨a, l, rfl⟩
  obtain ⟨hf0, x0, hx0⟩ := mem_kno.mp (show f0 ∈ kno n t by rw [hkn]; exact List.mem_cons_self)
  have main : ∃ d, g__law_all [gD n E, tD n t] = .ok d ∧ ∃ hs : List (List Int), d = .lst (hs.map hD) ∧ (hs.Pairwise fun a b => lexI a b = true) ∧ (∀ h, h ∈ hs ↔ HT n E t h) ∧ hs.length ≤ 128 := by
    refine run_some fun Q hQ => ?_
    walk_at "go"
    unfold m__law_all
    refine wp_stp (mSet_ok (d := nD f0) (by rw [mBin_eq, told_lc (n := n) (E := E) (t := t) hle (by simp) (by omega) (by omega) rfl rfl, hkn]; simp)) ?_
    walk_at "st"
    have tf := tD_get hf0 hx0
    refine wp_stp (mSet_ok (d := .lst [dD [f0] [x0]]) (by
      have e : mDisp (mV 2) (mBin oIx (mB 1) (mB 2)) [A.d (gD n E), A.d (tD n t), A.d (nD f0), A.un, A.un, A.un, A.un, A.un, A.un, A.un, A.un, A.un, A.un] = .ok (dD [f0] [x0]) := by
        unfold mDisp
        simp only [mV_eq, mBin_eq, mB_eq, List.getElem?_cons_succ, List.getElem?_cons_zero, vw_d, bw_d, R.bind_ok, tf]
        rfl
      rw [mL_eq, mLst_ok (ds := [dD [f0] [x0]]) (by rw [mCons_eq, e]; rfl) (by simp)]
      rfl)) ?_
    walk_at "st"
    refine wp_stp (mSetN_ok (d := [nD f0]) (by simp [mLst])) ?_
    walk_at "st"
    rw [wp_seq]
    refine wp_for (ds := (List.range (n - 1)).map fun i => nD i) (fun pre ρ => ∃ (od : List Nat) (vss : List (List Int)) (a5 a6 a7 a8 a9 a10 a11 a12 : A), ρ = [.d (gD n E), .d (tD n t), .d (nD f0), .d (.lst (vss.map (dD od))), .m (od.map nD), a5, a6, a7, a8, a9, a10, a11, a12] ∧
      od.length = pre.length + 1 ∧ od.Nodup ∧ (∀ u ∈ od, u < n) ∧ (∀ vs, vs ∈ vss ↔ PVal E t od vs) ∧ vss.Nodup ∧ vss.length ≤ 2 ^ pre.length) ?_ ⟨[f0], [[x0]], _, _, _, _, _, _, _, _, rfl, rfl, by simp, by simpa using hf0, pval_one G hx0, by simp, by simp⟩ ?_ ?_
    · simp only [mIter_eq, mCons_eq, mBin_eq, mB_eq, mC_eq, mNil_eq, List.getElem?_cons_zero, bw_d, R.bind_ok, g0, oSub_int]
      rw [show (n : Int) - 1 = ((n - 1 : Nat) : Int) by omega]
      exact fRange1_nat (by omega)
    · rintro pre d r ρ e ⟨od, vss, a5, a6, a7, a8, a9, a10, a11, a12, rfl, hol, hond, hon, hv, hvnd, hvl⟩
      obtain ⟨rfl, hlt⟩ := split_range e
      refine ⟨_, rfl, fun Q' hQ' => ?_⟩
      walk_at "st"
      refine wp_stp (mSet_ok (d := .non) rfl) ?_
      walk_at "st"
      rw [wp_seq]
      refine wp_for (ds := E.map eD) (fun pre' ρ => ∃ (a6 a7 a8 : A), ρ = [.d (gD n E), .d (tD n t), .d (nD f0), .d (.lst (vss.map (dD od))), .m (od.map nD), .d (nD pre.length), a6, a7, a8, a9, a10, a11, a12] ∧
        ((a6 = .d .non ∧ ∀ e, eD e ∈ pre' → (e.1 ∈ od ↔ e.2 ∈ od)) ∨ ∃ w, a6 = .d (nD w) ∧ w ∉ od ∧ w < n ∧ ∃ u, u ∈ od ∧ Adj E w u)) (by simp [g1, mItemsA]) ⟨_, _, _, rfl, .inl ⟨rfl, by simp⟩⟩ ?_ ?_
      · rintro pre' d' r' ρ e' ⟨a6, a7, a8, rfl, h6⟩
        obtain ⟨⟨a, b⟩, rfl, hget, _⟩ := split_map e'
        have hab : (a, b) ∈ E := List.mem_of_getElem? hget
        have he := G.ed _ hab
        simp only at he
        refine ⟨_, by rw [eD_eq]; exact tTuple2_eq, fun Q'' k1 => ?_⟩
        walk_at "st"
        refine wp_if (b := (decide (a ∈ od) != decide (b ∈ od))) (by simp only [mT_eq, mBin_eq, mB_eq, List.getElem?_cons_succ, List.getElem?_cons_zero, bw_d, bw_m, R.bind_ok, in_nDs, oNe_bl, boolOf_bl]) (fun hc => ?_) (fun hc => ?_)
        · by_cases ha : a ∈ od
          · have hb : b ∉ od := fun z => by simp [ha, z] at hc
            refine wp_end (mSet_ok (d := nD b) (by rw [mIf_t (by simp only [mT_eq, mBin_eq, mB_eq, List.getElem?_cons_succ, List.getElem?_cons_zero, bw_d, bw_m, R.bind_ok, in_nDs, boolOf_bl, decide_eq_true ha])]; rfl)) (k1 _ ⟨_, _, _, rfl, .inr ⟨b, rfl, hb, he.2, a, ha, .inr hab⟩⟩)
          · have hb : b ∈ od := by
              by_cases z : b ∈ od
              · exact z
              · simp [ha, z] at hc
            refine wp_end (mSet_ok (d := nD a) (by rw [mIf_f (by simp only [mT_eq, mBin_eq, mB_eq, List.getElem?_cons_succ, List.getElem?_cons_zero, bw_d, bw_m, R.bind_ok, in_nDs, boolOf_bl, decide_eq_false ha])]; rfl)) (k1 _ ⟨_, _, _, rfl, .inr ⟨a, rfl, ha, by omega, b, hb, .inl hab⟩⟩)
        · rw [mSkip_eq, wp_ok]
          refine k1 _ ⟨_, _, _, rfl, ?_⟩
          rcases h6 with ⟨rfl, h6⟩ | h6
          · refine .inl ⟨rfl, fun e he => ?_⟩
            rcases List.mem_append.mp he with he | he
            · exact h6 e he
            · obtain rfl := eD_inj (List.mem_singleton.mp he)
              show a ∈ od ↔ b ∈ od
              by_cases ha : a ∈ od <;> by_cases hb : b ∈ od <;> simp [ha, hb] at hc ⊢
          · exact .inr h6
      · rintro ρ ⟨a6, a7, a8, rfl, h6⟩
        obtain ⟨w, rfl, hw, hwn, hadj⟩ : ∃ w, a6 = .d (nD w) ∧ w ∉ od ∧ w < n ∧ ∃ u, u ∈ od ∧ Adj E w u := by
          rcases h6 with ⟨_, h6⟩ | h6
          · exfalso
            have all : ∀ v, v < n → v ∈ od := by
              cases hod : od with
              | nil => rw [hod] at hol; simp at hol
              | cons a l =>
                rw [← hod]
                have ha : a ∈ od := by rw [hod]; exact List.mem_cons_self
                exact closed_all G (S := fun v => v ∈ od) (hon a ha) ha fun u v hu a => by
                  rcases a with a | a
                  · exact (h6 (u, v) (mem_eD.mpr a)).mp hu
                  · exact (h6 (v, u) (mem_eD.mpr a)).mpr hu
            have : (List.range n).length ≤ od.length := List.nodup_range.length_le_of_subset fun v hv => all v (List.mem_range.mp hv)
            simp at this
            omega
          · exact h6
        rw [thn_nx]
        refine wp_stp (mApp_ok (xs := od.map nD) (d := nD w) rfl rfl (by simp; omega)) ?_
        walk_at "st"
        rw [show od.map nD ++ [nD w] = (od ++ [w]).map nD by simp]
        refine wp_stp (mSetN_ok (d := []) rfl) ?_
        walk_at "st"
        rw [wp_seq]
        have h128 : vss.length ≤ 128 := Nat.le_trans hvl (Nat.le_trans (Nat.pow_le_pow_right (by omega) (show pre.length ≤ 7 by omega)) (by decide))
        have odne : od ≠ [] := fun z => by rw [z] at hol; simp at hol
        refine wp_for (ds := vss.map (dD od)) (fun pre' ρ => ∃ (a7 a8 a10 a11 a12 : A), ρ = [.d (gD n E), .d (tD n t), .d (nD f0), .d (.lst (vss.map (dD od))), .m ((od ++ [w]).map nD), .d (nD pre.length), .d (nD w), a7, a8, .m (((vss.take pre'.length).flatMap (exts E t w od)).map (dD (od ++ [w]))), a10, a11, a12])
          (by simp [mItemsA]) ⟨_, _, _, _, _, rfl⟩ ?_ ?_
        · rintro pre' d' r' ρ e' ⟨a7, a8, a10, a11, a12, rfl⟩
          obtain ⟨vs, rfl, hget, hltv⟩ := split_map e'
          have P := (hv vs).mp (List.mem_of_getElem? hget)
          refine ⟨_, rfl, fun Q'' k1 => ?_⟩
          walk_at "st"
          have hkl : (kn E w od vs).length ≤ 14 := by
            have h1 := List.length_filterMap_le (fun u => look u od vs) (nbr E w)
            have h2 := nbr_len (E := E) (v := w)
            unfold kn
            omega
          generalize hks : kn E w od vs = ks at hkl
          have hk : mLc [8] (mItemsA (mFn 2 g__law_beside (mCons (mV 0) (mCons (mV 6) mNil)))) (tName 8) (mT (mBin oIn (mB 8) (mB 7))) (mBin oDget (mB 7) (mB 8)) [.d (gD n E), .d (tD n t), .d (nD f0), .d (.lst (vss.map (dD od))), .m ((od ++ [w]).map nD), .d (nD pre.length), .d (nD w), .d (dD od vs), a8, .m (((vss.take pre'.length).flatMap (exts E t w od)).map (dD (od ++ [w]))), a10, a11, a12]
              = .ok (.lst (ks.map D.int)) := by
            have hlen := nbr_len (E := E) (v := w)
            rw [mLc_ok (ds := (nbr E w).map nD) (h := fun d => match d with
              | .int u => (look u.toNat od vs).map D.int
              | _ => none) (by simp only [mItemsA, mFn_eq, mCons_eq, mNil_eq, mV_eq, List.getElem?_cons_succ, List.getElem?_cons_zero, vw_d, R.bind_ok, List.length_cons, List.length_nil, Nat.zero_add, Nat.reduceAdd, if_true, beside_ok G w]) (by simp; omega) fun d hd => ?_]
            · rw [← hks]
              unfold kn
              rw [List.filterMap_map, List.map_filterMap]
              congr 2
            · obtain ⟨u, hu, rfl⟩ := List.mem_map.mp hd
              have hin : oIn (nD u) (dD od vs) = .ok (.bl (decide (u ∈ od))) := by
                show oIn (D.int u) (.dic (od.map iN) (vs.map D.int)) = _
                unfold oIn memD
                simp only
                congr 2
                rw [Bool.eq_iff_iff, List.contains_iff_mem, decide_eq_true_eq]
                exact ⟨fun h => by
                  obtain ⟨x, hx, e⟩ := List.mem_map.mp h
                  have : x = u := by have : (x : Int) = u := e; omega
                  exact this ▸ hx, fun h => List.mem_map.mpr ⟨u, h, rfl⟩⟩
              simp only [Int.toNat_natCast]
              by_cases hm : u ∈ od
              · obtain ⟨x, hx⟩ := look_some P.len hm
                rw [hx]
                refine lcf_t tName_eq ?_ ?_
                · simp only [wipeR, mT_eq, mBin_eq, mB_eq, List.set_cons_zero, List.set_cons_succ, List.getElem?_cons_succ, List.getElem?_cons_zero, bw_d, R.bind_ok, hin, boolOf_bl, decide_eq_true hm]
                · have hg : oDget (dD od vs) (nD u) = .ok (.int x) := by
                    show ofO (lookI (u : Int) (od.map iN) (vs.map D.int)) = _
                    rw [lookI_look, hx]
                    rfl
                  simp only [wipeR, mBin_eq, mB_eq, List.set_cons_zero, List.set_cons_succ, List.getElem?_cons_succ, List.getElem?_cons_zero, bw_d, R.bind_ok, hg]
              · rw [look_none hm]
                refine lcf_f tName_eq ?_
                simp only [wipeR, mT_eq, mBin_eq, mB_eq, List.set_cons_zero, List.set_cons_succ, List.getElem?_cons_succ, List.getElem?_cons_zero, bw_d, R.bind_ok, hin, boolOf_bl, decide_eq_false hm]
          refine wp_stp (mSet_ok hk) ?_
          walk_at "st"
          obtain ⟨k0, kr, hks2⟩ : ∃ k0 kr, ks = k0 :: kr := by
            obtain ⟨u0, hu0, a0⟩ := hadj
            obtain ⟨x, hx⟩ := look_some P.len hu0
            have hm : x ∈ kn E w od vs := (mem_kn G).mpr ⟨u0, a0, hx⟩
            rw [hks] at hm
            cases ks with
            | nil => cases hm
            | cons a l => exact ⟨a, l, rfl⟩
          have hix : oIx (.lst (ks.map D.int)) (.int 0) = .ok (.int k0) := by rw [hks2]; simp
          generalize hbase : ((vss.take pre'.length).flatMap (exts E t w od)) = base
          have hbl : base.length ≤ 256 := by
            have := flat_len (f := exts E t w od) (exts_len (E := E) (t := t) (w := w) (od := od)) (vss.take pre'.length)
            rw [hbase, List.length_take] at this
            omega
          have tw := tD_get' (t := t) hwn
          refine wp_for (ds := [.int (k0 - 1), .int (k0 + 1)]) (fun pre'' ρ => ∃ (hh : List Int) (a8 a11 a12 : A), pre'' = hh.map D.int ∧ ρ = [.d (gD n E), .d (tD n t), .d (nD f0), .d (.lst (vss.map (dD od))), .m ((od ++ [w]).map nD), .d (nD pre.length), .d (nD w), .d (dD od vs), a8, .m ((base ++ (hh.filter (okH t w ks)).map fun h => vs ++ [h]).map (dD (od ++ [w]))), .d (.lst (ks.map D.int)), a11, a12])
            ?_ ⟨[], a8, a11, a12, rfl, by simp⟩ ?_ ?_
          · have z : mTup (mCons (mBin oSub (mBin oIx (mB 10) (mC (.int 0))) (mC (.int 1))) (mCons (mBin oAdd (mBin oIx (mB 10) (mC (.int 0))) (mC (.int 1))) mNil)) [.d (gD n E), .d (tD n t), .d (nD f0), .d (.lst (vss.map (dD od))), .m ((od ++ [w]).map nD), .d (nD pre.length), .d (nD w), .d (dD od vs), a8, .m (base.map (dD (od ++ [w]))), .d (.lst (ks.map D.int)), a11, a12] = .ok (.tup [.int (k0 - 1), .int (k0 + 1)]) :=
              mTup_ok (by simp only [mCons_eq, mBin_eq, mB_eq, mC_eq, mNil_eq, List.getElem?_cons_succ, List.getElem?_cons_zero, bw_d, R.bind_ok, hix, oSub_int, oAdd_int]) (by simp)
            unfold mItemsA
            rw [z]
            rfl
          · rintro pre'' d'' r'' ρ e'' ⟨hh, a8, a11, a12, rfl, rfl⟩
            have hd'' : d'' ∈ [D.int (k0 - 1), D.int (k0 + 1)] := by rw [e'']; simp
            obtain ⟨h, rfl⟩ : ∃ h, d'' = .int h := by
              simp at hd''
              rcases hd'' with h | h
              · exact ⟨_, h⟩
              · exact ⟨_, h⟩
            have hhl : hh.length ≤ 2 := by
              have := congrArg List.length e''
              simp at this
              omega
            refine ⟨_, rfl, fun Q3 k2 => ?_⟩
            walk_at "st"
            have hfl : mLc [8] (mItemsA (mV 10)) (tName 8) (mT (mBin oNe (mCall fAbs (mCons (mBin oSub (mB 8) (mB 11)) mNil)) (mC (.int 1)))) (mV 8) [.d (gD n E), .d (tD n t), .d (nD f0), .d (.lst (vss.map (dD od))), .m ((od ++ [w]).map nD), .d (nD pre.length), .d (nD w), .d (dD od vs), a8, .m ((base ++ (hh.filter (okH t w ks)).map fun h => vs ++ [h]).map (dD (od ++ [w]))), .d (.lst (ks.map D.int)), .d (.int h), a12]
                = .ok (.lst ((ks.filter fun x => decide (ab (x - h) ≠ 1)).map D.int)) := by
              rw [mLc_ok (ds := ks.map D.int) (h := fun d => match d with
                | .int x => if ab (x - h) ≠ 1 then some (.int x) else none
                | _ => none) (by simp [mItemsA]) (by simp; omega) fun d hd => ?_]
              · congr 2
                rw [List.filterMap_map, ← List.filterMap_eq_filter, List.map_filterMap]
                apply fm_congr
                intro x _
                simp only [Function.comp, Option.guard]
                by_cases z : ab (x - h) = 1 <;> simp [z]
              · obtain ⟨x, hx, rfl⟩ := List.mem_map.mp hd
                have ev : ∀ b, decide (ab (x - h) ≠ 1) = b → (mT (mBin oNe (mCall fAbs (mCons (mBin oSub (mB 8) (mB 11)) mNil)) (mC (.int 1)))) [.d (gD n E), .d (tD n t), .d (nD f0), .d (.lst (vss.map (dD od))), .m ((od ++ [w]).map nD), .d (nD pre.length), .d (nD w), .d (dD od vs), .d (.int x), .m ((base ++ (hh.filter (okH t w ks)).map fun h => vs ++ [h]).map (dD (od ++ [w]))), .d (.lst (ks.map D.int)), .d (.int h), a12] = .ok b := fun b hb => by
                  simp only [mT_eq, mBin_eq, mCall_eq, mCons_eq, mNil_eq, mB_eq, mC_eq, List.getElem?_cons_succ, List.getElem?_cons_zero, bw_d, R.bind_ok, oSub_int, fAbs_int, oNe_int, boolOf_bl]
                  exact congrArg R.ok hb
                simp only
                by_cases z : ab (x - h) ≠ 1
                · rw [if_pos z]
                  exact lcf_t tName_eq (ev true (decide_eq_true z)) rfl
                · rw [if_neg z]
                  exact lcf_f tName_eq (ev false (decide_eq_false z))
            have hfit : (decide ((ks.filter fun x => decide (ab (x - h) ≠ 1)) = []) : Bool) = ks.all fun x => decide (ab (x - h) = 1) := by
              rw [Bool.eq_iff_iff, decide_eq_true_eq, List.filter_eq_nil_iff, List.all_eq_true]
              constructor
              · intro z x hx
                have := z x hx
                simp at this
                exact decide_eq_true this
              · intro z x hx
                have := of_decide_eq_true (z x hx)
                simp [this]
            refine wp_stp (mSet_ok (d := .bl (ks.all fun x => decide (ab (x - h) = 1))) (by
              rw [mBin_eq, hfl, mL_eq, mLst_ok (ds := []) rfl (by simp)]
              simp only [R.bind_ok]
              rw [← hfit]
              exact oEq_ok (k := 1) (by simpa [pln] using plns_ints (k := 0) _) (by simp [pln, plns]) (by omega) (by rw [decide_eq_true_eq]; simp))) ?_
            walk_at "st"
            have hti : oIn (oD (t w)) (.tup [.non, .int h]) = .ok (.bl (tOk (t w) h)) := by
              refine oIn_tup (by cases t w <;> simp [oD, pln]) (by simp [plns, pln]) ?_
              cases t w <;> simp [oD, tOk]
            refine wp_if (b := okH t w ks h) (by
              unfold okH
              refine mAnd_ok (by simp) fun _ => ?_
              rw [mT_eq, mBin_eq, mTup_ok (ds := [.non, .int h]) (by simp) (by simp)]
              simp only [mBin_eq, mB_eq, List.getElem?_cons_succ, List.getElem?_cons_zero, bw_d, R.bind_ok, tw, hti, boolOf_bl]) (fun hb => ?_) (fun hb => ?_)
            · have hfl2 := List.length_filter_le (okH t w ks) hh
              refine wp_end (mApp_ok (xs := (base ++ (hh.filter (okH t w ks)).map fun h => vs ++ [h]).map (dD (od ++ [w]))) (d := dD (od ++ [w]) (vs ++ [h])) rfl (by simp [with_ok hond odne hw (show od.length ≤ 1000 by omega)]) (by simp; omega)) (k2 _ ⟨hh ++ [h], a8, .d (.int h), .d (.bl (ks.all fun x => decide (ab (x - h) = 1))), by simp, ?_⟩)
              walk_at "st"
              rw [List.filter_append, List.filter_cons, if_pos hb]
              simp only [List.filter_nil, List.map_append, List.map_cons, List.map_nil, List.append_assoc]
            · rw [mSkip_eq, wp_ok]
              refine k2 _ ⟨hh ++ [h], a8, .d (.int h), .d (.bl (ks.all fun x => decide (ab (x - h) = 1))), by simp, ?_⟩
              rw [List.filter_append, List.filter_cons, if_neg (by rw [hb]; exact Bool.false_ne_true)]
              simp only [List.filter_nil, List.append_nil]
          · rintro ρ ⟨hh, a8, a11, a12, hpre, rfl⟩
            refine k1 _ ⟨.d (dD od vs), a8, .d (.lst (ks.map D.int)), a11, a12, ?_⟩
            obtain rfl : hh = [k0 - 1, k0 + 1] := by
              match hh, hpre with
              | [a, b], z => simp at z; rw [z.1, z.2]
            have e1 : (vss.take (pre' ++ [dD od vs]).length).flatMap (exts E t w od) = base ++ exts E t w od vs := by
              rw [List.length_append, List.length_singleton, List.take_add_one, hget, List.flatMap_append, hbase]
              simp
            rw [e1]
            unfold exts
            rw [hks, hks2]
            rfl
        · rintro ρ ⟨a7, a8, a10, a11, a12, rfl⟩
          rw [thn_nx]
          rw [List.length_map, List.take_length]
          refine wp_end (mMove_m (xs := (vss.flatMap (exts E t w od)).map (dD (od ++ [w]))) rfl) (hQ' _ ⟨od ++ [w], vss.flatMap (exts E t w od), _, _, _, _, _, _, _, _, rfl, by simp; omega, ?_, fun u hu => ?_, mem_exts G hw hadj hv, nodup_exts hvnd, ?_⟩)
          · rw [List.nodup_append]
            refine ⟨hond, by simp, fun a ha b hb z => ?_⟩
            rw [List.mem_singleton] at hb
            rw [z, hb] at ha
            exact hw ha
          · rcases List.mem_append.mp hu with h | h
            · exact hon u h
            · rw [List.mem_singleton.mp h]; exact hwn
          · have := flat_len (f := exts E t w od) (exts_len (E := E) (t := t) (w := w) (od := od)) vss
            rw [List.length_append, List.length_singleton, Nat.pow_succ]
            omega
    · rintro ρ ⟨od, vss, a5, a6, a7, a8, a9, a10, a11, a12, rfl, hol, hond, hon, hv, hvnd, hvl⟩
      rw [thn_nx]
      have hol : od.length = n := by simp at hol; omega
      have hall : ∀ v, v < n → v ∈ od := fun v hv => by
        by_cases z : v ∈ od
        · exact z
        · have nd2 : (v :: od).Nodup := List.nodup_cons.mpr ⟨z, hond⟩
          have := nodup_le nd2 fun x hx => by
            rcases List.mem_cons.mp hx with rfl | h
            · exact hv
            · exact hon x h
          simp at this
          omega
      have h128 : vss.length ≤ 128 := by
        simp at hvl
        exact Nat.le_trans hvl (Nat.le_trans (Nat.pow_le_pow_right (by omega) (show n - 1 ≤ 7 by omega)) (by decide))
      have hpl : ∀ vs ∈ vss, vs.length = od.length := fun vs h => ((hv vs).mp h).len
      generalize htu : (fun vs : List Int => row n fun v => (look v od vs).getD 0) = tu
      have hlc : mLc [7] (mItemsA (mV 3)) (tName 7) mYes (mCall fTuple (mCons (mLc [6] (mIter fRange1 (mCons (mBin oIx (mB 0) (mC (.int 0))) mNil)) (tName 6) mYes (mBin oDget (mB 7) (mB 6))) mNil)) [.d (gD n E), .d (tD n t), .d (nD f0), .d (.lst (vss.map (dD od))), .m (od.map nD), a5, a6, a7, a8, a9, a10, a11, a12] = .ok (.lst ((vss.map tu).map hD)) := by
        have each : ∀ vs ∈ vss, mLc [6] (mIter fRange1 (mCons (mBin oIx (mB 0) (mC (.int 0))) mNil)) (tName 6) mYes (mBin oDget (mB 7) (mB 6)) [.d (gD n E), .d (tD n t), .d (nD f0), .d (.lst (vss.map (dD od))), .m (od.map nD), a5, a6, .d (dD od vs), a8, a9, a10, a11, a12] = .ok (.lst ((tu vs).map D.int)) := fun vs hvs => by
          rw [mLc_ok (ds := row n fun v => nD v) (h := fun d => match d with
            | .int v => some (.int ((look v.toNat od vs).getD 0))
            | _ => none) (by simp only [mIter_eq, mCons_eq, mBin_eq, mB_eq, mC_eq, mNil_eq, List.getElem?_cons_zero, bw_d, R.bind_ok, g0]; exact fRange1_nat (k := n) (by omega)) (by rw [row_len]; omega) fun d hd => ?_]
          · rw [← htu]
            unfold row
            rw [List.filterMap_map, List.map_map]
            congr 2
            rw [← List.filterMap_eq_map]
            apply fm_congr
            intro v _
            simp
          · obtain ⟨v, hv', rfl⟩ := List.mem_map.mp hd
            have hv' := List.mem_range.mp hv'
            obtain ⟨x, hx⟩ := look_some (hpl vs hvs) (hall v hv')
            simp only [Int.toNat_natCast, hx, Option.getD_some]
            have hg : oDget (dD od vs) (nD v) = .ok (.int x) := by
              show ofO (lookI (v : Int) (od.map iN) (vs.map D.int)) = _
              rw [lookI_look, hx]
              rfl
            refine lcf_t tName_eq rfl ?_
            simp only [wipeR, mBin_eq, mB_eq, List.set_cons_zero, List.set_cons_succ, List.getElem?_cons_succ, List.getElem?_cons_zero, bw_d, R.bind_ok, hg]
        rw [mLc_of vss (dD od) (fun vs => some (hD (tu vs))) (by simp [mItemsA]) (by omega) fun vs hvs => ?_]
        · rw [List.filterMap_eq_map', List.map_map]
          rfl
        · refine lcf_t tName_eq rfl ?_
          simp only [wipeR, List.set_cons_zero, List.set_cons_succ]
          rw [mCall_eq, mCons_eq, each vs hvs]
          simp
      have hs := fSorted_hD (hs := vss.map tu) (fun h hh => by
        obtain ⟨vs, _, rfl⟩ := List.mem_map.mp hh
        rw [← htu]
        intro z
        have := congrArg List.length z
        rw [row_len] at this
        simp at this
        omega) (by simp; omega)
      refine wp_end (mRet_ok (d := .lst ((VL.srt (vss.map tu)).map hD)) (by rw [mCall_eq, mCons_eq, hlc]; simp only [mNil_eq, R.bind_ok]; exact hs)) (hQ _ ⟨VL.srt (vss.map tu), rfl, srt_sorted ?_, fun h => ?_, by rw [srt_len]; simpa using h128⟩)
      · unfold List.Nodup
        rw [List.pairwise_map]
        refine hvnd.imp_of_mem fun {a b} ha hb hab z => hab ?_
        refine look_ext hond (hpl a ha) (hpl b hb) fun u hu => ?_
        rw [look_hts hall (hpl a ha) (hon u hu), look_hts hall (hpl b hb) (hon u hu)]
        rw [← htu] at z
        rw [show (row n fun v => (look v od a).getD 0) = row n fun v => (look v od b).getD 0 from z]
      · rw [srt_mem]
        constructor
        · intro hm
          obtain ⟨vs, hvs, rfl⟩ := List.mem_map.mp hm
          have P := (hv vs).mp hvs
          rw [← htu]
          refine ⟨row_len _ _, fun e he => ?_, fun v x hvn hx => ?_⟩
          · have hl := G.ed e he
            exact P.stp e he _ _ (look_hts hall P.len (by omega)) (look_hts hall P.len hl.2)
          · exact P.tld v _ x (look_hts hall P.len hvn) hx
        · intro H
          refine List.mem_map.mpr ⟨od.map (fnH h), (hv _).mpr ⟨by simp, fun e he x y h1 h2 => ?_, fun u x y h1 h2 => ?_⟩, ?_⟩
          · rw [look_map (look_mem h1)] at h1
            rw [look_map (look_mem h2)] at h2
            cases h1
            cases h2
            exact H.stp e he
          · have hu := look_mem h1
            rw [look_map hu] at h1
            cases h1
            exact H.tld u y (hon u hu) h2
          · rw [← htu]
            apply List.ext_getElem?
            intro i
            by_cases hi : i < n
            · rw [row_get hi, look_map (hall i hi)]
              unfold fnH
              rw [List.getD_eq_getElem?_getD, List.getElem?_eq_getElem (by rw [H.len]; exact hi)]
              rfl
            · rw [List.getElem?_eq_none (by rw [row_len]; omega), List.getElem?_eq_none (by rw [H.len]; omega)]
  obtain ⟨d, h, hs, rfl, h1, h2, h3⟩ := main
  exact ⟨hs, h, h1, h2, h3⟩
end
end VL

/-! M14: the program's checks of heights; moves. -/
namespace VL
open PySem PySem.Spec PyProof.Rows L2
local macro_rules | `(tactic| walk_at "go") => `(tactic| simp only [List.map, List.length_cons, List.length_nil, List.replicate, List.cons_append, List.nil_append, Nat.reduceAdd, Nat.reduceSub, Nat.add_zero, Nat.zero_add])
local macro_rules | `(tactic| walk_at "st") => `(tactic| simp only [List.set_cons_zero, List.set_cons_succ])
/-- heights as a function -/
structure HF (n : Nat) (E : List Ed) (t : Nat → Option Int) (f : Nat → Int) : Prop where
  stp : Stp E f
  tld : Tld n t f
def hR (n : Nat) (f : Nat → Int) : D := hD (row n f)
theorem hR_eq (n : Nat) (f : Nat → Int) : hR n f = .tup (row n fun v => .int (f v)) := by show D.tup ((row n f).map D.int) = _; rw [row_map]
theorem row_fnH {n : Nat} {h : List Int} (hl : h.length = n) : row n (fnH h) = h := by
  apply List.ext_getElem?
  intro i
  by_cases hi : i < n
  · rw [row_get hi]
    unfold fnH
    rw [List.getD_eq_getElem?_getD, List.getElem?_eq_getElem (by omega)]
    rfl
  · rw [List.getElem?_eq_none (by rw [row_len]; omega), List.getElem?_eq_none (by omega)]
theorem fnH_row {n : Nat} {f : Nat → Int} {v : Nat} (hv : v < n) : fnH (row n f) v = f v := by unfold fnH; rw [List.getD_eq_getElem?_getD, row_get hv]; rfl
section
variable {n : Nat} {E : List Ed} {t : Nat → Option Int} {f g : Nat → Int}
theorem HT.hf {h : List Int} (H : HT n E t h) : HF n E t (fnH h) := ⟨H.stp, H.tld⟩
theorem HT.hR {h : List Int} (H : HT n E t h) : hD h = hR n (fnH h) := by unfold VL.hR; rw [row_fnH H.len]
theorem HF.ht (G : GOk n E) (H : HF n E t f) : HT n E t (row n f) := ⟨row_len _ _, fun e he => by
  have hl := G.ed e he
  rw [fnH_row (by omega), fnH_row (by omega)]
  exact H.stp e he, fun v x hv hx => by rw [fnH_row hv]; exact H.tld v x hv hx⟩
theorem hR_get {v : Nat} (hv : v < n) : oIx (hR n f) (nD v) = .ok (.int (f v)) := by rw [hR_eq]; exact oIx_tup (row_get hv)
theorem zip_row {a b : Nat → D} : zipD (row n a) (row n b) = row n fun v => .tup [a v, b v] := by
  have key : ∀ l : List Nat, zipD (l.map a) (l.map b) = l.map fun v => .tup [a v, b v] := by
    intro l
    induction l with
    | nil => rfl
    | cons x l ih => rw [List.map_cons, List.map_cons, zipD, ih]; rfl
  exact key _
/-- heights stay near -/
theorem HF.rng (G : GOk n E) (T : TOk n t) (H : HF n E t f) {v : Nat} (hv : v < n) : -30 ≤ f v ∧ f v ≤ 30 := by
  obtain ⟨dist, DD, _⟩ := dists_ex G
  obtain ⟨u, x, hu, hx⟩ := T.some_
  have h1 := T.rng u x hu hx
  have h2 := H.stp.walk (DD.walk u v hu hv)
  have h3 := DD.lt G hu hv
  have h4 := G.le
  rw [H.tld u x hu hx] at h2
  omega
theorem fit_ok (G : GOk n E) (H : HF n E t f) : g_fit [gD n E, tD n t, hR n f] = .ok (.bl true) := by
  have g1 := gD1 n E
  have hle := G.le
  have hfew := G.few
  refine run_of fun Q hQ => ?_
  walk_at "go"
  unfold m_fit
  refine wp_seq_if (b := false) ?_ (fun z => by cases z) (fun _ => ?_)
  · rw [mTru_eq, mLc_of (List.range n) (fun v => .tup [oD (t v), .int (f v)]) (fun _ => none) ?_ (by simp; omega) fun v hv => ?_]
    · simp
    · simp only [mIter_eq, mCons_eq, mV_eq, mNil_eq, List.getElem?_cons_succ, List.getElem?_cons_zero, vw_d, R.bind_ok, hR_eq]
      exact congrArg R.ok zip_row
    · have hv := List.mem_range.mp hv
      cases q : t v with
      | none =>
        refine lcf_f tTuple2_eq ?_
        rw [mAnd_ok (a := false) (b := false) (by simp [wipeR, oD]) (fun z => by cases z)]
        rfl
      | some x =>
        have := H.tld v x hv q
        refine lcf_f tTuple2_eq ?_
        rw [mAnd_ok (a := true) (b := false) (by simp [wipeR, oD]) (fun _ => by simp [wipeR, oD, this])]
        rfl
  rw [mSkip_eq, wp_ok, thn_nx]
  refine wp_end (mRet_ok (d := .bl true) ?_) hQ
  rw [mNotT_eq, mLc_of E eD (fun _ => none) (by simp [g1, mItemsA]) (by omega) fun e he => ?_]
  · simp
  · have hl := G.ed e he
    have h1 : oIx (hR n f) (nD e.1) = .ok (.int (f e.1)) := hR_get (by omega)
    have h2 : oIx (hR n f) (nD e.2) = .ok (.int (f e.2)) := hR_get (by omega)
    have hs := H.stp e he
    refine lcf_f tName_eq ?_
    simp only [wipeR, mT_eq, mBin_eq, mCall_eq, mCons_eq, mNil_eq, mB_eq, mC_eq, List.set_cons_zero, List.set_cons_succ, List.getElem?_cons_succ, List.getElem?_cons_zero, bw_d, R.bind_ok, eD0, eD1, h1, h2, oSub_int, fAbs_int, oNe_int, boolOf_bl]
    congr 1
    rw [decide_eq_false_iff_not]
    intro z
    apply z
    split <;> omega
theorem are_heights_ok (G : GOk n E) (T : TOk n t) (H : HF n E t f) : g_are_heights [gD n E, tD n t, hR n f] = .ok (.bl true) := by
  have g0 := gD0 n E
  have hle := G.le
  refine run_of fun Q hQ => ?_
  walk_at "go"
  unfold m_are_heights
  refine wp_stp (mExpr_ok (d := .non) (by simp [check_told_ok G T])) ?_
  refine wp_seq_if (b := false || false) (mOr_ok (by simp [hR_eq]) fun _ => by simp [hR_eq, g0, row_len]) (fun z => by cases z) (fun _ => ?_)
  rw [mSkip_eq, wp_ok, thn_nx]
  refine wp_seq_if (b := false) ?_ (fun z => by cases z) (fun _ => ?_)
  · rw [mTru_eq, mLc_of (List.range n) (fun v => .int (f v)) (fun _ => none) ?_ (by simp; omega) fun v hv => ?_]
    · simp
    · simp only [mItemsA, mV_eq, List.getElem?_cons_succ, List.getElem?_cons_zero, vw_d, R.bind_ok, hR_eq]
      rfl
    · have := H.rng G T (List.mem_range.mp hv)
      refine lcf_f tName_eq ?_
      simp [wipeR, in_range_int, mNeg_eq (ma := mC (.int 99)) (i := 99) rfl]
      omega
  rw [mSkip_eq, wp_ok, thn_nx]
  exact wp_end (mRet_ok (d := .bl true) (by simp [fit_ok G H])) hQ
theorem check_heights_ok (G : GOk n E) (T : TOk n t) (H : HF n E t f) : g_check_heights [gD n E, tD n t, hR n f] = .ok .non := by
  refine run_none fun Q hQ => ?_
  walk_at "go"
  unfold m_check_heights
  refine wp_if (b := false) (by simp [are_heights_ok G T H]) (fun z => by cases z) (fun _ => ?_)
  rw [mSkip_eq, wp_ok]
  exact hQ _
theorem check_vertex_ok (E : List Ed) {v : Nat} (hv : v < n) : g_check_vertex [gD n E, nD v] = .ok .non := by
  have g0 := gD0 n E
  refine run_none fun Q hQ => ?_
  walk_at "go"
  unfold m_check_vertex
  refine wp_if (b := false) (by simp [g0, in_range_int]; omega) (fun z => by cases z) (fun _ => ?_)
  rw [mSkip_eq, wp_ok]
  exact hQ _
/-! ### least and greatest of a list -/
theorem minI_spec : ∀ {ns : List Int}, ns ≠ [] → minI ns ∈ ns ∧ ∀ y ∈ ns, minI ns ≤ y
  | [], h => absurd rfl h
  | [a], _ => by simp [minI]
  | a :: b :: r, _ => by
    have ih := minI_spec (ns := b :: r) (by simp)
    rw [minI]
    refine ⟨?_, fun y hy => ?_⟩
    · by_cases h : a ≤ minI (b :: r)
      · rw [Int.min_eq_left h]; exact List.mem_cons_self
      · rw [Int.min_eq_right (by omega)]; exact List.mem_cons_of_mem _ ih.1
    · rcases List.mem_cons.mp hy with rfl | hy
      · exact Int.min_le_left _ _
      · exact Int.le_trans (Int.min_le_right _ _) (ih.2 y hy)
theorem maxI_spec : ∀ {ns : List Int}, ns ≠ [] → maxI ns ∈ ns ∧ ∀ y ∈ ns, y ≤ maxI ns
  | [], h => absurd rfl h
  | [a], _ => by simp [maxI]
  | a :: b :: r, _ => by
    have ih := maxI_spec (ns := b :: r) (by simp)
    rw [maxI]
    refine ⟨?_, fun y hy => ?_⟩
    · by_cases h : a ≤ maxI (b :: r)
      · rw [Int.max_eq_right h]; exact List.mem_cons_of_mem _ ih.1
      · rw [Int.max_eq_left (by omega)]; exact List.mem_cons_self
    · rcases List.mem_cons.mp hy with rfl | hy
      · exact Int.le_max_left _ _
      · exact Int.le_trans (ih.2 y hy) (Int.le_max_right _ _)
theorem fMin1_ok {ns : List Int} (h : ns ≠ []) : fMin1 [.lst (ns.map D.int)] = .ok (.int (minI ns)) := by
  show intsOk _ _ = _
  rw [intsOk_ints, if_neg h]
theorem fMax1_ok {ns : List Int} (h : ns ≠ []) : fMax1 [.lst (ns.map D.int)] = .ok (.int (maxI ns)) := by
  show intsOk _ _ = _
  rw [intsOk_ints, if_neg h]
theorem min_max_iff {ns : List Int} (h : ns ≠ []) : minI ns = maxI ns ↔ ∀ x ∈ ns, ∀ y ∈ ns, x = y := by
  have a := minI_spec h
  have b := maxI_spec h
  constructor
  · intro e x hx y hy
    have := a.2 x hx
    have := a.2 y hy
    have := b.2 x hx
    have := b.2 y hy
    omega
  · intro e
    exact e _ a.1 _ b.1
/-! ### moves -/
/-- the neighbors' heights are all one -/
def flat (E : List Ed) (f : Nat → Int) (v : Nat) : Prop := nbr E v ≠ [] ∧ ∀ u ∈ nbr E v, ∀ w ∈ nbr E v, f u = f w
instance (v : Nat) : Decidable (flat E f v) := by unfold flat; exact inferInstance
def mvs (E : List Ed) (t : Nat → Option Int) (f : Nat → Int) (v : Nat) : Option Int := if t v = none ∧ flat E f v then some (2 * f ((nbr E v).headD 0) - f v) else none
theorem mvs_some {v : Nat} {y : Int} (h : mvs E t f v = some y) : t v = none ∧ flat E f v ∧ y = 2 * f ((nbr E v).headD 0) - f v := by
  unfold mvs at h
  by_cases c : t v = none ∧ flat E f v
  · rw [if_pos c] at h; cases h; exact ⟨c.1, c.2, rfl⟩
  · rw [if_neg c] at h; cases h
theorem flat_head {v u : Nat} (h : flat E f v) (hu : u ∈ nbr E v) : f u = f ((nbr E v).headD 0) := by
  cases q : nbr E v with
  | nil => exact absurd q h.1
  | cons a l => exact h.2 u hu _ (by rw [q]; exact List.mem_cons_self)
theorem head_mem {v : Nat} (h : nbr E v ≠ []) : (nbr E v).headD 0 ∈ nbr E v := by
  cases q : nbr E v with
  | nil => exact absurd q h
  | cons a l => exact List.mem_cons_self
def stpF (E : List Ed) (t : Nat → Option Int) (f : Nat → Int) (v : Nat) : Int := match mvs E t f v with
  | some y => y - f v
  | none => 0
theorem mem_nbs_nbr {v u : Nat} : u ∈ nbs E v ↔ u ∈ nbr E v := by unfold nbs; exact List.mem_mergeSort
theorem step_of_ok (G : GOk n E) (H : HF n E t f) {v : Nat} (hv : v < n) : g_step_of [gD n E, tD n t, hR n f, nD v] = .ok (.int (stpF E t f v)) := by
  have hfew := G.few
  refine run_of fun Q hQ => ?_
  walk_at "go"
  unfold m_step_of
  have hvx : oIx (hR n f) (nD v) = .ok (.int (f v)) := hR_get hv
  have hlen := nbs_len (E := E) (v := v)
  have hb : mLc [5] (mItemsA (mFn 2 g_neighbors (mCons (mV 0) (mCons (mV 3) mNil)))) (tName 5) mYes (mBin oSub (mBin oIx (mB 2) (mB 5)) (mBin oIx (mB 2) (mB 3))) [A.d (gD n E), A.d (tD n t), A.d (hR n f), A.d (nD v), A.un, A.un] = .ok (.lst (((nbs E v).map fun u => f u - f v).map D.int)) := by
    rw [mLc_of (nbs E v) nD (fun u => some (.int (f u - f v))) (by simp only [mItemsA, mFn_eq, mCons_eq, mNil_eq, mV_eq, List.getElem?_cons_succ, List.getElem?_cons_zero, vw_d, R.bind_ok, List.length_cons, List.length_nil, Nat.zero_add, Nat.reduceAdd, if_true, neighbors_ok G v]) (by omega) fun u hu => ?_]
    · rw [List.filterMap_eq_map', List.map_map]
      rfl
    · have hun := (((mem_nbs G).mp hu).lt G).2.1
      refine lcf_t tName_eq rfl ?_
      simp [wipeR, hR_get hun, hvx]
  refine wp_stp (mSet_ok hb) ?_
  walk_at "st"
  have tv := tD_get' (t := t) hv
  generalize hbs : ((nbs E v).map fun u => f u - f v) = bs
  have hbs0 : bs = [] ↔ nbr E v = [] := by
    rw [← hbs, List.map_eq_nil_iff, List.eq_nil_iff_forall_not_mem, List.eq_nil_iff_forall_not_mem]
    exact ⟨fun h u hu => h u (mem_nbs_nbr.mpr hu), fun h u hu => h u (mem_nbs_nbr.mp hu)⟩
  by_cases c : t v = none ∧ flat E f v
  · have hne : bs ≠ [] := fun z => c.2.1 (hbs0.mp z)
    have hmm : minI bs = maxI bs := (min_max_iff hne).mpr fun x hx y hy => by
      rw [← hbs] at hx hy
      obtain ⟨u, hu, rfl⟩ := List.mem_map.mp hx
      obtain ⟨w, hw, rfl⟩ := List.mem_map.mp hy
      rw [c.2.2 u (mem_nbs_nbr.mp hu) w (mem_nbs_nbr.mp hw)]
    refine wp_seq_if (b := false || (false || false)) (mOr_ok (by simp [tv, c.1, oD]) fun _ => mOr_ok (by simp [hne]) fun _ => by simp [fMin1_ok hne, fMax1_ok hne, hmm]) (fun z => by cases z) (fun _ => ?_)
    rw [mSkip_eq, wp_ok, thn_nx]
    obtain ⟨b0, br, hb0⟩ : ∃ b0 br, bs = b0 :: br := by
      cases bs with
      | nil => exact absurd rfl hne
      | cons a l => exact ⟨a, l, rfl⟩
    have hst : stpF E t f v = 2 * b0 := by
      unfold stpF mvs
      rw [if_pos c]
      have : b0 ∈ bs := by rw [hb0]; exact List.mem_cons_self
      rw [← hbs] at this
      obtain ⟨u, hu, e⟩ := List.mem_map.mp this
      have := flat_head c.2 (mem_nbs_nbr.mp hu)
      simp only
      omega
    rw [hst] at hQ
    exact wp_end (mRet_ok (d := .int (2 * b0)) (by simp [hb0, oMul_int])) hQ
  · have hst : stpF E t f v = 0 := by unfold stpF mvs; rw [if_neg c]
    rw [hst] at hQ
    have fin : wp (mRet (mC (.int 0)) [A.d (gD n E), A.d (tD n t), A.d (hR n f), A.d (nD v), A.d (.lst (bs.map D.int)), A.un]) (thn (mRet (mBin oMul (mC (.int 2)) (mBin oIx (mB 4) (mC (.int 0))))) Q) := wp_end (mRet_ok (d := .int 0) rfl) hQ
    by_cases ht : t v = none
    · by_cases hne : bs = []
      · exact wp_seq_if (b := false || (true || false)) (mOr_ok (by simp [tv, ht, oD]) fun _ => mOr_ok (by simp [hne]) fun z => by cases z) (fun _ => fin) (fun z => by cases z)
      · have hmm : minI bs ≠ maxI bs := fun z => c ⟨ht, fun z2 => hne (hbs0.mpr z2), fun u hu w hw => by
          have := (min_max_iff hne).mp z (f u - f v) (by rw [← hbs]; exact List.mem_map.mpr ⟨u, mem_nbs_nbr.mpr hu, rfl⟩) (f w - f v) (by rw [← hbs]; exact List.mem_map.mpr ⟨w, mem_nbs_nbr.mpr hw, rfl⟩)
          omega⟩
        exact wp_seq_if (b := false || (false || true)) (mOr_ok (by simp [tv, ht, oD]) fun _ => mOr_ok (by simp [hne]) fun _ => by simp [fMin1_ok hne, fMax1_ok hne, hmm]) (fun _ => fin) (fun z => by cases z)
    · exact wp_seq_if (b := true || false) (mOr_ok (by
        have : ∃ x, t v = some x := by
          cases q : t v with
          | none => exact absurd q ht
          | some x => exact ⟨x, rfl⟩
        obtain ⟨x, hx⟩ := this
        simp [tv, hx, oD]) fun z => by cases z) (fun _ => fin) (fun z => by cases z)
theorem stpF_ne (G : GOk n E) (H : HF n E t f) {v : Nat} {y : Int} (h : mvs E t f v = some y) : stpF E t f v = y - f v ∧ stpF E t f v ≠ 0 := by
  obtain ⟨h1, h2, h3⟩ := mvs_some h
  have e : stpF E t f v = y - f v := by unfold stpF; rw [h]
  refine ⟨e, ?_⟩
  have := H.stp.adj ((mem_nbr G).mp (head_mem h2.1))
  omega
theorem stpF_none {v : Nat} (h : mvs E t f v = none) : stpF E t f v = 0 := by unfold stpF; rw [h]
def pr (v : Nat) (y : Int) : D := hD [(v : Int), y]
/-- all moves -/
def mvl (n : Nat) (E : List Ed) (t : Nat → Option Int) (f : Nat → Int) : List (Nat × Int) := (List.range n).filterMap fun v => (mvs E t f v).map fun y => (v, y)
def prD (p : Nat × Int) : D := pr p.1 p.2
theorem mvl_take (k : Nat) : (List.range (k + 1)).filterMap (fun v => (mvs E t f v).map fun y => (v, y)) = (List.range k).filterMap (fun v => (mvs E t f v).map fun y => (v, y)) ++ (match mvs E t f k with
  | some y => [(k, y)]
  | none => []) := by
  rw [List.range_succ, List.filterMap_append]
  cases q : mvs E t f k <;> simp [q]
theorem movable_ok (G : GOk n E) (T : TOk n t) (H : HF n E t f) : g_movable [gD n E, tD n t, hR n f] = .ok (.lst ((mvl n E t f).map prD)) := by
  have hle := G.le
  refine run_of fun Q hQ => ?_
  walk_at "go"
  unfold m_movable
  refine wp_stp (mExpr_ok (d := .non) (by simp [check_heights_ok G T H])) ?_
  refine wp_stp (mSetN_ok (d := []) rfl) ?_
  walk_at "st"
  rw [wp_seq]
  refine wp_for (ds := row n fun v => .tup [nD v, .int (f v)]) (fun pre ρ => ∃ (a4 a5 a6 : A), ρ = [.d (gD n E), .d (tD n t), .d (hR n f), .m (((List.range pre.length).filterMap fun v => (mvs E t f v).map fun y => (v, y)).map prD), a4, a5, a6])
    ?_ ⟨_, _, _, rfl⟩ ?_ ?_
  · simp only [mIter_eq, mCons_eq, mV_eq, mNil_eq, List.getElem?_cons_succ, List.getElem?_cons_zero, vw_d, R.bind_ok, hR_eq]
    show R.ok (enumD 0 (row n fun v => .int (f v))) = _
    rw [enum_row]
  · rintro pre d r ρ e ⟨a4, a5, a6, rfl⟩
    unfold row at e
    obtain ⟨rfl, hlt⟩ := split_range e
    generalize hk : pre.length = v at *
    refine ⟨_, tTuple2_eq, fun Q' hQ' => ?_⟩
    walk_at "st"
    refine wp_stp (mSet_ok (d := .int (stpF E t f v)) (by simp [step_of_ok G H hlt])) ?_
    walk_at "st"
    have hll := List.length_filterMap_le (fun v => (mvs E t f v).map fun y => (v, y)) (List.range v)
    rw [List.length_range] at hll
    cases q : mvs E t f v with
    | none =>
      refine wp_if (b := false) (by simp [stpF_none q]) (fun z => by cases z) (fun _ => ?_)
      rw [mSkip_eq, wp_ok]
      refine hQ' _ ⟨.d (nD v), .d (.int (f v)), .d (.int (stpF E t f v)), ?_⟩
      rw [List.length_append, List.length_singleton, hk, mvl_take, q, List.append_nil]
    | some y =>
      obtain ⟨h1, h2⟩ := stpF_ne G H q
      refine wp_if (b := true) (by simp [h2]) (fun _ => ?_) (fun z => by cases z)
      refine wp_end (mApp_ok (xs := ((List.range v).filterMap fun v => (mvs E t f v).map fun y => (v, y)).map prD) (d := pr v y) rfl ?_ (by simp; omega)) (hQ' _ ⟨.d (nD v), .d (.int (f v)), .d (.int (stpF E t f v)), ?_⟩)
      · rw [mTup_ok (ds := [nD v, .int y]) (by simp [h1]; omega) (by simp)]; rfl
      · walk_at "st"
        rw [List.length_append, List.length_singleton, hk, mvl_take, q, List.map_append]
        rfl
  · rintro ρ ⟨a4, a5, a6, rfl⟩
    rw [thn_nx]
    rw [row_len]
    exact wp_end (mRetN_m rfl) hQ
theorem law_moves_ok (G : GOk n E) (H : HF n E t f) : g__law_moves [gD n E, tD n t, hR n f] = .ok (.lst ((mvl n E t f).map prD)) := by
  have hle := G.le
  have hfew := G.few
  have g0 := gD0 n E
  refine run_of fun Q hQ => ?_
  walk_at "go"
  unfold m__law_moves
  refine wp_stp (mSetN_ok (d := []) rfl) ?_
  walk_at "st"
  rw [wp_seq]
  refine wp_for (ds := row n fun v => nD v) (fun pre ρ => ∃ (a4 a5 a6 : A), ρ = [.d (gD n E), .d (tD n t), .d (hR n f), .m (((List.range pre.length).filterMap fun v => (mvs E t f v).map fun y => (v, y)).map prD), a4, a5, a6])
    (by simp only [mIter_eq, mCons_eq, mBin_eq, mB_eq, mC_eq, mNil_eq, List.getElem?_cons_zero, bw_d, R.bind_ok, g0]; exact fRange1_nat (k := n) (by omega)) ⟨_, _, _, rfl⟩ ?_ ?_
  · rintro pre d r ρ e ⟨a4, a5, a6, rfl⟩
    unfold row at e
    obtain ⟨rfl, hlt⟩ := split_range e
    generalize hk : pre.length = v at *
    refine ⟨_, rfl, fun Q' hQ' => ?_⟩
    walk_at "st"
    have hvx : oIx (hR n f) (nD v) = .ok (.int (f v)) := hR_get hlt
    have hlen := nbr_len (E := E) (v := v)
    have tv := tD_get' (t := t) hlt
    have hll := List.length_filterMap_le (fun v => (mvs E t f v).map fun y => (v, y)) (List.range v)
    rw [List.length_range] at hll
    have hb : mLc [6] (mItemsA (mFn 2 g__law_beside (mCons (mV 0) (mCons (mV 4) mNil)))) (tName 6) mYes (mBin oIx (mB 2) (mB 6)) [.d (gD n E), .d (tD n t), .d (hR n f), .m (((List.range v).filterMap fun v => (mvs E t f v).map fun y => (v, y)).map prD), .d (nD v), a5, a6] = .ok (.lst (((nbr E v).map f).map D.int)) := by
      rw [mLc_of (nbr E v) nD (fun u => some (.int (f u))) (by simp only [mItemsA, mFn_eq, mCons_eq, mNil_eq, mV_eq, List.getElem?_cons_succ, List.getElem?_cons_zero, vw_d, R.bind_ok, List.length_cons, List.length_nil, Nat.zero_add, Nat.reduceAdd, if_true, beside_ok G v]) (by omega) fun u hu => ?_]
      · rw [List.filterMap_eq_map', List.map_map]
        rfl
      · have hun := (((mem_nbr G).mp hu).lt G).2.1
        refine lcf_t tName_eq rfl ?_
        simp [wipeR, hR_get hun]
    refine wp_stp (mSet_ok hb) ?_
    walk_at "st"
    generalize hbs : (nbr E v).map f = bs
    have hbs0 : bs = [] ↔ nbr E v = [] := by rw [← hbs, List.map_eq_nil_iff]
    have hneq : ∀ b : Bool, (b = true ↔ bs ≠ []) → oNe (.lst (bs.map D.int)) (.lst []) = .ok (.bl b) := fun b hb => oNe_ok (k := 1) (by simpa [pln] using plns_ints (k := 0) bs) (by simp [pln, plns]) (by omega) (by rw [hb]; simp)
    have e5 : ∀ b : Bool, (b = true ↔ bs ≠ []) → (mT (mBin oNe (mB 5) (mL (mLst mNil)))) [.d (gD n E), .d (tD n t), .d (hR n f), .m (((List.range v).filterMap fun v => (mvs E t f v).map fun y => (v, y)).map prD), .d (nD v), .d (.lst (bs.map D.int)), a6] = .ok b := fun b hb => by
      rw [mT_eq, mBin_eq, mL_eq, mLst_ok (ds := []) rfl (by simp)]
      simp [hneq b hb]
    have skip : mvs E t f v = none → Q' (.nx [.d (gD n E), .d (tD n t), .d (hR n f), .m (((List.range v).filterMap fun v => (mvs E t f v).map fun y => (v, y)).map prD), .d (nD v), .d (.lst (bs.map D.int)), a6]) := fun q => hQ' _ ⟨.d (nD v), .d (.lst (bs.map D.int)), a6, by rw [List.length_append, List.length_singleton, hk, mvl_take, q, List.append_nil]⟩
    by_cases c : t v = none ∧ flat E f v
    · have hne : bs ≠ [] := fun z => c.2.1 (hbs0.mp z)
      have hmm : minI bs = maxI bs := (min_max_iff hne).mpr fun x hx y hy => by
        rw [← hbs] at hx hy
        obtain ⟨u, hu, rfl⟩ := List.mem_map.mp hx
        obtain ⟨w, hw, rfl⟩ := List.mem_map.mp hy
        exact c.2.2 u hu w hw
      have hq : mvs E t f v = some (2 * f ((nbr E v).headD 0) - f v) := by unfold mvs; rw [if_pos c]
      have hix : oIx (.lst (bs.map D.int)) (.int 0) = .ok (.int (f ((nbr E v).headD 0))) := by
        rw [← hbs]
        cases q : nbr E v with
        | nil => exact absurd q c.2.1
        | cons a l => simp
      refine wp_if (b := true && (true && true)) (mAnd_ok (by simp [tv, c.1, oD]) fun _ => mAnd_ok (e5 true ⟨fun _ => hne, fun _ => rfl⟩) fun _ => by simp [fMin1_ok hne, fMax1_ok hne, hmm]) (fun _ => ?_) (fun z => by cases z)
      refine wp_end (mApp_ok (xs := ((List.range v).filterMap fun v => (mvs E t f v).map fun y => (v, y)).map prD) (d := pr v (2 * f ((nbr E v).headD 0) - f v)) rfl ?_ (by simp; omega)) (hQ' _ ⟨.d (nD v), .d (.lst (bs.map D.int)), a6, ?_⟩)
      · rw [mTup_ok (ds := [nD v, .int (2 * f ((nbr E v).headD 0) - f v)]) (by simp [hix, hvx, oMul_int]) (by simp)]; rfl
      · walk_at "st"
        rw [List.length_append, List.length_singleton, hk, mvl_take, hq, List.map_append]
        rfl
    · have hq : mvs E t f v = none := by unfold mvs; rw [if_neg c]
      by_cases ht : t v = none
      · by_cases hne : bs = []
        · refine wp_if (b := true && (false && false)) (mAnd_ok (by simp [tv, ht, oD]) fun _ => mAnd_ok (e5 false ⟨fun z => absurd z Bool.false_ne_true, fun z => absurd hne z⟩) fun z => by cases z) (fun z => by cases z) (fun _ => ?_)
          rw [mSkip_eq, wp_ok]
          exact skip hq
        · have hmm : minI bs ≠ maxI bs := fun z => c ⟨ht, fun z2 => hne (hbs0.mpr z2), fun u hu w hw =>
            (min_max_iff hne).mp z (f u) (by rw [← hbs]; exact List.mem_map.mpr ⟨u, hu, rfl⟩) (f w) (by rw [← hbs]; exact List.mem_map.mpr ⟨w, hw, rfl⟩)⟩
          refine wp_if (b := true && (true && false)) (mAnd_ok (by simp [tv, ht, oD]) fun _ => mAnd_ok (e5 true ⟨fun _ => hne, fun _ => rfl⟩) fun _ => by simp [fMin1_ok hne, fMax1_ok hne, hmm]) (fun z => by cases z) (fun _ => ?_)
          rw [mSkip_eq, wp_ok]
          exact skip hq
      · refine wp_if (b := false && false) (mAnd_ok (by
          have : ∃ x, t v = some x := by
            cases q : t v with
            | none => exact absurd q ht
            | some x => exact ⟨x, rfl⟩
          obtain ⟨x, hx⟩ := this
          simp [tv, hx, oD]) fun z => by cases z) (fun z => by cases z) (fun _ => ?_)
        rw [mSkip_eq, wp_ok]
        exact skip hq
  · rintro ρ ⟨a4, a5, a6, rfl⟩
    rw [thn_nx, row_len]
    exact wp_end (mRetN_m rfl) hQ
end
end VL

/-! M15: one move. -/
namespace VL
open PySem PySem.Spec PyProof.Rows L2
local macro_rules | `(tactic| walk_at "go") => `(tactic| simp only [List.map, List.length_cons, List.length_nil, List.replicate, List.cons_append, List.nil_append, Nat.reduceAdd, Nat.reduceSub, Nat.add_zero, Nat.zero_add])
local macro_rules | `(tactic| walk_at "st") => `(tactic| simp only [List.set_cons_zero, List.set_cons_succ])
theorem mSeq_nx {m n : Rho → R Out} {ρ ρ' : Rho} (h : m ρ = .ok (.nx ρ')) : mSeq m n ρ = n ρ' := by unfold mSeq; rw [h]
theorem mSeq_ex {m n : Rho → R Out} {ρ : Rho} {c : Str} (h : m ρ = .ex c) : mSeq m n ρ = .ex c := by unfold mSeq; rw [h]
theorem mExpr_ex {ma : Rho → R D} {ρ : Rho} {c : Str} (h : ma ρ = .ex c) : mExpr ma ρ = .ex c := by unfold mExpr; rw [h]; rfl
theorem cutD_to (xs : List D) (k : Nat) : cutD xs none (some (k : Int)) = xs.take k := by
  unfold cutD
  rw [HT.sIx_none, HT.sIx_nat, List.drop_zero, Nat.sub_zero]
  by_cases h : k ≤ xs.length
  · rw [Nat.min_eq_left h]
  · rw [Nat.min_eq_right (by omega), List.take_length, List.take_of_length_le (by omega)]
theorem oSl_to (xs : List D) (k : Nat) : oSl (.tup xs) none (some (k : Int)) = .ok (.tup (xs.take k)) := by
  show R.ok (D.tup (cutD xs none (some (k : Int)))) = _
  rw [cutD_to]
section
variable {n : Nat} {E : List Ed} {t : Nat → Option Int} {f g : Nat → Int}
theorem hR_set {v : Nat} (hv : v < n) (y : Int) : ((row n fun v => D.int (f v)).take v ++ [.int y]) ++ (row n fun v => D.int (f v)).drop (v + 1) = row n fun w => .int (upF f v y w) := by
  have e : (fun w => D.int (upF f v y w)) = upF (fun w => D.int (f w)) v (.int y) := by
    funext w
    by_cases z : w = v <;> simp [upF, z]
  rw [e, ← row_set, List.set_eq_take_append_cons_drop, if_pos (by rw [row_len]; exact hv), List.append_assoc]
  rfl
/-- the slices of changed and of the law's own -/
theorem put_eval (hle : n ≤ 8) {v : Nat} (hv : v < n) (y : Int) : (mRet (mBin oAdd (mBin oAdd (mSl (mB 0) mNoPart (mPart (mB 1))) (mTup (mCons (mV 2) mNil))) (mSl (mB 0) (mPart (mBin oAdd (mB 1) (mC (.int 1)))) mNoPart))) [A.d (hR n f), A.d (nD v), A.d (.int y)] = .ok (.rt (hR n (upF f v y))) := by
  have p1 : mPart (mB 1) [A.d (hR n f), A.d (nD v), A.d (.int y)] = .ok (some (v : Int)) := mPart_ok (by simp)
  have p2 : mPart (mBin oAdd (mB 1) (mC (.int 1))) [A.d (hR n f), A.d (nD v), A.d (.int y)] = .ok (some ((v + 1 : Nat) : Int)) := mPart_ok (by simp)
  refine mRet_ok ?_
  rw [mBin_eq, mBin_eq, mSl_eq, mSl_eq, p1, p2, mTup_ok (ds := [.int y]) (by simp) (by simp)]
  simp only [mB_eq, mNoPart_eq, List.getElem?_cons_zero, bw_d, R.bind_ok]
  rw [hR_eq, oSl_to, oSl_from, R.bind_ok, oAdd_tup (by rw [List.length_take, row_len]; simp; omega), R.bind_ok, R.bind_ok, oAdd_tup (by simp [row_len]; omega), hR_set hv y, hR_eq]
theorem changed_ok (hle : n ≤ 8) {v : Nat} (hv : v < n) (y : Int) : g_changed [hR n f, nD v, .int y] = .ok (hR n (upF f v y)) := by
  refine run_of fun Q hQ => ?_
  walk_at "go"
  unfold m_changed
  exact wp_end (put_eval hle hv y) hQ
theorem law_put_ok (hle : n ≤ 8) {v : Nat} (hv : v < n) (y : Int) : g__law_put [hR n f, nD v, .int y] = .ok (hR n (upF f v y)) := by
  refine run_of fun Q hQ => ?_
  walk_at "go"
  unfold m__law_put
  exact wp_end (put_eval hle hv y) hQ
theorem upF_same {v : Nat} {y : Int} : upF f v y v = y := by simp [upF]
theorem upF_ne {v w : Nat} {y : Int} (h : w ≠ v) : upF f v y w = f w := by simp [upF, h]
/-- a move leads to heights -/
theorem HF.move (G : GOk n E) (H : HF n E t f) {v : Nat} {y : Int} (h : mvs E t f v = some y) : HF n E t (upF f v y) := by
  obtain ⟨h1, h2, h3⟩ := mvs_some h
  have nb : ∀ u, Adj E v u → (f u - y = 1 ∨ y - f u = 1) ∧ u ≠ v := fun u a => by
    have := flat_head h2 ((mem_nbr G).mpr a)
    have := H.stp.adj a
    have := (a.lt G).2.2
    omega
  refine ⟨fun e he => ?_, fun w x hw hx => ?_⟩
  · have a : Adj E e.1 e.2 := .inl he
    by_cases e1 : e.1 = v
    · have := nb e.2 (e1 ▸ a)
      rw [e1, upF_same, upF_ne this.2]
      omega
    · by_cases e2 : e.2 = v
      · have := nb e.1 (e2 ▸ a.symm)
        rw [e2, upF_same, upF_ne this.2]
        omega
      · rw [upF_ne e1, upF_ne e2]; exact H.stp e he
  · have : w ≠ v := fun z => by rw [z, h1] at hx; cases hx
    rw [upF_ne this]
    exact H.tld w x hw hx
/-- and back -/
theorem mvs_back (G : GOk n E) {v : Nat} {y : Int} (h : mvs E t f v = some y) : mvs E t (upF f v y) v = some (f v) := by
  obtain ⟨h1, h2, h3⟩ := mvs_some h
  have nb : ∀ u, u ∈ nbr E v → upF f v y u = f u := fun u hu => upF_ne (Ne.symm (((mem_nbr G).mp hu).lt G).2.2)
  unfold mvs
  rw [if_pos ⟨h1, h2.1, fun u hu w hw => by rw [nb u hu, nb w hw]; exact h2.2 u hu w hw⟩, nb _ (head_mem h2.1), upF_same]
  congr 1
  omega
theorem upF_back {v : Nat} {y : Int} : upF (upF f v y) v (f v) = f := by
  funext w
  by_cases z : w = v
  · rw [z, upF_same]
  · rw [upF_ne z, upF_ne z]
theorem moved_ok (G : GOk n E) (T : TOk n t) (H : HF n E t f) {v : Nat} (hv : v < n) {y : Int} (h : mvs E t f v = some y) : g_moved [gD n E, tD n t, hR n f, nD v] = .ok (hR n (upF f v y)) := by
  have hs := stpF_ne G H h
  refine run_of fun Q hQ => ?_
  walk_at "go"
  unfold m_moved
  refine wp_stp (mExpr_ok (d := .non) (by simp [check_heights_ok G T H])) ?_
  refine wp_stp (mExpr_ok (d := .non) (by simp [check_vertex_ok E hv])) ?_
  refine wp_stp (mSet_ok (d := .int (stpF E t f v)) (by simp [step_of_ok G H hv])) ?_
  walk_at "st"
  refine wp_seq_if (b := false) (by simp [hs.2]) (fun z => by cases z) (fun _ => ?_)
  rw [mSkip_eq, wp_ok, thn_nx]
  have hy : f v + stpF E t f v = y := by omega
  exact wp_end (mRet_ok (d := hR n (upF f v y)) (by simp [hR_get hv, hy, changed_ok G.le hv y])) hQ
theorem moved_cannot (G : GOk n E) (T : TOk n t) (H : HF n E t f) {v : Nat} (hv : v < n) (h : mvs E t f v = none) : g_moved [gD n E, tD n t, hR n f, nD v] = .ex "CannotMove" := by
  refine run_raise ?_
  walk_at "go"
  unfold m_moved
  rw [mSeq_nx (mExpr_ok (d := .non) (by simp [check_heights_ok G T H])), mSeq_nx (mExpr_ok (d := .non) (by simp [check_vertex_ok E hv])), mSeq_nx (mSet_ok (d := .int 0) (by simp [step_of_ok G H hv, stpF_none h]))]
  walk_at "st"
  exact mSeq_ex (by rw [mIfS_t (by simp)]; rfl)
theorem moved_vertex (G : GOk n E) (T : TOk n t) (H : HF n E t f) {d : D} (h : g_in_range [d, .int 0, .int ((n : Int) - 1)] = .ok (.bl false)) : g_moved [gD n E, tD n t, hR n f, d] = .ex "InvalidVertex" := by
  have g0 := gD0 n E
  have hc : g_check_vertex [gD n E, d] = .ex "InvalidVertex" := by
    refine run_raise ?_
    walk_at "go"
    unfold m_check_vertex
    rw [mIfS_t (by simp [g0, h])]
    rfl
  refine run_raise ?_
  walk_at "go"
  unfold m_moved
  rw [mSeq_nx (mExpr_ok (d := .non) (by simp [check_heights_ok G T H]))]
  exact mSeq_ex (mExpr_ex (by simp [hc]))
end
theorem in_range_non (lo hi : Int) : g_in_range [.non, .int lo, .int hi] = .ok (.bl false) := by
  refine run_of fun Q hQ => ?_
  walk_at "go"
  unfold m_in_range
  exact wp_end (mRet_ok (d := .bl (false && false)) (mAndV_ok (by simp) fun z => by cases z)) hQ
theorem in_range_bl (b : Bool) (lo hi : Int) : g_in_range [.bl b, .int lo, .int hi] = .ok (.bl false) := by
  refine run_of fun Q hQ => ?_
  walk_at "go"
  unfold m_in_range
  exact wp_end (mRet_ok (d := .bl (true && (false && false))) (mAndV_ok (by simp) fun _ => mAndV_ok (by simp) fun z => by cases z)) hQ
end VL

/-! M16: least and greatest heights. -/
namespace VL
open PySem PySem.Spec PyProof.Rows L2
local macro_rules | `(tactic| walk_at "go") => `(tactic| simp only [List.map, List.length_cons, List.length_nil, List.replicate, List.cons_append, List.nil_append, Nat.reduceAdd, Nat.reduceSub, Nat.add_zero, Nat.zero_add])
local macro_rules | `(tactic| walk_at "st") => `(tactic| simp only [List.set_cons_zero, List.set_cons_succ])
def negT (t : Nat → Option Int) (v : Nat) : Option Int := (t v).map fun x => -x
/-- the least heights -/
def bot_ (n : Nat) (dist : Nat → Nat → Nat) (t : Nat → Option Int) (v : Nat) : Int := -top_ n dist (negT t) v
section
variable {n : Nat} {E : List Ed} {dist : Nat → Nat → Nat} {t : Nat → Option Int} {f g : Nat → Int}
theorem negT_some {v : Nat} {x : Int} : negT t v = some x ↔ t v = some (-x) := by
  unfold negT
  cases t v with
  | none => simp
  | some y => simp; omega
theorem negT_known (hk : ∃ u x, u < n ∧ t u = some x) : ∃ u x, u < n ∧ negT t u = some x := by
  obtain ⟨u, x, hu, hx⟩ := hk
  exact ⟨u, -x, hu, negT_some.mpr (by rw [Int.neg_neg]; exact hx)⟩
theorem Stp.neg (s : Stp E f) : Stp E fun v => -f v := fun e he => by
  have := s e he
  show -f e.1 - -f e.2 = 1 ∨ -f e.2 - -f e.1 = 1
  omega
theorem Tld.neg (l : Tld n t f) : Tld n (negT t) fun v => -f v := fun v x hv hx => by
  have := l v (-x) hv (negT_some.mp hx)
  show -f v = x
  omega
theorem Fits.neg (DD : DistOk n E dist) (F : Fits n dist t) : Fits n dist (negT t) := by
  refine ⟨fun u v x y hu hv hx hy => ?_, fun u v x y hu hv hx hy => ?_⟩
  · have := F.far v u _ _ hv hu (negT_some.mp hy) (negT_some.mp hx)
    have := DD.sym hu hv
    omega
  · have := F.par u v _ _ hu hv (negT_some.mp hx) (negT_some.mp hy)
    omega
theorem bot_spec (hk : ∃ u x, u < n ∧ t u = some x) (v : Nat) : (∃ u x, u < n ∧ t u = some x ∧ bot_ n dist t v = x - dist u v) ∧ ∀ u x, u < n → t u = some x → x - dist u v ≤ bot_ n dist t v := by
  obtain ⟨⟨u, x, hu, hx, e⟩, h2⟩ := top_spec (dist := dist) (negT_known hk) v
  refine ⟨⟨u, -x, hu, negT_some.mp hx, by unfold bot_; omega⟩, fun u x hu hx => ?_⟩
  have := h2 u (-x) hu (negT_some.mpr (by rw [Int.neg_neg]; exact hx))
  unfold bot_
  omega
theorem top_hf (G : GOk n E) (DD : DistOk n E dist) (b : Bip E (dist 0)) (F : Fits n dist t) (hk : ∃ u x, u < n ∧ t u = some x) : HF n E t (top_ n dist t) := ⟨(top_hts G DD b F hk).1, (top_hts G DD b F hk).2⟩
theorem bot_hf (G : GOk n E) (DD : DistOk n E dist) (b : Bip E (dist 0)) (F : Fits n dist t) (hk : ∃ u x, u < n ∧ t u = some x) : HF n E t (bot_ n dist t) := by
  have h := top_hts G DD b (F.neg DD) (negT_known hk)
  refine ⟨h.1.neg, fun v x hv hx => ?_⟩
  have := h.2 v (-x) hv (negT_some.mpr (by rw [Int.neg_neg]; exact hx))
  unfold bot_
  omega
theorem bot_min (DD : DistOk n E dist) (hk : ∃ u x, u < n ∧ t u = some x) (H : HF n E t f) {v : Nat} (hv : v < n) : bot_ n dist t v ≤ f v ∧ (f v - bot_ n dist t v) % 2 = 0 := by
  have := top_max DD (negT_known hk) H.stp.neg H.tld.neg hv
  unfold bot_
  omega
theorem HF.top (DD : DistOk n E dist) (hk : ∃ u x, u < n ∧ t u = some x) (H : HF n E t f) {v : Nat} (hv : v < n) : f v ≤ top_ n dist t v ∧ (top_ n dist t v - f v) % 2 = 0 := top_max DD hk H.stp H.tld hv
/-- the program's bound, up -/
def sgT (s : Int) (t : Nat → Option Int) (v : Nat) : Option Int := (t v).map fun x => s * x
theorem bound_ok (G : GOk n E) (T : TOk n t) (hd : ∀ s, s < n → g_distances [gD n E, nD s] = .ok (.lst (row n fun v => nD (dist s v)))) (DD : DistOk n E dist) {s : Int} (hs : s = 1 ∨ s = -1) : g_bound [gD n E, tD n t, .int s] = .ok (hR n fun v => s * top_ n dist (sgT s t) v) := by
  have hle := G.le
  have g0 := gD0 n E
  have hsb : -18446744073709551616 < s ∧ s < 18446744073709551616 := by omega
  have hk : ∃ u x, u < n ∧ sgT s t u = some x := by
    obtain ⟨u, x, hu, hx⟩ := T.some_
    exact ⟨u, s * x, hu, by unfold sgT; rw [hx]; rfl⟩
  refine run_of fun Q hQ => ?_
  walk_at "go"
  unfold m_bound
  refine wp_stp (mSet_ok (d := .lst ((kno n t).map nD)) (known_lc hle (by simp) (by simp))) ?_
  walk_at "st"
  refine wp_stp (mSetN_ok (d := []) rfl) ?_
  walk_at "st"
  rw [wp_seq]
  refine wp_for (ds := row n fun v => nD v) (fun pre ρ => ∃ (a5 a6 a7 : A), ρ = [.d (gD n E), .d (tD n t), .d (.int s), .d (.lst ((kno n t).map nD)), .m ((List.range pre.length).map fun v => .int (s * top_ n dist (sgT s t) v)), a5, a6, a7, .un, .un])
    (by simp only [mIter_eq, mCons_eq, mBin_eq, mB_eq, mC_eq, mNil_eq, List.getElem?_cons_zero, bw_d, R.bind_ok, g0]; exact fRange1_nat (k := n) (by omega)) ⟨_, _, _, rfl⟩ ?_ ?_
  · rintro pre d r ρ e ⟨a5, a6, a7, rfl⟩
    unfold row at e
    obtain ⟨rfl, hlt⟩ := split_range e
    generalize hk' : pre.length = v at *
    refine ⟨_, rfl, fun Q' hQ' => ?_⟩
    walk_at "st"
    refine wp_stp (mSet_ok (d := .lst (row n fun u => nD (dist v u))) (by simp [hd v hlt])) ?_
    walk_at "st"
    have hkl := kno_len (n := n) (t := t)
    have hlc : mLc [9] (mItemsA (mV 3)) (tName 9) mYes (mBin oAdd (mBin oMul (mB 2) (mBin oIx (mB 1) (mB 9))) (mBin oIx (mB 6) (mB 9))) [.d (gD n E), .d (tD n t), .d (.int s), .d (.lst ((kno n t).map nD)), .m ((List.range v).map fun v => .int (s * top_ n dist (sgT s t) v)), .d (nD v), .d (.lst (row n fun u => nD (dist v u))), a7, .un, .un]
        = .ok (.lst (((kno n t).map fun u => s * (t u).getD 0 + dist v u).map D.int)) := by
      rw [mLc_of (kno n t) nD (fun u => some (.int (s * (t u).getD 0 + dist v u))) (by simp [mItemsA]) (by omega) fun u hu => ?_]
      · rw [List.filterMap_eq_map', List.map_map]
        rfl
      · obtain ⟨hun, x, hx⟩ := mem_kno.mp hu
        have tu := tD_get hun hx
        have du : oIx (.lst (row n fun u => nD (dist v u))) (nD u) = .ok (nD (dist v u)) := oIx_lst (row_get hun)
        refine lcf_t tName_eq rfl ?_
        simp only [wipeR, mBin_eq, mB_eq, List.set_cons_zero, List.set_cons_succ, List.getElem?_cons_succ, List.getElem?_cons_zero, bw_d, R.bind_ok, tu, du, oMul_int (.inl hsb), oAdd_int, hx, Option.getD_some]
    refine wp_stp (mSet_ok hlc) ?_
    walk_at "st"
    generalize hop : ((kno n t).map fun u => s * (t u).getD 0 + (dist v u : Int)) = os
    have hne : os ≠ [] := fun z => by
      obtain ⟨u, x, hu, hx⟩ := T.some_
      have : u ∈ kno n t := mem_kno.mpr ⟨hu, x, hx⟩
      rw [← hop, List.map_eq_nil_iff] at z
      rw [z] at this
      cases this
    have hmin : minI os = top_ n dist (sgT s t) v := by
      obtain ⟨h1, h2⟩ := minI_spec hne
      obtain ⟨⟨u, x, hu, hx, e⟩, h4⟩ := top_spec (dist := dist) hk v
      have key : ∀ u y, u < n → t u = some y → minI os ≤ s * y + dist u v := fun u y hu hy => by
        have := h2 (s * y + dist v u) (by rw [← hop]; exact List.mem_map.mpr ⟨u, mem_kno.mpr ⟨hu, y, hy⟩, by rw [hy]; rfl⟩)
        rw [DD.sym hu hlt]
        exact this
      have a1 : minI os ≤ top_ n dist (sgT s t) v := by
        unfold sgT at hx
        cases q : t u with
        | none => rw [q] at hx; cases hx
        | some y =>
          rw [q] at hx
          have hx : s * y = x := by simpa using hx
          have := key u y hu q
          omega
      have a2 : top_ n dist (sgT s t) v ≤ minI os := by
        rw [← hop] at h1
        obtain ⟨w, hw, e1⟩ := List.mem_map.mp h1
        obtain ⟨hwn, y, hy⟩ := mem_kno.mp hw
        have := h4 w (s * y) hwn (by unfold sgT; rw [hy]; rfl)
        rw [hy, DD.sym hlt hwn] at e1
        simp only [Option.getD_some] at e1
        rw [hop] at e1
        omega
      omega
    refine wp_end (mApp_ok (xs := (List.range v).map fun v => .int (s * top_ n dist (sgT s t) v)) (d := .int (s * top_ n dist (sgT s t) v)) rfl (by simp only [mBin_eq, mB_eq, mCall_eq, mCons_eq, mNil_eq, List.getElem?_cons_succ, List.getElem?_cons_zero, bw_d, R.bind_ok, fMin1_ok hne, hmin, oMul_int (.inl hsb)]) (by simp; omega)) (hQ' _ ⟨.d (nD v), .d (.lst (row n fun u => nD (dist v u))), .d (.lst (os.map D.int)), ?_⟩)
    walk_at "st"
    rw [List.length_append, List.length_singleton, hk', List.range_succ, List.map_append]
    rfl
  · rintro ρ ⟨a5, a6, a7, rfl⟩
    rw [thn_nx, row_len]
    refine wp_end (mRet_ok (d := hR n fun v => s * top_ n dist (sgT s t) v) ?_) hQ
    rw [hR_eq]
    simp
    rfl
theorem sgT_one : sgT 1 t = t := by
  funext v
  unfold sgT
  cases t v <;> simp
theorem sgT_neg : sgT (-1) t = negT t := by
  funext v
  unfold sgT negT
  cases t v <;> simp
theorem extreme_ok (G : GOk n E) (T : TOk n t) (hd : ∀ s, s < n → g_distances [gD n E, nD s] = .ok (.lst (row n fun v => nD (dist s v)))) (DD : DistOk n E dist) {s : Int} (hs : s = 1 ∨ s = -1) (h : g_found_paper [gD n E, tD n t] = .ok .non) : g_extreme [gD n E, tD n t, .int s] = .ok (hR n fun v => s * top_ n dist (sgT s t) v) := by
  refine run_of fun Q hQ => ?_
  walk_at "go"
  unfold m_extreme
  refine wp_stp (mExpr_ok (d := .non) (by simp [check_told_ok G T])) ?_
  refine wp_seq_if (b := false) (by simp [h]) (fun z => by cases z) (fun _ => ?_)
  rw [mSkip_eq, wp_ok, thn_nx]
  exact wp_end (mRet_ok (by simp [bound_ok G T hd DD hs])) hQ
theorem extreme_none (G : GOk n E) (T : TOk n t) {s : Int} {k : Str} {p : List Nat} (h : g_found_paper [gD n E, tD n t] = .ok (pD k p)) : g_extreme [gD n E, tD n t, .int s] = .ex "NoHeights" := by
  refine run_raise ?_
  walk_at "go"
  unfold m_extreme
  rw [mSeq_nx (mExpr_ok (d := .non) (by simp [check_told_ok G T]))]
  exact mSeq_ex (by rw [mIfS_t (by simp [h, pD])]; rfl)
theorem greatest_ok (G : GOk n E) (T : TOk n t) (hd : ∀ s, s < n → g_distances [gD n E, nD s] = .ok (.lst (row n fun v => nD (dist s v)))) (DD : DistOk n E dist) (h : g_found_paper [gD n E, tD n t] = .ok .non) : g_greatest [gD n E, tD n t] = .ok (hR n (top_ n dist t)) := by
  have e := extreme_ok G T hd DD (s := 1) (.inl rfl) h
  rw [sgT_one] at e
  have e2 : (fun v => 1 * top_ n dist t v) = top_ n dist t := by funext v; rw [Int.one_mul]
  rw [e2] at e
  refine run_of fun Q hQ => ?_
  walk_at "go"
  unfold m_greatest
  exact wp_end (mRet_ok (by simp [e])) hQ
theorem least_ok (G : GOk n E) (T : TOk n t) (hd : ∀ s, s < n → g_distances [gD n E, nD s] = .ok (.lst (row n fun v => nD (dist s v)))) (DD : DistOk n E dist) (h : g_found_paper [gD n E, tD n t] = .ok .non) : g_least [gD n E, tD n t] = .ok (hR n (bot_ n dist t)) := by
  have e := extreme_ok G T hd DD (s := -1) (.inr rfl) h
  rw [sgT_neg] at e
  have e2 : (fun v => -1 * top_ n dist (negT t) v) = bot_ n dist t := by funext v; unfold bot_; omega
  rw [e2] at e
  refine run_of fun Q hQ => ?_
  walk_at "go"
  unfold m_least
  refine wp_end (mRet_ok ?_) hQ
  simp only [mFn_eq, mCons_eq, mNil_eq, mV_eq, neg1, List.getElem?_cons_succ, List.getElem?_cons_zero, vw_d, R.bind_ok, List.length_cons, List.length_nil, Nat.zero_add, Nat.reduceAdd, if_true, e]
theorem extremes_none (G : GOk n E) (T : TOk n t) {k : Str} {p : List Nat} (h : g_found_paper [gD n E, tD n t] = .ok (pD k p)) : g_greatest [gD n E, tD n t] = .ex "NoHeights" ∧ g_least [gD n E, tD n t] = .ex "NoHeights" := by
  constructor
  · refine run_raise ?_
    walk_at "go"
    unfold m_greatest
    simp [extreme_none G T h]
  · refine run_raise ?_
    walk_at "go"
    unfold m_least
    simp only [mRet_eq, mFn_eq, mCons_eq, mNil_eq, mV_eq, neg1, List.getElem?_cons_succ, List.getElem?_cons_zero, vw_d, R.bind_ok, List.length_cons, List.length_nil, Nat.zero_add, Nat.reduceAdd, if_true, extreme_none G T h]
    rfl
end
end VL

/-! M17: the lattice of heights: meets, going down, one more told height, single lowerings. -/
namespace VL
open PySem PySem.Spec PyProof.Rows L2
section
variable {n : Nat} {E : List Ed} {dist : Nat → Nat → Nat} {t : Nat → Option Int} {f g : Nat → Int}
theorem HF.par (DD : DistOk n E dist) (hk : ∃ u x, u < n ∧ t u = some x) (Hf : HF n E t f) (Hg : HF n E t g) {v : Nat} (hv : v < n) : (f v - g v) % 2 = 0 := by
  obtain ⟨u, x, hu, hx⟩ := hk
  have h1 := Hf.stp.walk (DD.walk u v hu hv)
  have h2 := Hg.stp.walk (DD.walk u v hu hv)
  rw [Hf.tld u x hu hx] at h1
  rw [Hg.tld u x hu hx] at h2
  omega
theorem HF.meet (G : GOk n E) (DD : DistOk n E dist) (hk : ∃ u x, u < n ∧ t u = some x) (Hf : HF n E t f) (Hg : HF n E t g) : HF n E t fun v => min (f v) (g v) := by
  refine ⟨fun e he => ?_, fun v x hv hx => ?_⟩
  · have hl := G.ed e he
    have p1 := Hf.par DD hk Hg (show e.1 < n by omega)
    have p2 := Hf.par DD hk Hg (show e.2 < n by omega)
    have s1 := Hf.stp e he
    have s2 := Hg.stp e he
    show min (f e.1) (g e.1) - min (f e.2) (g e.2) = 1 ∨ min (f e.2) (g e.2) - min (f e.1) (g e.1) = 1
    omega
  · have h1 := Hf.tld v x hv hx
    have h2 := Hg.tld v x hv hx
    show min (f v) (g v) = x
    omega
theorem HF.join (G : GOk n E) (DD : DistOk n E dist) (hk : ∃ u x, u < n ∧ t u = some x) (Hf : HF n E t f) (Hg : HF n E t g) : HF n E t fun v => max (f v) (g v) := by
  refine ⟨fun e he => ?_, fun v x hv hx => ?_⟩
  · have hl := G.ed e he
    have p1 := Hf.par DD hk Hg (show e.1 < n by omega)
    have p2 := Hf.par DD hk Hg (show e.2 < n by omega)
    have s1 := Hf.stp e he
    have s2 := Hg.stp e he
    show max (f e.1) (g e.1) - max (f e.2) (g e.2) = 1 ∨ max (f e.2) (g e.2) - max (f e.1) (g e.1) = 1
    omega
  · have h1 := Hf.tld v x hv hx
    have h2 := Hg.tld v x hv hx
    show max (f v) (g v) = x
    omega
/-- a greatest one of some -/
theorem greatest_of {S : Nat → Prop} [DecidablePred S] (f : Nat → Int) (h : ∃ v, v < n ∧ S v) : ∃ w, w < n ∧ S w ∧ ∀ v, v < n → S v → f v ≤ f w := by
  have hm : ∀ v, v ∈ (List.range n).filter (fun v => decide (S v)) ↔ v < n ∧ S v := fun v => by rw [List.mem_filter, List.mem_range, decide_eq_true_eq]
  have hne : ((List.range n).filter fun v => decide (S v)).map f ≠ [] := fun z => by
    obtain ⟨v, hv⟩ := h
    have := (hm v).mpr hv
    rw [List.map_eq_nil_iff.mp z] at this
    cases this
  obtain ⟨h1, h2⟩ := maxI_spec hne
  obtain ⟨w, hw, e⟩ := List.mem_map.mp h1
  refine ⟨w, ((hm w).mp hw).1, ((hm w).mp hw).2, fun v hv hs => ?_⟩
  rw [e]
  exact h2 _ (List.mem_map.mpr ⟨v, (hm v).mpr ⟨hv, hs⟩, rfl⟩)
/-- a vertex that is not alone has a neighbor -/
theorem nbr_ne (G : GOk n E) {w u : Nat} (hw : w < n) (hu : u < n) (h : u ≠ w) : nbr E w ≠ [] := fun z => by
  have := closed_all G (S := fun v => v = w) hw rfl (fun a b ha hab => by
    have : b ∈ nbr E w := (mem_nbr G).mpr (ha ▸ hab)
    rw [z] at this
    cases this) u hu
  exact h this
/-- what mvs says, by the neighbors -/
theorem mvs_of (G : GOk n E) {w : Nat} {a : Int} (ht : t w = none) (hne : nbr E w ≠ []) (ha : ∀ u, Adj E w u → f u = a) : mvs E t f w = some (2 * a - f w) := by
  have hu : ∀ u ∈ nbr E w, f u = a := fun u hu => ha u ((mem_nbr G).mp hu)
  unfold mvs
  rw [if_pos ⟨ht, hne, fun u h1 w' h2 => by rw [hu u h1, hu w' h2]⟩, hu _ (head_mem hne)]
theorem mvs_adj (G : GOk n E) {w : Nat} {y : Int} (h : mvs E t f w = some y) {u : Nat} (a : Adj E w u) : y = 2 * f u - f w := by
  obtain ⟨_, h2, h3⟩ := mvs_some h
  have := flat_head h2 ((mem_nbr G).mpr a)
  omega
/-- heights above others can be lowered somewhere, and stay above them -/
theorem descent (G : GOk n E) (DD : DistOk n E dist) (hk : ∃ u x, u < n ∧ t u = some x) (Hf : HF n E t f) (Hg : HF n E t g) (hle : ∀ v, v < n → g v ≤ f v) (hne : ∃ v, v < n ∧ g v < f v) : ∃ w, w < n ∧ mvs E t f w = some (f w - 2) ∧ g w ≤ f w - 2 := by
  obtain ⟨w, hw, hs, hmax⟩ := greatest_of (S := fun v => g v < f v) f hne
  have ht : t w = none := by
    cases q : t w with
    | none => rfl
    | some x => have := Hf.tld w x hw q; have := Hg.tld w x hw q; omega
  obtain ⟨u0, x0, hu0, hx0⟩ := hk
  have hne0 : u0 ≠ w := fun z => by rw [z, ht] at hx0; cases hx0
  have nb : ∀ u, Adj E w u → f u = f w - 1 := fun u a => by
    have hu := (a.lt G).2.1
    have h1 := Hf.stp.adj a
    have h2 := Hg.stp.adj a
    have h3 := hle u hu
    by_cases c : g u < f u
    · have := hmax u hu c; omega
    · omega
  have := Hf.par DD ⟨u0, x0, hu0, hx0⟩ Hg hw
  refine ⟨w, hw, ?_, by omega⟩
  rw [mvs_of G ht (nbr_ne G hw hu0 hne0) nb]
  congr 1
  omega
/-- one more told height that fits -/
theorem fits_more (G : GOk n E) (DD : DistOk n E dist) (hk : ∃ u x, u < n ∧ t u = some x) (Hf : HF n E t f) {v : Nat} {x : Int} (hv : v < n) (h1 : bot_ n dist t v ≤ x) (h2 : x ≤ top_ n dist t v) (h3 : (f v - x) % 2 = 0) : Fits n dist (upF t v (some x)) := by
  have F := fits_of DD Hf.stp Hf.tld
  have hb := (bot_spec (dist := dist) hk v).2
  have ht := (top_spec (dist := dist) hk v).2
  have par : ∀ u y, u < n → t u = some y → (y - x - dist u v) % 2 = 0 := fun u y hu hy => by
    have := Hf.stp.walk (DD.walk u v hu hv)
    rw [Hf.tld u y hu hy] at this
    omega
  have self := DD.self hv
  refine ⟨fun a b p q ha hb' hp hq => ?_, fun a b p q ha hb' hp hq => ?_⟩
  · by_cases e1 : a = v
    · rw [e1] at hp ⊢
      simp [upF] at hp
      by_cases e2 : b = v
      · rw [e2] at hq ⊢
        simp [upF] at hq
        omega
      · simp [upF, e2] at hq
        have := ht b q hb' hq
        have := DD.sym hv hb'
        omega
    · simp [upF, e1] at hp
      by_cases e2 : b = v
      · rw [e2] at hq ⊢
        simp [upF] at hq
        have := hb a p ha hp
        omega
      · simp [upF, e2] at hq
        exact F.far a b p q ha hb' hp hq
  · by_cases e1 : a = v
    · rw [e1] at hp ⊢
      simp [upF] at hp
      by_cases e2 : b = v
      · rw [e2] at hq ⊢
        simp [upF] at hq
        omega
      · simp [upF, e2] at hq
        have := par b q hb' hq
        have := DD.sym hv hb'
        omega
    · simp [upF, e1] at hp
      by_cases e2 : b = v
      · rw [e2] at hq ⊢
        simp [upF] at hq
        have := par a p ha hp
        omega
      · simp [upF, e2] at hq
        exact F.par a b p q ha hb' hp hq
/-- heights with that height too, the least of them -/
theorem more_hf (G : GOk n E) (DD : DistOk n E dist) (hk : ∃ u x, u < n ∧ t u = some x) (Hf : HF n E t f) {v : Nat} {x : Int} (hv : v < n) (h1 : bot_ n dist t v ≤ x) (h2 : x ≤ top_ n dist t v) (h3 : (f v - x) % 2 = 0) :
    HF n E (upF t v (some x)) (bot_ n dist (upF t v (some x))) ∧ ∀ g, HF n E (upF t v (some x)) g ↔ HF n E t g ∧ g v = x := by
  have b := bip_of G DD Hf.stp
  refine ⟨bot_hf G DD b (fits_more G DD hk Hf hv h1 h2 h3) ⟨v, x, hv, by simp [upF]⟩, fun g => ⟨fun H => ⟨⟨H.stp, fun u y hu hy => ?_⟩, H.tld v x hv (by simp [upF])⟩, fun ⟨H, e⟩ => ⟨H.stp, fun u y hu hy => ?_⟩⟩⟩
  · by_cases c : u = v
    · subst c
      have a1 := H.tld u x hu (by simp [upF])
      have a2 := (bot_spec (dist := dist) hk u).2 u y hu hy
      have a3 := (top_spec (dist := dist) hk u).2 u y hu hy
      have a4 := DD.self hu
      omega
    · exact H.tld u y hu (by simp [upF, c]; exact hy)
  · by_cases c : u = v
    · subst c
      simp [upF] at hy
      omega
    · simp [upF, c] at hy
      exact H.tld u y hu hy
/-! ### vertices that a move would lower -/
def lows (n : Nat) (E : List Ed) (t : Nat → Option Int) (f : Nat → Int) : List Nat := (List.range n).filter fun v => match mvs E t f v with
  | some y => decide (y < f v)
  | none => false
theorem mem_lows (G : GOk n E) (Hf : HF n E t f) {w : Nat} : w ∈ lows n E t f ↔ w < n ∧ mvs E t f w = some (f w - 2) := by
  unfold lows
  rw [List.mem_filter, List.mem_range]
  constructor
  · rintro ⟨h1, h2⟩
    refine ⟨h1, ?_⟩
    cases q : mvs E t f w with
    | none => rw [q] at h2; cases h2
    | some y =>
      rw [q] at h2
      have h2 := of_decide_eq_true h2
      obtain ⟨_, h4, h5⟩ := mvs_some q
      have := Hf.stp.adj ((mem_nbr G).mp (head_mem h4.1))
      congr 1
      omega
  · rintro ⟨h1, h2⟩
    refine ⟨h1, ?_⟩
    rw [h2]
    exact decide_eq_true (by omega)
theorem lows_nodup : (lows n E t f).Nodup := List.nodup_range.filter _
/-- nothing can be lowered exactly at the least heights -/
theorem lows_nil (G : GOk n E) (DD : DistOk n E dist) (hk : ∃ u x, u < n ∧ t u = some x) (b : Bip E (dist 0)) (F : Fits n dist t) (Hf : HF n E t f) : lows n E t f = [] ↔ ∀ v, v < n → f v = bot_ n dist t v := by
  have Hb := bot_hf G DD b F hk
  constructor
  · intro z v hv
    have h1 := bot_min DD hk Hf hv
    by_cases c : f v = bot_ n dist t v
    · exact c
    · obtain ⟨w, hw, hm, _⟩ := descent G DD hk Hf Hb (fun u hu => (bot_min DD hk Hf hu).1) ⟨v, hv, by omega⟩
      have : w ∈ lows n E t f := (mem_lows G Hf).mpr ⟨hw, hm⟩
      rw [z] at this
      cases this
  · intro h
    rw [List.eq_nil_iff_forall_not_mem]
    intro w hw
    obtain ⟨h1, h2⟩ := (mem_lows G Hf).mp hw
    have := bot_min DD hk (Hf.move G h2) h1
    rw [upF_same, h w h1] at this
    omega
/-- with a single lowering, they are the least with that height there -/
theorem single_least (G : GOk n E) (DD : DistOk n E dist) (hk : ∃ u x, u < n ∧ t u = some x) (Hf : HF n E t f) {v : Nat} (h1 : lows n E t f = [v]) (Hg : HF n E t g) (hg : g v = f v) : ∀ u, u < n → f u ≤ g u := by
  intro u hu
  by_cases c : f u ≤ g u
  · exact c
  · obtain ⟨w, hw, hm, hle⟩ := descent G DD hk Hf (Hf.meet G DD hk Hg) (fun v _ => Int.min_le_left _ _) ⟨u, hu, by omega⟩
    have : w ∈ lows n E t f := (mem_lows G Hf).mpr ⟨hw, hm⟩
    rw [h1, List.mem_singleton] at this
    subst this
    omega
/-- to each height above the least at a vertex: heights with a single lowering, there -/
theorem single_at (G : GOk n E) (DD : DistOk n E dist) (hk : ∃ u x, u < n ∧ t u = some x) (b : Bip E (dist 0)) (F : Fits n dist t) (Hf : HF n E t f) {v : Nat} {x : Int} (hv : v < n) (h1 : bot_ n dist t v < x) (h2 : x ≤ top_ n dist t v) (h3 : (f v - x) % 2 = 0) :
    ∃ g, HF n E t g ∧ g v = x ∧ lows n E t g = [v] := by
  obtain ⟨Hj, hiff⟩ := more_hf G DD hk Hf hv (by omega) h2 h3
  obtain ⟨H, e⟩ := (hiff _).mp Hj
  generalize hj : bot_ n dist (upF t v (some x)) = j at *
  refine ⟨j, H, e, ?_⟩
  have hk' : ∃ u y, u < n ∧ upF t v (some x) u = some y := ⟨v, x, hv, by simp [upF]⟩
  have only : ∀ w, w ∈ lows n E t j → w = v := fun w hw => by
    obtain ⟨a1, a2⟩ := (mem_lows G H).mp hw
    by_cases c : w = v
    · exact c
    · have H2 := (hiff _).mpr ⟨H.move G a2, by rw [upF_ne (Ne.symm c)]; exact e⟩
      have := bot_min (dist := dist) DD hk' H2 a1
      rw [upF_same, hj] at this
      omega
  have some_ : lows n E t j ≠ [] := fun z => by
    have := (lows_nil G DD hk b F H).mp z v hv
    omega
  cases q : lows n E t j with
  | nil => exact absurd q some_
  | cons a l =>
    have ha : a = v := only a (by rw [q]; exact List.mem_cons_self)
    cases l with
    | nil => rw [ha]
    | cons c l =>
      have hc : c = v := only c (by rw [q]; exact List.mem_cons_of_mem _ List.mem_cons_self)
      have nd := lows_nodup (n := n) (E := E) (t := t) (f := j)
      rw [q, ha, hc] at nd
      simp at nd
/-! ### counting -/
def kOf (n : Nat) (dist : Nat → Nat → Nat) (t : Nat → Option Int) (v : Nat) : Nat := ((top_ n dist t v - bot_ n dist t v) / 2).toNat
def prs (n : Nat) (dist : Nat → Nat → Nat) (t : Nat → Option Int) : List (Nat × Int) := (List.range n).flatMap fun v => (List.range (kOf n dist t v)).map fun i : Nat => (v, bot_ n dist t v + 2 * ((i : Int) + 1))
theorem mem_prs {p : Nat × Int} : p ∈ prs n dist t ↔ p.1 < n ∧ ∃ i : Nat, i < kOf n dist t p.1 ∧ p.2 = bot_ n dist t p.1 + 2 * ((i : Int) + 1) := by
  unfold prs
  rw [List.mem_flatMap]
  constructor
  · rintro ⟨v, hv, h⟩
    obtain ⟨i, hi, rfl⟩ := List.mem_map.mp h
    exact ⟨List.mem_range.mp hv, i, List.mem_range.mp hi, rfl⟩
  · rintro ⟨h1, i, hi, e⟩
    exact ⟨p.1, List.mem_range.mpr h1, List.mem_map.mpr ⟨i, List.mem_range.mpr hi, by rw [← e]⟩⟩
theorem prs_nodup : (prs n dist t).Nodup := by
  unfold prs List.Nodup
  rw [List.pairwise_flatMap]
  refine ⟨fun v _ => ?_, List.nodup_range.imp fun {a b} hab x hx y hy e => ?_⟩
  · rw [List.pairwise_map]
    refine List.nodup_range.imp fun {i j} hij e => hij ?_
    have := (Prod.mk.inj e).2
    omega
  · obtain ⟨i, _, rfl⟩ := List.mem_map.mp hx
    obtain ⟨j, _, rfl⟩ := List.mem_map.mp hy
    exact hab (Prod.mk.inj e).1
theorem prs_len : (prs n dist t).length = ((List.range n).map (kOf n dist t)).sum := by
  unfold prs
  rw [List.length_flatMap]
  congr 1
  apply List.map_congr_left
  intro v _
  simp
theorem len_eq {α : Type} {a b : List α} (ha : a.Nodup) (hb : b.Nodup) (h : ∀ x, x ∈ a ↔ x ∈ b) : a.length = b.length := by
  have h1 := ha.length_le_of_subset fun x hx => (h x).mp hx
  have h2 := hb.length_le_of_subset fun x hx => (h x).mpr hx
  omega
/-- as many single lowerings as steps between the least and the greatest heights -/
theorem count_single (G : GOk n E) (DD : DistOk n E dist) (hk : ∃ u x, u < n ∧ t u = some x) (b : Bip E (dist 0)) (F : Fits n dist t) {hs : List (List Int)} (nd : hs.Nodup) (hmem : ∀ h, h ∈ hs ↔ HT n E t h) :
    (hs.filter fun h => decide ((lows n E t (fnH h)).length = 1)).length = ((List.range n).map (kOf n dist t)).sum := by
  have Hb := bot_hf G DD b F hk
  have key : ((hs.filter fun h => decide ((lows n E t (fnH h)).length = 1)).map fun h => ((lows n E t (fnH h)).headD 0, fnH h ((lows n E t (fnH h)).headD 0))).length = (prs n dist t).length := by
    refine len_eq ?_ prs_nodup fun p => ?_
    · unfold List.Nodup
      rw [List.pairwise_map]
      refine (nd.filter _).imp_of_mem fun {a c} ha hc hac e => hac ?_
      obtain ⟨ha1, ha2⟩ := List.mem_filter.mp ha
      obtain ⟨hc1, hc2⟩ := List.mem_filter.mp hc
      obtain ⟨v, hv⟩ := List.length_eq_one_iff.mp (of_decide_eq_true ha2)
      obtain ⟨w, hw⟩ := List.length_eq_one_iff.mp (of_decide_eq_true hc2)
      have Ha := (hmem a).mp ha1
      have Hc := (hmem c).mp hc1
      rw [hv, hw] at e
      obtain ⟨e1, e2⟩ := Prod.mk.inj e
      simp only [List.headD_cons] at e1 e2
      subst e1
      have l1 := single_least G DD hk Ha.hf hv Hc.hf e2.symm
      have l2 := single_least G DD hk Hc.hf hw Ha.hf e2
      rw [← row_fnH Ha.len, ← row_fnH Hc.len]
      unfold row
      apply List.map_congr_left
      intro u hu
      have := l1 u (List.mem_range.mp hu)
      have := l2 u (List.mem_range.mp hu)
      omega
    · rw [mem_prs]
      constructor
      · intro hp
        obtain ⟨h, hh, rfl⟩ := List.mem_map.mp hp
        obtain ⟨h1, h2⟩ := List.mem_filter.mp hh
        obtain ⟨v, hv⟩ := List.length_eq_one_iff.mp (of_decide_eq_true h2)
        have H := ((hmem h).mp h1).hf
        rw [hv]
        simp only [List.headD_cons]
        obtain ⟨a1, a2⟩ := (mem_lows G H).mp (show v ∈ lows n E t (fnH h) by rw [hv]; exact List.mem_cons_self)
        have c1 := bot_min DD hk (H.move G a2) a1
        rw [upF_same] at c1
        have c2 := H.top DD hk a1
        refine ⟨a1, ((fnH h v - bot_ n dist t v) / 2 - 1).toNat, ?_, ?_⟩
        · unfold kOf; omega
        · omega
      · rintro ⟨h1, i, hi, e⟩
        have ht := Hb.top DD hk h1
        unfold kOf at hi
        obtain ⟨g, Hg, eg, hl⟩ := single_at G DD hk b F Hb h1 (x := p.2) (by omega) (by omega) (by omega)
        have HTg := Hg.ht G
        have hlr : lows n E t (fnH (row n g)) = [p.1] := by
          have : ∀ v, v < n → mvs E t (fnH (row n g)) v = mvs E t g v := fun v hv => by
            have e1 : ∀ u ∈ nbr E v, fnH (row n g) u = g u := fun u hu => fnH_row (((mem_nbr G).mp hu).lt G).2.1
            unfold mvs
            by_cases c : t v = none ∧ flat E g v
            · rw [if_pos c, if_pos ⟨c.1, c.2.1, fun u hu w hw => by rw [e1 u hu, e1 w hw]; exact c.2.2 u hu w hw⟩, e1 _ (head_mem c.2.1), fnH_row hv]
            · rw [if_neg c, if_neg fun z => c ⟨z.1, z.2.1, fun u hu w hw => by rw [← e1 u hu, ← e1 w hw]; exact z.2.2 u hu w hw⟩]
          rw [← hl]
          unfold lows
          apply List.filter_congr
          intro v hv
          have hv := List.mem_range.mp hv
          rw [this v hv, fnH_row hv]
        refine List.mem_map.mpr ⟨row n g, List.mem_filter.mpr ⟨(hmem _).mpr HTg, decide_eq_true (by rw [hlr]; rfl)⟩, ?_⟩
        rw [hlr]
        simp only [List.headD_cons]
        rw [fnH_row h1, eg]
  rw [List.length_map, prs_len] at key
  exact key
theorem sum_gap (l : List Nat) (h : ∀ v ∈ l, 0 ≤ top_ n dist t v - bot_ n dist t v ∧ (top_ n dist t v - bot_ n dist t v) % 2 = 0) : (l.map fun v => ab (top_ n dist t v - bot_ n dist t v)).sum = 2 * (((l.map (kOf n dist t)).sum : Nat) : Int) := by
  induction l with
  | nil => rfl
  | cons v l ih =>
    have h1 := h v List.mem_cons_self
    have h2 := ih fun u hu => h u (List.mem_cons_of_mem _ hu)
    rw [List.map_cons, List.sum_cons, List.map_cons, List.sum_cons, h2]
    have : ab (top_ n dist t v - bot_ n dist t v) = 2 * ((kOf n dist t v : Nat) : Int) := by
      unfold ab kOf
      rw [if_neg (by omega)]
      omega
    omega
end
end VL

/-! M18: clashes; the laws' many told heights. -/
namespace VL
open PySem PySem.Spec PyProof.Rows L2
local macro_rules | `(tactic| walk_at "go") => `(tactic| simp only [List.map, List.length_cons, List.length_nil, List.replicate, List.cons_append, List.nil_append, Nat.reduceAdd, Nat.reduceSub, Nat.add_zero, Nat.zero_add])
local macro_rules | `(tactic| walk_at "st") => `(tactic| simp only [List.set_cons_zero, List.set_cons_succ])
theorem upF_oD {t : Nat → Option Int} {v n : Nat} {x : Int} : (row n fun v => oD (t v)).set v (.int x) = row n fun w => oD (upF t v (some x) w) := by
  rw [row_set]
  congr 1
  funext w
  by_cases z : w = v <;> simp [upF, z, oD]
section
variable {n : Nat} {E : List Ed} {dist : Nat → Nat → Nat} {t : Nat → Option Int}
theorem many_told_eq (G : GOk n E) (ns : List Int) (at_ : Nat) : ∃ t, TOk n t ∧ g__law_many_told [.scr ns, nD at_, gD n E] = .ok (tD n t) := by
  obtain ⟨dist, DD, _⟩ := dists_ex G
  have g0 := gD0 n E
  have hle := G.le
  have hpos := G.pos
  obtain ⟨ds, hl, hd, hrow⟩ := row_eq ns at_
  have dr : ∀ k, k < 60 → oIx (.lst (ds.map nD)) (nD k) = .ok (nD (ds.getD k 0)) := fun k hk => oIx_lst (getD_nD (by omega))
  have dk : ∀ (a t : Nat), a + t < 60 → oIx (.lst (ds.map nD)) (.int ((a : Int) + (t : Int))) = .ok (nD (ds.getD (a + t) 0)) := fun a t h => dr (a + t) h
  have hfar : g__law_far [gD n E, .int 0] = .ok (.lst (row n fun v => nD (dist 0 v))) := far_ok G DD (s := 0) (by omega)
  have main : ∃ d, g__law_many_told [.scr ns, nD at_, gD n E] = .ok d ∧ ∃ t, TOk n t ∧ d = tD n t := by
    refine run_some fun Q hQ => ?_
    walk_at "go"
    unfold m__law_many_told
    refine wp_stp (mSet_ok (d := .lst (ds.map nD)) (by simp [hrow])) ?_
    walk_at "st"
    refine wp_stp (mSet_ok (d := .lst (row n fun v => nD (dist 0 v))) (by simp [hfar])) ?_
    walk_at "st"
    refine wp_stp (mSetN_ok (d := row n fun _ => .non) (by rw [mRep_ok (xs := [.non]) (k := n) (by simp [mLst]) (by simp [g0]) (by simp) (by omega), rep_one, row_const])) ?_
    walk_at "st"
    rw [wp_seq]
    refine wp_for (ds := row n fun v => nD v) (fun pre ρ => ∃ (t : Nat → Option Int) (a6 a7 : A), ρ = [.d (.scr ns), .d (nD at_), .d (gD n E), .d (.lst (ds.map nD)), .d (.lst (row n fun v => nD (dist 0 v))), .m (row n fun v => oD (t v)), a6, a7] ∧ ∀ v x, v < n → t v = some x → -20 ≤ x ∧ x ≤ 20)
      (by simp only [mIter_eq, mCons_eq, mBin_eq, mB_eq, mC_eq, mNil_eq, List.getElem?_cons_succ, List.getElem?_cons_zero, bw_d, R.bind_ok, g0]; exact fRange1_nat (k := n) (by omega)) ⟨fun _ => none, _, _, rfl, fun v x _ h => by cases h⟩ ?_ ?_
    · rintro pre d r ρ e ⟨t, a6, a7, rfl, hr⟩
      unfold row at e
      obtain ⟨rfl, hlt⟩ := split_range e
      generalize hv : pre.length = v at *
      refine ⟨_, rfl, fun Q' hQ' => ?_⟩
      walk_at "st"
      have d0 := dr v (by omega)
      have d10 := dk 10 v (by omega)
      have d20 := dk 20 v (by omega)
      have d30 := dk 30 v (by omega)
      have gv : oIx (.lst (row n fun v => nD (dist 0 v))) (nD v) = .ok (nD (dist 0 v)) := oIx_lst (row_get hlt)
      have hdl := DD.lt G (show 0 < n by omega) hlt
      -- the second part
      have second : ∀ (t' : Nat → Option Int) (a7' : A), (∀ w x, w < n → t' w = some x → -20 ≤ x ∧ x ≤ 20) → wp (mIfS (mT (mBin oEq (mBin oMod (mBin oIx (mB 3) (mBin oAdd (mC (.int 20)) (mB 6))) (mC (.int 6))) (mC (.int 0)))) (mPut 5 (mV 6) (mBin oSub (mBin oMod (mBin oIx (mB 3) (mBin oAdd (mC (.int 30)) (mB 6))) (mC (.int 7))) (mC (.int 3)))) mSkip [.d (.scr ns), .d (nD at_), .d (gD n E), .d (.lst (ds.map nD)), .d (.lst (row n fun v => nD (dist 0 v))), .m (row n fun v => oD (t' v)), .d (nD v), a7']) Q' := fun t' a7' hr' => by
        refine wp_if (b := decide (((ds.getD (20 + v) 0 : Nat) : Int) % 6 = 0)) (by simp only [mT_eq, mBin_eq, mB_eq, mC_eq, List.getElem?_cons_succ, List.getElem?_cons_zero, bw_d, R.bind_ok, oAdd_int]; rw [show (20 : Int) = ((20 : Nat) : Int) from rfl, d20]; simp only [R.bind_ok, oMod_int (show (0 : Int) < 6 by omega), oEq_int, boolOf_bl]) (fun _ => ?_) (fun _ => ?_)
        · generalize hx : ((ds.getD (30 + v) 0 : Nat) : Int) % 7 - 3 = x
          refine wp_end (mPut_ok (k := v) (xs := row n fun v => oD (t' v)) (d := .int x) rfl (by simp only [mBin_eq, mB_eq, mC_eq, List.getElem?_cons_succ, List.getElem?_cons_zero, bw_d, R.bind_ok, oAdd_int]; rw [show (30 : Int) = ((30 : Nat) : Int) from rfl, d30]; simp only [R.bind_ok, oMod_int (show (0 : Int) < 7 by omega), oSub_int, hx]) (by simp) (by rw [row_len]; exact hlt)) ?_
          walk_at "st"
          rw [upF_oD]
          refine hQ' _ ⟨upF t' v (some x), _, _, rfl, fun w y hw hy => ?_⟩
          by_cases z : w = v
          · simp [upF, z] at hy
            omega
          · simp [upF, z] at hy
            exact hr' w y hw hy
        · rw [mSkip_eq, wp_ok]
          exact hQ' _ ⟨t', _, _, rfl, hr'⟩
      refine wp_seq_if (b := decide (((ds.getD v 0 : Nat) : Int) % 2 = 0)) (by simp only [mT_eq, mBin_eq, mB_eq, mC_eq, List.getElem?_cons_succ, List.getElem?_cons_zero, bw_d, R.bind_ok, d0, oMod_int (show (0 : Int) < 2 by omega), oEq_int, boolOf_bl]) (fun _ => ?_) (fun _ => ?_)
      · have hg : ds.getD (10 + v) 0 % (dist 0 v + 1) ≤ dist 0 v := by have := Nat.mod_lt (ds.getD (10 + v) 0) (show 0 < dist 0 v + 1 by omega); omega
        generalize hg' : ds.getD (10 + v) 0 % (dist 0 v + 1) = g at hg
        refine wp_stp (mSet_ok (d := nD g) (by simp only [mBin_eq, mB_eq, mC_eq, List.getElem?_cons_succ, List.getElem?_cons_zero, bw_d, R.bind_ok, oAdd_int]; rw [show (10 : Int) = ((10 : Nat) : Int) from rfl, d10]; simp only [R.bind_ok, gv, oAdd_int, oMod_int (show (0 : Int) < (dist 0 v : Int) + 1 by omega)]; rw [← hg', show ((dist 0 v : Nat) : Int) + 1 = ((dist 0 v + 1 : Nat) : Int) from rfl, nat_mod])) ?_
        walk_at "st"
        generalize hx : (dist 0 v : Int) - 2 * (g : Int) = x
        refine wp_end (mPut_ok (k := v) (xs := row n fun v => oD (t v)) (d := .int x) rfl (by simp only [mBin_eq, mB_eq, mC_eq, List.getElem?_cons_succ, List.getElem?_cons_zero, bw_d, R.bind_ok, gv, oSub_int, oMul_int (.inl (show (-18446744073709551616 : Int) < 2 ∧ (2 : Int) < 18446744073709551616 by omega)), hx]) (by simp) (by rw [row_len]; exact hlt)) ?_
        walk_at "st"
        rw [upF_oD, thn_nx]
        refine second (upF t v (some x)) _ fun w y hw hy => ?_
        by_cases z : w = v
        · simp [upF, z] at hy
          omega
        · simp [upF, z] at hy
          exact hr w y hw hy
      · rw [mSkip_eq, wp_ok, thn_nx]
        exact second t _ hr
    · rintro ρ ⟨t, a6, a7, rfl, hr⟩
      rw [thn_nx]
      have pl : pln 1 (.lst (row n fun v => oD (t v))) = true := by
        simp only [pln]
        refine plns_iff.mpr fun x hx => ?_
        obtain ⟨v, _, rfl⟩ := List.mem_map.mp hx
        cases t v <;> simp [oD, pln]
      have pl2 : pln 1 (.lst (row n fun _ => D.non)) = true := by
        simp only [pln]
        refine plns_iff.mpr fun x hx => ?_
        obtain ⟨v, _, rfl⟩ := List.mem_map.mp hx
        simp [pln]
      have erep : oMul (.lst [.non]) (nD n) = .ok (.lst (row n fun _ => .non)) := by
        show (if (n : Int) ≤ 1000 ∧ [D.non].length ≤ 1000 ∧ -1000 ≤ (n : Int) then R.ok (D.lst (List.replicate (n : Int).toNat [D.non]).flatten) else .bad) = _
        rw [if_pos ⟨by omega, by simp, by omega⟩, Int.toNat_natCast, rep_one, row_const]
      have cond : ∀ b : Bool, (b = true ↔ D.lst (row n fun v => oD (t v)) = D.lst (row n fun _ => .non)) → (mT (mBin oEq (mB 5) (mBin oMul (mL (mLst (mCons (mC .non) mNil))) (mBin oIx (mB 2) (mC (.int 0)))))) [.d (.scr ns), .d (nD at_), .d (gD n E), .d (.lst (ds.map nD)), .d (.lst (row n fun v => nD (dist 0 v))), .m (row n fun v => oD (t v)), a6, a7] = .ok b := fun b hb => by
        rw [mT_eq, mBin_eq, mBin_eq, mL_eq, mLst_ok (ds := [.non]) (by simp) (by simp)]
        simp only [mBin_eq, mB_eq, mC_eq, List.getElem?_cons_succ, List.getElem?_cons_zero, bw_d, bw_m, R.bind_ok, g0, erep, oEq_ok (k := 1) pl pl2 (by omega) hb, boolOf_bl]
      by_cases hz : ∃ v x, v < n ∧ t v = some x
      · refine wp_seq_if (cond false ⟨fun z => absurd z Bool.false_ne_true, fun z => ?_⟩) (fun z => by cases z) (fun _ => ?_)
        · obtain ⟨v, x, hv, hx⟩ := hz
          have e1 := D.lst.inj z
          have e2 := row_get (f := fun v => oD (t v)) hv
          rw [e1, row_get hv, hx] at e2
          cases e2
        · rw [mSkip_eq, wp_ok, thn_nx]
          exact wp_end (mRet_ok (d := tD n t) (by simp [tD])) (hQ _ ⟨t, ⟨hz, hr⟩, rfl⟩)
      · have hno : ∀ v, v < n → t v = none := fun v hv => by
          cases q : t v with
          | none => rfl
          | some x => exact absurd ⟨v, x, hv, q⟩ hz
        refine wp_seq_if (cond true ⟨fun _ => ?_, fun _ => rfl⟩) (fun _ => ?_) (fun z => by cases z)
        · congr 1
          unfold row
          apply List.map_congr_left
          intro v hv
          rw [hno v (List.mem_range.mp hv)]
          rfl
        · refine wp_end (mPut_ok (k := 0) (xs := row n fun v => oD (t v)) (d := .int 0) rfl rfl rfl (by rw [row_len]; omega)) ?_
          walk_at "st"
          rw [upF_oD, thn_nx]
          refine wp_end (mRet_ok (d := tD n (upF t 0 (some 0))) (by simp [tD])) (hQ _ ⟨upF t 0 (some 0), ⟨⟨0, 0, by omega, by simp [upF]⟩, fun w y hw hy => ?_⟩, rfl⟩)
          by_cases z : w = 0
          · simp [upF, z] at hy
            omega
          · simp [upF, z] at hy
            exact hr w y hw hy
  obtain ⟨d, h, t, h1, rfl⟩ := main
  exact ⟨t, h1, h⟩
instance (d0 : Nat → Nat) : Decidable (Bip E d0) := by unfold Bip; exact inferInstance
theorem is_odd_ok (G : GOk n E) (DD : DistOk n E dist) : g__law_is_odd [gD n E] = .ok (.bl (!decide (Bip E (dist 0)))) := by
  have g1 := gD1 n E
  have hpos := G.pos
  have hfew := G.few
  have hfar : g__law_far [gD n E, .int 0] = .ok (.lst (row n fun v => nD (dist 0 v))) := far_ok G DD (s := 0) (by omega)
  refine run_of fun Q hQ => ?_
  walk_at "go"
  unfold m__law_is_odd
  refine wp_stp (mSet_ok (d := .lst (row n fun v => nD (dist 0 v))) (by simp [hfar])) ?_
  walk_at "st"
  refine wp_end (mRet_ok ?_) hQ
  have hlc : mLc [2, 3] (mItemsA (mBin oIx (mB 0) (mC (.int 1)))) (tTuple 2 (tsCons (tName 2) (tsCons (tName 3) tsNil))) (mT (mBin oEq (mBin oMod (mBin oAdd (mBin oIx (mB 1) (mB 2)) (mBin oIx (mB 1) (mB 3))) (mC (.int 2))) (mC (.int 0)))) (mC (.int 1)) [.d (gD n E), .d (.lst (row n fun v => nD (dist 0 v))), .un, .un] = .ok (.lst (E.filterMap fun e => if (dist 0 e.1 + dist 0 e.2) % 2 = 0 then some (.int 1) else none)) := by
    refine mLc_of E eD _ (by simp [g1, mItemsA]) (by omega) fun e he => ?_
    have hl := G.ed e he
    have ga : oIx (.lst (row n fun v => nD (dist 0 v))) (nD e.1) = .ok (nD (dist 0 e.1)) := oIx_lst (row_get (by omega))
    have gb : oIx (.lst (row n fun v => nD (dist 0 v))) (nD e.2) = .ok (nD (dist 0 e.2)) := oIx_lst (row_get (by omega))
    have ev : ∀ b, decide (((dist 0 e.1 : Int) + dist 0 e.2) % 2 = 0) = b → (mT (mBin oEq (mBin oMod (mBin oAdd (mBin oIx (mB 1) (mB 2)) (mBin oIx (mB 1) (mB 3))) (mC (.int 2))) (mC (.int 0)))) [.d (gD n E), .d (.lst (row n fun v => nD (dist 0 v))), .d (nD e.1), .d (nD e.2)] = .ok b := fun b hb => by
      simp only [mT_eq, mBin_eq, mB_eq, mC_eq, List.getElem?_cons_succ, List.getElem?_cons_zero, bw_d, R.bind_ok, ga, gb, oAdd_int, oMod_int (show (0 : Int) < 2 by omega), oEq_int, boolOf_bl]
      exact congrArg R.ok hb
    by_cases c : (dist 0 e.1 + dist 0 e.2) % 2 = 0
    · rw [if_pos c]
      exact lcf_t (by rw [eD_eq]; exact tTuple2_eq) (ev true (decide_eq_true (by omega))) rfl
    · rw [if_neg c]
      exact lcf_f (by rw [eD_eq]; exact tTuple2_eq) (ev false (decide_eq_false (by omega)))
  rw [mBin_eq, hlc, mL_eq, mLst_ok (ds := []) rfl (by simp)]
  simp only [R.bind_ok]
  refine oNe_ok (k := 1) (by
    simp only [pln]
    refine plns_iff.mpr fun x hx => ?_
    obtain ⟨e, _, h⟩ := List.mem_filterMap.mp hx
    by_cases c : (dist 0 e.1 + dist 0 e.2) % 2 = 0
    · rw [if_pos c] at h; cases h; simp [pln]
    · rw [if_neg c] at h; cases h) (by simp [pln, plns]) (by omega) ?_
  rw [Bool.not_eq_true', decide_eq_false_iff_not]
  constructor
  · intro hb z
    apply hb
    intro e he c
    have z := D.lst.inj z
    rw [List.filterMap_eq_nil_iff] at z
    have := z e he
    rw [if_pos (by omega)] at this
    cases this
  · intro hz hb
    apply hz
    congr 1
    rw [List.filterMap_eq_nil_iff]
    intro e he
    have := hb e he
    rw [if_neg (by omega)]
/-! ### clashes -/
def badB (dist : Nat → Nat → Nat) (t : Nat → Option Int) (u w : Nat) : Bool := decide ((dist u w : Int) < ab ((t u).getD 0 - (t w).getD 0)) || decide ((ab ((t u).getD 0 - (t w).getD 0) - (dist u w : Int)) % 2 ≠ 0)
def clsF (n : Nat) (dist : Nat → Nat → Nat) (t : Nat → Option Int) (u : Nat) (ws : List Nat) : List Ed := (ws.filter fun w => decide (u < w) && badB dist t u w).map fun w => (u, w)
def cls (n : Nat) (dist : Nat → Nat → Nat) (t : Nat → Option Int) : List Ed := (kno n t).flatMap fun u => clsF n dist t u (kno n t)
theorem clsF_len {u : Nat} {ws : List Nat} : (clsF n dist t u ws).length ≤ ws.length := by unfold clsF; rw [List.length_map]; exact List.length_filter_le _ _
theorem flat_le {α β : Type} {f : α → List β} {k : Nat} (hf : ∀ x, (f x).length ≤ k) : ∀ l : List α, (l.flatMap f).length ≤ k * l.length
  | [] => by simp
  | x :: l => by
    rw [List.flatMap_cons, List.length_append, List.length_cons, Nat.mul_succ]
    have := hf x
    have := flat_le hf l
    omega
theorem clash_list_ok (G : GOk n E) (hd : ∀ s, s < n → g_distances [gD n E, nD s] = .ok (.lst (row n fun v => nD (dist s v)))) : g_clash_list [gD n E, tD n t] = .ok (.lst ((cls n dist t).map eD)) := by
  have hle := G.le
  have hkl := kno_len (n := n) (t := t)
  refine run_of fun Q hQ => ?_
  walk_at "go"
  unfold m_clash_list
  refine wp_stp (mSet_ok (d := .lst ((kno n t).map nD)) (known_lc hle (by simp) (by simp))) ?_
  walk_at "st"
  refine wp_stp (mSetN_ok (d := []) rfl) ?_
  walk_at "st"
  rw [wp_seq]
  refine wp_for (ds := (kno n t).map nD) (fun pre ρ => ∃ (a4 a5 a6 a7 : A), ρ = [.d (gD n E), .d (tD n t), .d (.lst ((kno n t).map nD)), .m ((((kno n t).take pre.length).flatMap fun u => clsF n dist t u (kno n t)).map eD), a4, a5, a6, a7, .un, .un]) (by simp [mItemsA]) ⟨_, _, _, _, rfl⟩ ?_ ?_
  · rintro pre d r ρ e ⟨a4, a5, a6, a7, rfl⟩
    obtain ⟨u, rfl, hget, _⟩ := split_map e
    obtain ⟨hu, x, hx⟩ := mem_kno.mp (List.mem_of_getElem? hget)
    refine ⟨_, rfl, fun Q' hQ' => ?_⟩
    walk_at "st"
    refine wp_stp (mSet_ok (d := .lst (row n fun v => nD (dist u v))) (by simp [hd u hu])) ?_
    walk_at "st"
    generalize hbase : (((kno n t).take pre.length).flatMap fun u => clsF n dist t u (kno n t)) = base
    have hbl : base.length ≤ 64 := by
      have := flat_le (f := fun u => clsF n dist t u (kno n t)) (k := 8) (fun u => by have := clsF_len (n := n) (dist := dist) (t := t) (u := u) (ws := kno n t); omega) ((kno n t).take pre.length)
      rw [hbase, List.length_take] at this
      omega
    refine wp_for (ds := (kno n t).map nD) (fun pre' ρ => ∃ (a6 a7 : A), ρ = [.d (gD n E), .d (tD n t), .d (.lst ((kno n t).map nD)), .m ((base ++ clsF n dist t u ((kno n t).take pre'.length)).map eD), .d (nD u), .d (.lst (row n fun v => nD (dist u v))), a6, a7, .un, .un]) (by simp [mItemsA]) ⟨_, _, by simp [clsF]; exact ⟨rfl, rfl⟩⟩ ?_ ?_
    · rintro pre' d' r' ρ e' ⟨a6, a7, rfl⟩
      obtain ⟨w, rfl, hget', _⟩ := split_map e'
      obtain ⟨hw, y, hy⟩ := mem_kno.mp (List.mem_of_getElem? hget')
      refine ⟨_, rfl, fun Q'' hQ'' => ?_⟩
      walk_at "st"
      have tu := tD_get hu hx
      have tw := tD_get hw hy
      have dw : oIx (.lst (row n fun v => nD (dist u v))) (nD w) = .ok (nD (dist u w)) := oIx_lst (row_get hw)
      refine wp_stp (mSet_ok (d := .int (ab (x - y))) (by simp only [mCall_eq, mCons_eq, mNil_eq, mBin_eq, mB_eq, List.getElem?_cons_succ, List.getElem?_cons_zero, bw_d, R.bind_ok, tu, tw, oSub_int, fAbs_int]; rfl)) ?_
      walk_at "st"
      have etake : clsF n dist t u ((kno n t).take (pre'.length + 1)) = clsF n dist t u ((kno n t).take pre'.length) ++ (if (decide (u < w) && badB dist t u w) = true then [(u, w)] else []) := by
        unfold clsF
        rw [List.take_add_one, hget', List.filter_append, List.map_append]
        congr 1
        simp only [Option.toList_some, List.filter_cons, List.filter_nil]
        split <;> simp
      have hb : badB dist t u w = (decide ((dist u w : Int) < ab (x - y)) || decide ((ab (x - y) - (dist u w : Int)) % 2 ≠ 0)) := by unfold badB; rw [hx, hy]; rfl
      have hcl := clsF_len (n := n) (dist := dist) (t := t) (u := u) (ws := (kno n t).take pre'.length)
      rw [List.length_take] at hcl
      refine wp_if (b := decide ((u : Int) < w) && (decide ((dist u w : Int) < ab (x - y)) || decide ((ab (x - y) - (dist u w : Int)) % 2 ≠ 0)))
        (mAnd_ok (by simp only [mT_eq, mBin_eq, mB_eq, List.getElem?_cons_succ, List.getElem?_cons_zero, bw_d, R.bind_ok, oLt_int, boolOf_bl]) fun _ => mOr_ok (by simp only [mT_eq, mBin_eq, mB_eq, List.getElem?_cons_succ, List.getElem?_cons_zero, bw_d, R.bind_ok, dw, oGt_int, boolOf_bl]) fun _ => by simp only [mT_eq, mBin_eq, mB_eq, mC_eq, List.getElem?_cons_succ, List.getElem?_cons_zero, bw_d, R.bind_ok, dw, oSub_int, oMod_int (show (0 : Int) < 2 by omega), oNe_int, boolOf_bl]) (fun hc => ?_) (fun hc => ?_)
      · have hc' : (decide (u < w) && badB dist t u w) = true := by
          rw [hb]
          rw [Bool.and_eq_true, decide_eq_true_eq] at hc ⊢
          exact ⟨by omega, hc.2⟩
        refine wp_end (mApp_ok (xs := (base ++ clsF n dist t u ((kno n t).take pre'.length)).map eD) (d := eD (u, w)) rfl (by rw [mTup_ok (ds := [nD u, nD w]) (by simp) (by simp)]; rfl) (by simp; omega)) (hQ'' _ ⟨.d (nD w), .d (.int (ab (x - y))), ?_⟩)
        walk_at "st"
        rw [List.length_append, List.length_singleton, etake, if_pos hc']
        simp only [List.map_append, List.map_cons, List.map_nil, List.append_assoc]
      · have hc' : ¬ (decide (u < w) && badB dist t u w) = true := by
          rw [hb]
          intro z
          rw [Bool.and_eq_true, decide_eq_true_eq] at z
          have : (decide ((u : Int) < w) && (decide ((dist u w : Int) < ab (x - y)) || decide ((ab (x - y) - (dist u w : Int)) % 2 ≠ 0))) = true := by
            rw [Bool.and_eq_true, decide_eq_true_eq]
            exact ⟨by omega, z.2⟩
          rw [hc] at this
          cases this
        rw [mSkip_eq, wp_ok]
        refine hQ'' _ ⟨.d (nD w), .d (.int (ab (x - y))), ?_⟩
        rw [List.length_append, List.length_singleton, etake, if_neg hc', List.append_nil]
    · rintro ρ ⟨a6, a7, rfl⟩
      refine hQ' _ ⟨.d (nD u), .d (.lst (row n fun v => nD (dist u v))), a6, a7, ?_⟩
      rw [List.length_append, List.length_singleton, List.take_add_one, hget, List.flatMap_append, hbase, List.length_map, List.take_length]
      simp
  · rintro ρ ⟨a4, a5, a6, a7, rfl⟩
    rw [thn_nx, List.length_map, List.take_length]
    exact wp_end (mRetN_m rfl) hQ
theorem odd_walk_iff (G : GOk n E) (DD : DistOk n E dist) (hd : ∀ s, s < n → g_distances [gD n E, nD s] = .ok (.lst (row n fun v => nD (dist s v)))) : (Bip E (dist 0) → g_odd_walk [gD n E] = .ok .non) ∧ (¬ Bip E (dist 0) → ∃ p, g_odd_walk [gD n E] = .ok (.tup p)) := by
  rcases odd_walk_ok G DD hd (fun _ => none) with ⟨b, h⟩ | ⟨p, P, h⟩
  · exact ⟨fun _ => h, fun z => absurd b z⟩
  · refine ⟨fun b => ?_, fun _ => ⟨_, h⟩⟩
    exfalso
    obtain ⟨pth, _, _, ok⟩ := P
    rcases ok with ⟨_, s, h1, h2, h3⟩ | ⟨s, g, x, y, _, _, hx, _⟩
    · cases p with
      | nil => exact pth
      | cons u p =>
        simp at h1
        subst h1
        have := b.walk (pth.wlk h2)
        simp at h3
        omega
    · cases hx
end
end VL

/-! M19: what are no heights. -/
namespace VL
open PySem PySem.Spec PyProof.Rows L2
local macro_rules | `(tactic| walk_at "go") => `(tactic| simp only [List.map, List.length_cons, List.length_nil, List.replicate, List.cons_append, List.nil_append, Nat.reduceAdd, Nat.reduceSub, Nat.add_zero, Nat.zero_add])
local macro_rules | `(tactic| walk_at "st") => `(tactic| simp only [List.set_cons_zero, List.set_cons_succ])
section
variable {n : Nat} {E : List Ed} {t : Nat → Option Int} {f g : Nat → Int}
theorem fm_ne {α β : Type} {l : List α} {g : α → Option β} {x : α} {y : β} (hx : x ∈ l) (hy : g x = some y) : l.filterMap g ≠ [] := fun z => by
  have : y ∈ l.filterMap g := List.mem_filterMap.mpr ⟨x, hx, hy⟩
  rw [z] at this
  cases this
def misT (t : Nat → Option Int) (f : Nat → Int) (v : Nat) : Bool := match t v with
  | some x => decide (x ≠ f v)
  | none => false
theorem fit_no (G : GOk n E) (H : ¬ HF n E t f) : g_fit [gD n E, tD n t, hR n f] = .ok (.bl false) := by
  have g1 := gD1 n E
  have hle := G.le
  have hfew := G.few
  refine run_of fun Q hQ => ?_
  walk_at "go"
  unfold m_fit
  have h1 : mLc [3, 4] (mIter fZip (mCons (mV 1) (mCons (mV 2) mNil))) (tTuple 2 (tsCons (tName 3) (tsCons (tName 4) tsNil))) (mAnd (mTest false (mB 3)) (mT (mBin oNe (mB 3) (mB 4)))) (mC (.int 1)) [A.d (gD n E), A.d (tD n t), A.d (hR n f), A.un, A.un, A.un] = .ok (.lst ((List.range n).filterMap fun v => if misT t f v = true then some (.int 1) else none)) := by
    refine mLc_of (List.range n) (fun v => .tup [oD (t v), .int (f v)]) _ ?_ (by simp; omega) fun v hv => ?_
    · simp only [mIter_eq, mCons_eq, mV_eq, mNil_eq, List.getElem?_cons_succ, List.getElem?_cons_zero, vw_d, R.bind_ok, hR_eq]
      exact congrArg R.ok zip_row
    · unfold misT
      cases q : t v with
      | none =>
        refine lcf_f tTuple2_eq ?_
        rw [mAnd_ok (a := false) (b := false) (by simp [wipeR, oD]) (fun z => by cases z)]
        rfl
      | some x =>
        simp only
        rw [lcf_ok (b := true && decide (x ≠ f v)) (y := .int 1) tTuple2_eq (mAnd_ok (by simp [wipeR, oD]) fun _ => by simp [wipeR, oD]) (fun _ => rfl), Bool.true_and]
  by_cases hm : ∃ v, v < n ∧ misT t f v = true
  · obtain ⟨v, hv, hmv⟩ := hm
    have hne := fm_ne (g := fun v => if misT t f v = true then some (D.int 1) else none) (List.mem_range.mpr hv) (show (if misT t f v = true then some (D.int 1) else none) = some (.int 1) by rw [if_pos hmv])
    refine wp_seq_if (b := true) (by rw [mTru_eq, h1]; simp only [R.bind_ok, tru_lst]; congr 1; rw [Bool.not_eq_true', List.isEmpty_eq_false_iff]; exact hne) (fun _ => ?_) (fun z => by cases z)
    exact wp_end (mRet_ok (d := .bl false) rfl) hQ
  · have hmis : ∀ v, v < n → misT t f v = false := fun v hv => by
      cases q : misT t f v with
      | false => rfl
      | true => exact absurd ⟨v, hv, q⟩ hm
    have h0 : ((List.range n).filterMap fun v => if misT t f v = true then some (D.int 1) else none) = [] := by
      rw [List.filterMap_eq_nil_iff]
      intro v hv
      rw [hmis v (List.mem_range.mp hv)]
      rfl
    refine wp_seq_if (b := false) (by rw [mTru_eq, h1, h0]; rfl) (fun z => by cases z) (fun _ => ?_)
    rw [mSkip_eq, wp_ok, thn_nx]
    have hT : Tld n t f := fun v x hv hx => by
      have := hmis v hv
      unfold misT at this
      rw [hx] at this
      have := of_decide_eq_false this
      omega
    have hS : ¬ Stp E f := fun s => H ⟨s, hT⟩
    have h2 : mLc [5] (mItemsA (mBin oIx (mB 0) (mC (.int 1)))) (tName 5) (mT (mBin oNe (mCall fAbs (mCons (mBin oSub (mBin oIx (mB 2) (mBin oIx (mB 5) (mC (.int 0)))) (mBin oIx (mB 2) (mBin oIx (mB 5) (mC (.int 1))))) mNil)) (mC (.int 1)))) (mV 5) [A.d (gD n E), A.d (tD n t), A.d (hR n f), A.un, A.un, A.un] = .ok (.lst (E.filterMap fun e => if ab (f e.1 - f e.2) ≠ 1 then some (eD e) else none)) := by
      refine mLc_of E eD _ (by simp [g1, mItemsA]) (by omega) fun e he => ?_
      have hl := G.ed e he
      have a1 : oIx (hR n f) (nD e.1) = .ok (.int (f e.1)) := hR_get (by omega)
      have a2 : oIx (hR n f) (nD e.2) = .ok (.int (f e.2)) := hR_get (by omega)
      have ev : ∀ b, decide (ab (f e.1 - f e.2) ≠ 1) = b → (mT (mBin oNe (mCall fAbs (mCons (mBin oSub (mBin oIx (mB 2) (mBin oIx (mB 5) (mC (.int 0)))) (mBin oIx (mB 2) (mBin oIx (mB 5) (mC (.int 1))))) mNil)) (mC (.int 1)))) [A.d (gD n E), A.d (tD n t), A.d (hR n f), A.un, A.un, A.d (eD e)] = .ok b := fun b hb => by
        simp only [mT_eq, mBin_eq, mCall_eq, mCons_eq, mNil_eq, mB_eq, mC_eq, List.getElem?_cons_succ, List.getElem?_cons_zero, bw_d, R.bind_ok, eD0, eD1, a1, a2, oSub_int, fAbs_int, oNe_int, boolOf_bl]
        exact congrArg R.ok hb
      by_cases c : ab (f e.1 - f e.2) ≠ 1
      · rw [if_pos c]
        exact lcf_t tName_eq (ev true (decide_eq_true c)) rfl
      · rw [if_neg c]
        exact lcf_f tName_eq (ev false (decide_eq_false c))
    have hne : (E.filterMap fun e => if ab (f e.1 - f e.2) ≠ 1 then some (eD e) else none) ≠ [] := fun z => hS fun e he => by
      rw [List.filterMap_eq_nil_iff] at z
      have := z e he
      by_cases c : ab (f e.1 - f e.2) ≠ 1
      · rw [if_pos c] at this; cases this
      · have c : ab (f e.1 - f e.2) = 1 := by omega
        exact ab_one.mp c
    refine wp_end (mRet_ok (d := .bl false) ?_) hQ
    rw [mNotT_eq, h2]
    simp only [R.bind_ok, tru_lst]
    congr 2
    rw [Bool.not_not, List.isEmpty_eq_false_iff]
    exact hne
/-- whatever is no tuple of n things -/
theorem are_not_shape (G : GOk n E) (T : TOk n t) {d : D} (h : isT "tuple" d = .ok (.bl false) ∨ ∃ xs, d = .tup xs ∧ xs.length ≠ n) : g_are_heights [gD n E, tD n t, d] = .ok (.bl false) := by
  have g0 := gD0 n E
  refine run_of fun Q hQ => ?_
  walk_at "go"
  unfold m_are_heights
  refine wp_stp (mExpr_ok (d := .non) (by simp [check_told_ok G T])) ?_
  refine wp_seq_if (b := true) ?_ (fun _ => wp_end (mRet_ok (d := .bl false) rfl) hQ) (fun z => by cases z)
  rcases h with h | ⟨xs, rfl, h⟩
  · exact mOr_ok (a := true) (b := false) (by simp [h]) fun z => by cases z
  · refine mOr_ok (a := false) (b := true) (by simp) fun _ => ?_
    simp [g0]
    omega
/-- a tuple of n things with one that is no height -/
theorem are_not_item (G : GOk n E) (T : TOk n t) {F : Nat → D} (hF : ∀ v, v < n → ∃ b, g_in_range [F v, .int (-99), .int 99] = .ok (.bl b)) (hb : ∃ v, v < n ∧ g_in_range [F v, .int (-99), .int 99] = .ok (.bl false)) : g_are_heights [gD n E, tD n t, .tup (row n F)] = .ok (.bl false) := by
  have g0 := gD0 n E
  have hle := G.le
  refine run_of fun Q hQ => ?_
  walk_at "go"
  unfold m_are_heights
  refine wp_stp (mExpr_ok (d := .non) (by simp [check_told_ok G T])) ?_
  refine wp_seq_if (b := false || false) (mOr_ok (by simp) fun _ => by simp [g0, row_len]) (fun z => by cases z) (fun _ => ?_)
  rw [mSkip_eq, wp_ok, thn_nx]
  refine wp_seq_if (b := true) ?_ (fun _ => wp_end (mRet_ok (d := .bl false) rfl) hQ) (fun z => by cases z)
  have h1 : mLc [3] (mItemsA (mV 2)) (tName 3) (mNot (mTru (mFn 3 g_in_range (mCons (mV 3) (mCons (mNeg (mC (.int 99))) (mCons (mC (.int 99)) mNil)))))) (mV 3) [A.d (gD n E), A.d (tD n t), A.d (.tup (row n F)), A.un] = .ok (.lst ((List.range n).filterMap fun v => match g_in_range [F v, .int (-99), .int 99] with
    | .ok (.bl false) => some (F v)
    | _ => none)) := by
    refine mLc_of (List.range n) F _ (by simp [mItemsA]; rfl) (by simp; omega) fun v hv => ?_
    obtain ⟨b, hb⟩ := hF v (List.mem_range.mp hv)
    rw [hb]
    cases b with
    | true => exact lcf_f tName_eq (by simp [wipeR, mNeg_eq (ma := mC (.int 99)) (i := 99) rfl, hb])
    | false => exact lcf_t tName_eq (by simp [wipeR, mNeg_eq (ma := mC (.int 99)) (i := 99) rfl, hb]) rfl
  obtain ⟨v, hv, hbv⟩ := hb
  rw [mTru_eq, h1]
  simp only [R.bind_ok, tru_lst]
  congr 1
  rw [Bool.not_eq_true', List.isEmpty_eq_false_iff]
  exact fm_ne (y := F v) (List.mem_range.mpr hv) (by rw [hbv])
/-- a tuple of n heights that do not fit -/
theorem are_not_fit (G : GOk n E) (T : TOk n t) (hr : ∀ v, v < n → -99 ≤ f v ∧ f v ≤ 99) (H : ¬ HF n E t f) : g_are_heights [gD n E, tD n t, hR n f] = .ok (.bl false) := by
  have g0 := gD0 n E
  have hle := G.le
  refine run_of fun Q hQ => ?_
  walk_at "go"
  unfold m_are_heights
  refine wp_stp (mExpr_ok (d := .non) (by simp [check_told_ok G T])) ?_
  refine wp_seq_if (b := false || false) (mOr_ok (by simp [hR_eq]) fun _ => by simp [hR_eq, g0, row_len]) (fun z => by cases z) (fun _ => ?_)
  rw [mSkip_eq, wp_ok, thn_nx]
  refine wp_seq_if (b := false) ?_ (fun z => by cases z) (fun _ => ?_)
  · rw [mTru_eq, mLc_of (List.range n) (fun v => .int (f v)) (fun _ => none) ?_ (by simp; omega) fun v hv => ?_]
    · simp
    · simp only [mItemsA, mV_eq, List.getElem?_cons_succ, List.getElem?_cons_zero, vw_d, R.bind_ok, hR_eq]
      rfl
    · have := hr v (List.mem_range.mp hv)
      refine lcf_f tName_eq ?_
      simp [wipeR, in_range_int, mNeg_eq (ma := mC (.int 99)) (i := 99) rfl]
      omega
  rw [mSkip_eq, wp_ok, thn_nx]
  exact wp_end (mRet_ok (d := .bl false) (by simp [fit_no G H])) hQ
theorem check_heights_bad {d : D} (h : g_are_heights [gD n E, tD n t, d] = .ok (.bl false)) : g_check_heights [gD n E, tD n t, d] = .ex "InvalidHeights" := by
  refine run_raise ?_
  walk_at "go"
  unfold m_check_heights
  rw [mIfS_t (by simp [h])]
  rfl
/-! ### meets and joins -/
theorem meet_ok (G : GOk n E) (T : TOk n t) (Hf : HF n E t f) (Hg : HF n E t g) : g_meet [gD n E, tD n t, hR n f, hR n g] = .ok (hR n fun v => min (f v) (g v)) := by
  have hle := G.le
  refine run_of fun Q hQ => ?_
  walk_at "go"
  unfold m_meet
  refine wp_stp (mExpr_ok (d := .non) (by simp [check_heights_ok G T Hf])) ?_
  refine wp_stp (mExpr_ok (d := .non) (by simp [check_heights_ok G T Hg])) ?_
  refine wp_end (mRet_ok ?_) hQ
  rw [mCall_eq, mCons_eq, mLc_of (List.range n) (fun v => .tup [.int (f v), .int (g v)]) (fun v => some (.int (min (f v) (g v)))) ?_ (by simp; omega) fun v hv => ?_]
  · rw [List.filterMap_eq_map']
    simp only [mNil_eq, R.bind_ok, fTuple_lst]
    rw [hR_eq]
    rfl
  · simp only [mIter_eq, mCons_eq, mV_eq, mNil_eq, List.getElem?_cons_succ, List.getElem?_cons_zero, vw_d, R.bind_ok, hR_eq]
    exact congrArg R.ok zip_row
  · refine lcf_t tTuple2_eq rfl ?_
    simp [wipeR]
    split <;> omega
theorem join_ok (G : GOk n E) (T : TOk n t) (Hf : HF n E t f) (Hg : HF n E t g) : g_join [gD n E, tD n t, hR n f, hR n g] = .ok (hR n fun v => max (f v) (g v)) := by
  have hle := G.le
  refine run_of fun Q hQ => ?_
  walk_at "go"
  unfold m_join
  refine wp_stp (mExpr_ok (d := .non) (by simp [check_heights_ok G T Hf])) ?_
  refine wp_stp (mExpr_ok (d := .non) (by simp [check_heights_ok G T Hg])) ?_
  refine wp_end (mRet_ok ?_) hQ
  rw [mCall_eq, mCons_eq, mLc_of (List.range n) (fun v => .tup [.int (f v), .int (g v)]) (fun v => some (.int (max (f v) (g v)))) ?_ (by simp; omega) fun v hv => ?_]
  · rw [List.filterMap_eq_map']
    simp only [mNil_eq, R.bind_ok, fTuple_lst]
    rw [hR_eq]
    rfl
  · simp only [mIter_eq, mCons_eq, mV_eq, mNil_eq, List.getElem?_cons_succ, List.getElem?_cons_zero, vw_d, R.bind_ok, hR_eq]
    exact congrArg R.ok zip_row
  · refine lcf_t tTuple2_eq rfl ?_
    simp [wipeR]
    split <;> omega
end
end VL

/-! M20: papers checked, whatever they are. -/
namespace VL
open PySem PySem.Spec PyProof.Rows L2
local macro_rules | `(tactic| walk_at "go") => `(tactic| simp only [List.map, List.length_cons, List.length_nil, List.replicate, List.cons_append, List.nil_append, Nat.reduceAdd, Nat.reduceSub, Nat.add_zero, Nat.zero_add])
local macro_rules | `(tactic| walk_at "st") => `(tactic| simp only [List.set_cons_zero, List.set_cons_succ])
section
variable {n : Nat} {E : List Ed} {t : Nat → Option Int}
theorem pth_of : ∀ {p : List Nat}, p ≠ [] → (∀ i u w, p[i]? = some u → p[i + 1]? = some w → Adj E u w) → Pth E p
  | [], h, _ => absurd rfl h
  | [_], _, _ => trivial
  | u :: v :: r, _, h => ⟨h 0 u v rfl rfl, pth_of (p := v :: r) (by simp) fun i a b ha hb => h (i + 1) a b (by simpa using ha) (by simpa using hb)⟩
open Classical in
theorem not_pth {p : List Nat} (hne : p ≠ []) (h : ¬ Pth E p) : ∃ i u w, p[i]? = some u ∧ p[i + 1]? = some w ∧ ¬ Adj E u w := by
  by_cases c : ∃ i u w, p[i]? = some u ∧ p[i + 1]? = some w ∧ ¬ Adj E u w
  · exact c
  · exact absurd (pth_of hne fun i u w hu hw => Classical.byContradiction fun z => c ⟨i, u, w, hu, hw, z⟩) h
theorem is_walk_no (G : GOk n E) {p : List Nat} (h100 : p.length ≤ 200) (h : ¬ (Pth E p ∧ ∀ v ∈ p, v < n)) : g_is_walk [gD n E, .tup (p.map nD)] = .ok (.bl false) := by
  have g0 := gD0 n E
  refine run_of fun Q hQ => ?_
  walk_at "go"
  unfold m_is_walk
  by_cases hne : p = []
  · refine wp_seq_if (b := true) (mOr_ok (a := false) (b := true) (by simp) fun _ => by simp [hne]) (fun _ => ?_) (fun z => by cases z)
    exact wp_end (mRet_ok (d := .bl false) rfl) hQ
  · refine wp_seq_if (b := false) (mOr_ok (a := false) (b := false) (by simp) fun _ => by simp [hne]) (fun z => by cases z) (fun _ => ?_)
    rw [mSkip_eq, wp_ok, thn_nx]
    have h1 : mLc [2] (mItemsA (mV 1)) (tName 2) (mNot (mTru (mFn 3 g_in_range (mCons (mV 2) (mCons (mC (.int 0)) (mCons (mBin oSub (mBin oIx (mB 0) (mC (.int 0))) (mC (.int 1))) mNil)))))) (mV 2) [A.d (gD n E), A.d (.tup (p.map nD)), A.un, A.un, A.un] = .ok (.lst (p.filterMap fun v => if v < n then none else some (nD v))) := by
      refine mLc_of p nD _ (by simp [mItemsA]) (by omega) fun v hv => ?_
      by_cases c : v < n
      · rw [if_pos c]
        refine lcf_f tName_eq ?_
        simp [wipeR, g0, in_range_int]
        omega
      · rw [if_neg c]
        refine lcf_t tName_eq ?_ rfl
        simp [wipeR, g0, in_range_int]
        omega
    by_cases hlt : ∀ v ∈ p, v < n
    · have h0 : (p.filterMap fun v => if v < n then none else some (nD v)) = [] := by
        rw [List.filterMap_eq_nil_iff]
        intro v hv
        rw [if_pos (hlt v hv)]
      refine wp_seq_if (b := false) (by rw [mTru_eq, h1, h0]; rfl) (fun z => by cases z) (fun _ => ?_)
      rw [mSkip_eq, wp_ok, thn_nx]
      obtain ⟨i, u, w, hu, hw, hna⟩ := not_pth hne fun z => h ⟨z, hlt⟩
      refine wp_end (mRet_ok (d := .bl false) ?_) hQ
      have hz : (mIter fZip (mCons (mV 1) (mCons (mSl (mB 1) (mPart (mC (.int 1))) mNoPart) mNil))) [A.d (gD n E), A.d (.tup (p.map nD)), A.un, A.un, A.un] = .ok (zipD (p.map nD) ((p.map nD).drop 1)) := by
        simp only [mIter_eq, mCons_eq, mV_eq, mB_eq, mNil_eq, mSl_eq, mPart_ok (ma := mC (.int 1)) (i := 1) rfl, mNoPart_eq, List.getElem?_cons_zero, List.getElem?_cons_succ, vw_d, bw_d, R.bind_ok, oSl_from1]
        rfl
      have notin : ∀ (a b : Nat) (q : Bool), (q = true ↔ ¬ Adj E a b) → oNotIn (nD b) (.lst ((nbs E a).map nD)) = .ok (.bl q) := fun a b q hq => oNotIn_lst (k := 0) (by simp [pln]) (plns_nDs _) (by omega) (by rw [hq, mem_nDs, mem_nbs G])
      open Classical in
      have h2 : lcGo (lcf (tTuple 2 (tsCons (tName 3) (tsCons (tName 4) tsNil))) (mT (mBin oNotIn (mB 4) (mFn 2 g_neighbors (mCons (mV 0) (mCons (mV 3) mNil))))) (mC (.int 1)) (wipeR [A.d (gD n E), A.d (.tup (p.map nD)), A.un, A.un, A.un] [3, 4])) (zipD (p.map nD) ((p.map nD).drop 1)) = .ok ((zipD (p.map nD) ((p.map nD).drop 1)).filterMap fun d => match d with
        | .tup [.int a, .int b] => if Adj E a.toNat b.toNat then none else some (D.int 1)
        | _ => none) := by
        refine lcGo_ok fun d hd => ?_
        obtain ⟨j, x, y, hx, hy, rfl⟩ := zipD_mem hd
        rw [List.getElem?_map] at hx
        rw [List.getElem?_drop, List.getElem?_map] at hy
        cases hx' : p[j]? with
        | none => rw [hx'] at hx; cases hx
        | some a =>
          cases hy' : p[1 + j]? with
          | none => rw [hy'] at hy; cases hy
          | some b =>
            rw [hx'] at hx
            rw [hy'] at hy
            cases hx
            cases hy
            simp only [Int.toNat_natCast]
            by_cases c : Adj E a b
            · rw [if_pos c]
              refine lcf_f tTuple2_eq ?_
              simp [wipeR, neighbors_ok G a, notin a b false ⟨fun z => absurd z Bool.false_ne_true, fun z => absurd c z⟩]
            · rw [if_neg c]
              refine lcf_t tTuple2_eq ?_ rfl
              simp [wipeR, neighbors_ok G a, notin a b true ⟨fun _ => c, fun _ => rfl⟩]
      have hlen : (zipD (p.map nD) ((p.map nD).drop 1)).length ≤ 1000000 := by rw [zipD_len]; simp; omega
      rw [mNotT_eq]
      unfold mLc
      rw [hz, R.bind_ok, h2]
      simp only
      rw [if_pos (Nat.le_trans (List.length_filterMap_le _ _) hlen)]
      simp only [R.bind_ok, tru_lst]
      congr 2
      rw [Bool.not_not, List.isEmpty_eq_false_iff]
      have hm : D.tup [nD u, nD w] ∈ zipD (p.map nD) ((p.map nD).drop 1) := List.mem_of_getElem? (zipD_get (i := i) (by rw [List.getElem?_map, hu]; rfl) (by rw [List.getElem?_drop, List.getElem?_map, Nat.add_comm, hw]; rfl))
      exact fm_ne hm (y := .int 1) (by simp only [Int.toNat_natCast]; rw [if_neg hna])
    · obtain ⟨v, hv, hvn⟩ : ∃ v, v ∈ p ∧ ¬ v < n := by
        have := Classical.not_forall.mp hlt
        obtain ⟨v, hv⟩ := this
        have := Classical.not_imp.mp hv
        exact ⟨v, this.1, this.2⟩
      refine wp_seq_if (b := true) (by
        rw [mTru_eq, h1]
        simp only [R.bind_ok, tru_lst]
        congr 1
        rw [Bool.not_eq_true', List.isEmpty_eq_false_iff]
        exact fm_ne hv (y := nD v) (by rw [if_neg hvn])) (fun _ => ?_) (fun z => by cases z)
      exact wp_end (mRet_ok (d := .bl false) rfl) hQ
end
end VL

/-! M21: is_paper and the law's own agree, whatever they are asked. -/
namespace VL
open PySem PySem.Spec PyProof.Rows L2
local macro_rules | `(tactic| walk_at "go") => `(tactic| simp only [List.map, List.length_cons, List.length_nil, List.replicate, List.cons_append, List.nil_append, Nat.reduceAdd, Nat.reduceSub, Nat.add_zero, Nat.zero_add])
local macro_rules | `(tactic| walk_at "st") => `(tactic| simp only [List.set_cons_zero, List.set_cons_succ])
section
variable {n : Nat} {E : List Ed} {t : Nat → Option Int}
def kdD : Option Str → D
  | none => .non
  | some s => .str s
theorem kdD_iff {k : Option Str} {s : Str} : kdD k = .str s ↔ k = some s := by cases k <;> simp [kdD]
def kdOk (k : Option Str) : Prop := k = none ∨ k = some ("odd" : Str) ∨ k = some ("far" : Str) ∨ k = some ("parity" : Str) ∨ k = some ("even" : Str)
/-- what a paper of that kind with that walk is worth -/
def papB (t : Nat → Option Int) (k : Option Str) (p : List Nat) (s g : Nat) : Bool :=
  if k = some ("odd" : Str) then decide (s = g) && decide (((p.length : Int) - 1) % 2 ≠ 0)
  else match t s, t g with
    | some x, some y => if k = some ("far" : Str) then decide ((p.length : Int) - 1 < ab (x - y)) else if k = some ("parity" : Str) then decide ((((p.length : Int) - 1) - ab (x - y)) % 2 ≠ 0) else false
    | _, _ => false
theorem pln_kd {k : Option Str} (h : kdOk k) : pln 0 (kdD k) = true := by
  rcases h with rfl | rfl | rfl | rfl | rfl <;> simp only [kdD, pln] <;> decide +kernel
theorem kd_eq {k : Option Str} (h : kdOk k) {s : Str} (hs : s = "odd" ∨ s = "far") : oEq (kdD k) (.str s) = .ok (.bl (decide (k = some s))) :=
  oEq_ok (k := 0) (pln_kd h) (by rcases hs with rfl | rfl <;> simp only [pln] <;> decide +kernel) (by omega) (by rw [decide_eq_true_eq, kdD_iff])
theorem kd_notIn {k : Option Str} (h : kdOk k) : oNotIn (kdD k) (.tup [.str "far", .str "parity"]) = .ok (.bl (decide (k ≠ some ("far" : Str) ∧ k ≠ some ("parity" : Str)))) :=
  oNotIn_tup (pln_kd h) (by simp only [plns, pln]; decide +kernel) (by rw [decide_eq_true_eq]; simp [kdD_iff])
theorem is_paper_walk (G : GOk n E) (T : TOk n t) {kd : Option Str} (hk : kdOk kd) {p : List Nat} (pth : Pth E p) (lt : ∀ v ∈ p, v < n) (few : p.length ≤ 100) {s g : Nat} (h1 : p.head? = some s) (h2 : p.getLast? = some g) :
    g_is_paper [gD n E, tD n t, .tup [kdD kd, .tup (p.map nD)]] = .ok (.bl (papB t kd p s g)) := by
  have g0 := gD0 n E
  have hs : s < n := lt s (List.mem_of_head? h1)
  have hg : g < n := lt g (List.mem_of_getLast? h2)
  have ts := tD_get' (t := t) hs
  have tg := tD_get' (t := t) hg
  refine run_of fun Q hQ => ?_
  walk_at "go"
  unfold m_is_paper
  refine wp_stp (mExpr_ok (d := .non) (by simp [check_told_ok G T])) ?_
  refine wp_seq_if (b := false || (false || false)) (mOr_ok (by simp) fun _ => mOr_ok (by simp) fun _ => by simp [is_walk_ok G pth lt few]) (fun z => by cases z) (fun _ => ?_)
  rw [mSkip_eq, wp_ok, thn_nx]
  refine wp_stp (mSet_ok (d := .int ((p.length : Int) - 1)) (by simp)) ?_
  walk_at "st"
  refine wp_stp (mPar2_ok (d := nD s) (e := nD g) (by simp only [mCons_eq, mBin_eq, mB_eq, mC_eq, mNil_eq, neg1, List.getElem?_cons_succ, List.getElem?_cons_zero, bw_d, R.bind_ok, oIx_tup1, head_ix h1, last_ix h2])) ?_
  walk_at "st"
  refine wp_seq_if (b := decide (kd = some ("odd" : Str))) (by simp [kd_eq hk (.inl rfl)]) (fun z => ?_) (fun z => ?_)
  · have z := of_decide_eq_true z
    refine wp_end (mRet_ok (d := .bl (papB t kd p s g)) ?_) hQ
    rw [mAndV_ok (a := decide (s = g)) (b := decide (((p.length : Int) - 1) % 2 ≠ 0)) (by simp; omega) fun _ => by simp [oMod_int]]
    unfold papB
    rw [if_pos z]
  · have z := of_decide_eq_false z
    rw [mSkip_eq, wp_ok, thn_nx]
    refine wp_seq_if (b := decide (kd ≠ some ("far" : Str) ∧ kd ≠ some ("parity" : Str)) || ((t s).isNone || (t g).isNone)) (mOr_ok ?_ fun _ => mOr_ok (by simp [ts, isNon_oD]) fun _ => by simp [tg, isNon_oD]) (fun y => ?_) (fun y => ?_)
    · rw [mT_eq, mBin_eq, mTup_ok (ds := [.str "far", .str "parity"]) (by simp) (by simp)]
      simp [kd_notIn hk]
    · refine wp_end (mRet_ok (d := .bl (papB t kd p s g)) ?_) hQ
      unfold papB
      rw [if_neg z]
      cases hs : t s <;> cases hg : t g <;> simp [hs, hg] at y ⊢
      simp [y]
    · cases hx : t s with
      | none => simp [hx] at y
      | some x =>
        cases hy : t g with
        | none => simp [hx, hy] at y
        | some y' =>
          have ts := tD_get hs hx
          have tg := tD_get hg hy
          rw [mSkip_eq, wp_ok, thn_nx]
          refine wp_stp (mSet_ok (d := .int (ab (x - y'))) (by simp only [mCall_eq, mCons_eq, mNil_eq, mBin_eq, mB_eq, List.getElem?_cons_succ, List.getElem?_cons_zero, bw_d, R.bind_ok, ts, tg, oSub_int, fAbs_int]; rfl)) ?_
          walk_at "st"
          refine wp_end (mRet_ok (d := .bl (papB t kd p s g)) ?_) hQ
          unfold papB
          rw [if_neg z, hx, hy]
          simp only
          by_cases c : kd = some ("far" : Str)
          · rw [mIf_t (by simp only [mT_eq, mBin_eq, mB_eq, mC_eq, List.getElem?_cons_succ, List.getElem?_cons_zero, bw_d, R.bind_ok, oIx_tup0, kd_eq hk (.inr rfl), decide_eq_true c, boolOf_bl]), if_pos c]
            simp
          · have c' : kd = some ("parity" : Str) := by
              simp [hx, hy] at y
              exact y c
            rw [mIf_f (by simp only [mT_eq, mBin_eq, mB_eq, mC_eq, List.getElem?_cons_succ, List.getElem?_cons_zero, bw_d, R.bind_ok, oIx_tup0, kd_eq hk (.inr rfl), decide_eq_false c, boolOf_bl]), if_neg c, if_pos c']
            simp [oMod_int]
theorem out_fm (n : Nat) : ∀ p : List Nat, (p.filter fun v => decide (n ≤ v)).map nD = p.filterMap fun v => if v < n then none else some (nD v)
  | [] => rfl
  | a :: l => by
    have ih := out_fm n l
    by_cases c : a < n
    · rw [List.filter_cons_of_neg (by simp; omega), List.filterMap_cons_none (by rw [if_pos c]), ih]
    · rw [List.filter_cons_of_pos (by simp; omega), List.filterMap_cons_some (b := nD a) (by rw [if_neg c]), List.map_cons, ih]
theorem plp_ (p : List Nat) : pln 1 (.tup (p.map nD)) = true := by simpa [pln] using plns_nDs p
theorem law_is_paper_walk (G : GOk n E) {kd : Option Str} (hk : kdOk kd) {p : List Nat} (pth : Pth E p) (lt : ∀ v ∈ p, v < n) (few : p.length ≤ 100) {s g : Nat} (h1 : p.head? = some s) (h2 : p.getLast? = some g) :
    g__law_is_paper [gD n E, tD n t, .tup [kdD kd, .tup (p.map nD)]] = .ok (.bl (papB t kd p s g)) := by
  have g0 := gD0 n E
  have hne := pth_ne pth
  have hs : s < n := lt s (List.mem_of_head? h1)
  have hg : g < n := lt g (List.mem_of_getLast? h2)
  have ts := tD_get' (t := t) hs
  have tg := tD_get' (t := t) hg
  refine run_of fun Q hQ => ?_
  walk_at "go"
  unfold m__law_is_paper
  refine wp_seq_if (b := false || (false || (false || false))) (mOr_ok (by simp) fun _ => mOr_ok (by simp) fun _ => mOr_ok (by simp) fun _ => ?_) (fun z => by cases z) (fun _ => ?_)
  · have z := oEq_ok (k := 1) (d := .tup (p.map nD)) (e := .tup []) (b := false) (plp_ p) (by simp [pln, plns]) (by omega) ⟨fun z => absurd z Bool.false_ne_true, fun z => absurd (List.map_eq_nil_iff.mp (D.tup.inj z)) hne⟩
    rw [mT_eq, mBin_eq, mTup_ok (ds := []) rfl (by simp)]
    simp [z]
  rw [mSkip_eq, wp_ok, thn_nx]
  refine wp_stp (mSet_ok (d := .tup (p.map nD)) (by simp)) ?_
  walk_at "st"
  refine wp_seq_if (b := false) ?_ (fun z => by cases z) (fun _ => ?_)
  · have hl : mLc [9] (mItemsA (mV 3)) (tName 9) (mNot (mTru (mFn 3 g__law_in (mCons (mV 9) (mCons (mC (.int 0)) (mCons (mBin oSub (mBin oIx (mB 0) (mC (.int 0))) (mC (.int 1))) mNil)))))) (mV 9) [A.d (gD n E), A.d (tD n t), A.d (.tup [kdD kd, .tup (p.map nD)]), A.d (.tup (p.map nD)), A.un, A.un, A.un, A.un, A.un, A.un] = .ok (.lst []) := by
      rw [mLc_ok (ds := p.map nD) (h := fun _ => none) (by simp [mItemsA]) (by simp; omega) fun d hd => ?_]
      · simp
      · obtain ⟨v, hv, rfl⟩ := List.mem_map.mp hd
        have := lt v hv
        refine lcf_f tName_eq ?_
        simp [wipeR, g0, law_in_int]
        omega
    have z := oNe_ok (k := 1) (d := .lst []) (e := .lst []) (b := false) (by simp [pln, plns]) (by simp [pln, plns]) (by omega) ⟨fun z => absurd z Bool.false_ne_true, fun z => absurd rfl z⟩
    rw [mT_eq, mBin_eq, hl]
    simp [mLst, z]
  rw [mSkip_eq, wp_ok, thn_nx, wp_seq]
  refine wp_for (ds := (List.range' 1 (p.length - 1)).map fun i => nD i) (fun pre ρ => ∃ a4 : A, ρ = [A.d (gD n E), A.d (tD n t), A.d (.tup [kdD kd, .tup (p.map nD)]), A.d (.tup (p.map nD)), a4, A.un, A.un, A.un, A.un, A.un]) ?_ ⟨_, rfl⟩ ?_ ?_
  · have z := fRange2_nat (i := 1) (k := p.length) (by omega) (by omega)
    simp
    exact z
  · rintro pre d r ρ e ⟨a4, rfl⟩
    obtain ⟨rfl, hlt⟩ := split_range' e
    refine ⟨_, rfl, fun Q' hQ' => ?_⟩
    walk_at "st"
    generalize hj : pre.length = j at *
    obtain ⟨u, hu⟩ : ∃ u, p[j]? = some u := ⟨_, List.getElem?_eq_getElem (by omega)⟩
    obtain ⟨w, hw⟩ : ∃ w, p[j + 1]? = some w := ⟨_, List.getElem?_eq_getElem (by omega)⟩
    have adj := pth.get hu hw
    have e1 : oIx (.tup (p.map nD)) (nD (1 + j)) = .ok (nD w) := oIx_tup (by rw [List.getElem?_map, Nat.add_comm, hw]; rfl)
    have e2 : oIx (.tup (p.map nD)) (.int (((1 + j : Nat) : Int) - 1)) = .ok (nD u) := by
      rw [show ((1 + j : Nat) : Int) - 1 = (j : Int) by omega]
      exact oIx_tup (by rw [List.getElem?_map, hu]; rfl)
    have z := oNotIn_lst (k := 0) (d := nD w) (xs := (nbr E u).map nD) (b := false) (by simp [pln]) (plns_nDs _) (by omega)
      ⟨fun z => absurd z Bool.false_ne_true, fun z => absurd (List.mem_map.mpr ⟨w, (mem_nbr G).mpr adj, rfl⟩) z⟩
    refine wp_if (b := false) (by simp only [mT_eq, mBin_eq, mB_eq, mC_eq, mFn_eq, mCons_eq, mNil_eq, mV_eq, List.getElem?_cons_succ, List.getElem?_cons_zero, vw_d, bw_d, R.bind_ok, e1, oSub_int, e2, List.length_cons, List.length_nil, Nat.zero_add, Nat.reduceAdd, if_true, beside_ok G u, z, boolOf_bl]) (fun z => by cases z) (fun _ => ?_)
    rw [mSkip_eq, wp_ok]
    exact hQ' _ ⟨_, rfl⟩
  rintro ρ ⟨a4, rfl⟩
  rw [thn_nx]
  refine wp_stp (mPar3_ok (d := nD s) (e := nD g) (f := .int ((p.length : Int) - 1)) (by simp only [mCons_eq, mBin_eq, mB_eq, mC_eq, mNil_eq, mCall_eq, neg1, List.getElem?_cons_succ, List.getElem?_cons_zero, bw_d, R.bind_ok, head_ix h1, last_ix h2, fLen_tup, oSub_int, List.length_map])) ?_
  walk_at "st"
  refine wp_seq_if (b := decide (kd = some ("odd" : Str))) (by simp [kd_eq hk (.inl rfl)]) (fun z => ?_) (fun z => ?_)
  · have z := of_decide_eq_true z
    refine wp_end (mRet_ok (d := .bl (papB t kd p s g)) ?_) hQ
    rw [mAndV_ok (a := decide (s = g)) (b := decide (((p.length : Int) - 1) % 2 ≠ 0)) (by simp; omega) fun _ => by simp only [mBin_eq, mB_eq, mC_eq, List.getElem?_cons_succ, List.getElem?_cons_zero, bw_d, R.bind_ok, oMod_int (show (0 : Int) < 2 by omega), oEq_int]; congr 2; rw [decide_eq_decide]; omega]
    unfold papB
    rw [if_pos z]
  · have z := of_decide_eq_false z
    rw [mSkip_eq, wp_ok, thn_nx]
    refine wp_seq_if (b := decide (kd ≠ some ("far" : Str) ∧ kd ≠ some ("parity" : Str)) || ((t s).isNone || (t g).isNone)) (mOr_ok ?_ fun _ => mOr_ok (by simp [ts, isNon_oD]) fun _ => by simp [tg, isNon_oD]) (fun y => ?_) (fun y => ?_)
    · rw [mT_eq, mBin_eq, mTup_ok (ds := [.str "far", .str "parity"]) (by simp) (by simp)]
      simp [kd_notIn hk]
    · refine wp_end (mRet_ok (d := .bl (papB t kd p s g)) ?_) hQ
      unfold papB
      rw [if_neg z]
      cases hs : t s <;> cases hg : t g <;> simp [hs, hg] at y ⊢
      simp [y]
    · cases hx : t s with
      | none => simp [hx] at y
      | some x =>
        cases hy : t g with
        | none => simp [hx, hy] at y
        | some y' =>
          have ts := tD_get hs hx
          have tg := tD_get hg hy
          rw [mSkip_eq, wp_ok, thn_nx]
          refine wp_stp (mSet_ok (d := .int (ab (x - y'))) (by simp only [mCall_eq, mCons_eq, mNil_eq, mBin_eq, mB_eq, List.getElem?_cons_succ, List.getElem?_cons_zero, bw_d, R.bind_ok, ts, tg, oSub_int, fAbs_int]; rfl)) ?_
          walk_at "st"
          refine wp_end (mRet_ok (d := .bl (papB t kd p s g)) ?_) hQ
          unfold papB
          rw [if_neg z, hx, hy]
          simp only
          by_cases c : kd = some ("far" : Str)
          · rw [mIf_t (by simp only [mT_eq, mBin_eq, mB_eq, mC_eq, List.getElem?_cons_succ, List.getElem?_cons_zero, bw_d, R.bind_ok, oIx_tup0, kd_eq hk (.inr rfl), decide_eq_true c, boolOf_bl]), if_pos c]
            simp
          · have c' : kd = some ("parity" : Str) := by
              simp [hx, hy] at y
              exact y c
            rw [mIf_f (by simp only [mT_eq, mBin_eq, mB_eq, mC_eq, List.getElem?_cons_succ, List.getElem?_cons_zero, bw_d, R.bind_ok, oIx_tup0, kd_eq hk (.inr rfl), decide_eq_false c, boolOf_bl]), if_neg c, if_pos c']
            simp [oMod_int]
            omega
theorem is_paper_no (G : GOk n E) (T : TOk n t) {kd : Option Str} {p : List Nat} (few : p.length ≤ 200) (h : ¬ (Pth E p ∧ ∀ v ∈ p, v < n)) : g_is_paper [gD n E, tD n t, .tup [kdD kd, .tup (p.map nD)]] = .ok (.bl false) := by
  refine run_of fun Q hQ => ?_
  walk_at "go"
  unfold m_is_paper
  refine wp_stp (mExpr_ok (d := .non) (by simp [check_told_ok G T])) ?_
  refine wp_seq_if (b := false || (false || true)) (mOr_ok (by simp) fun _ => mOr_ok (by simp) fun _ => by simp [is_walk_no G few h]) (fun _ => ?_) (fun z => by cases z)
  exact wp_end (mRet_ok (d := .bl false) rfl) hQ
open Classical in
theorem law_is_paper_no (G : GOk n E) {kd : Option Str} {p : List Nat} (few : p.length ≤ 200) (h : ¬ (Pth E p ∧ ∀ v ∈ p, v < n)) : g__law_is_paper [gD n E, tD n t, .tup [kdD kd, .tup (p.map nD)]] = .ok (.bl false) := by
  have g0 := gD0 n E
  refine run_of fun Q hQ => ?_
  walk_at "go"
  unfold m__law_is_paper
  have hz : ∀ b : Bool, (b = true ↔ p = []) → oEq (.tup (p.map nD)) (.tup []) = .ok (.bl b) := fun b hb => oEq_ok (k := 1) (plp_ p) (by simp [pln, plns]) (by omega) (by rw [hb]; simp)
  by_cases hne : p = []
  · refine wp_seq_if (b := false || (false || (false || true))) (mOr_ok (by simp) fun _ => mOr_ok (by simp) fun _ => mOr_ok (by simp) fun _ => ?_) (fun _ => ?_) (fun z => by cases z)
    · rw [mT_eq, mBin_eq, mTup_ok (ds := []) rfl (by simp)]
      simp [hz true (by simp [hne])]
    · exact wp_end (mRet_ok (d := .bl false) rfl) hQ
  refine wp_seq_if (b := false || (false || (false || false))) (mOr_ok (by simp) fun _ => mOr_ok (by simp) fun _ => mOr_ok (by simp) fun _ => ?_) (fun z => by cases z) (fun _ => ?_)
  · rw [mT_eq, mBin_eq, mTup_ok (ds := []) rfl (by simp)]
    simp [hz false (by simp [hne])]
  rw [mSkip_eq, wp_ok, thn_nx]
  refine wp_stp (mSet_ok (d := .tup (p.map nD)) (by simp)) ?_
  walk_at "st"
  have hl : mLc [9] (mItemsA (mV 3)) (tName 9) (mNot (mTru (mFn 3 g__law_in (mCons (mV 9) (mCons (mC (.int 0)) (mCons (mBin oSub (mBin oIx (mB 0) (mC (.int 0))) (mC (.int 1))) mNil)))))) (mV 9) [A.d (gD n E), A.d (tD n t), A.d (.tup [kdD kd, .tup (p.map nD)]), A.d (.tup (p.map nD)), A.un, A.un, A.un, A.un, A.un, A.un] = .ok (.lst ((p.filter fun v => decide (n ≤ v)).map nD)) := by
    have e : (p.filter fun v => decide (n ≤ v)).map nD = p.filterMap fun v => if v < n then none else some (nD v) := out_fm n p
    rw [e]
    refine mLc_of p nD _ (by simp [mItemsA]) (by omega) fun v hv => ?_
    by_cases c : v < n
    · rw [if_pos c]
      refine lcf_f tName_eq ?_
      simp [wipeR, g0, law_in_int]
      omega
    · rw [if_neg c]
      refine lcf_t tName_eq ?_ rfl
      simp [wipeR, g0, law_in_int]
      omega
  have hb : ∀ b : Bool, (b = true ↔ ¬ ∀ v ∈ p, v < n) → oNe (.lst ((p.filter fun v => decide (n ≤ v)).map nD)) (.lst []) = .ok (.bl b) := fun b hb => oNe_ok (k := 1) (by simpa [pln] using plns_nDs _) (by simp [pln, plns]) (by omega) (by rw [hb]; simp)
  by_cases hlt : ∀ v ∈ p, v < n
  · refine wp_seq_if (b := false) (by rw [mT_eq, mBin_eq, hl]; simp only [R.bind_ok]; rw [mL_eq, mLst_ok (ds := []) rfl (by simp)]; simp [hb false (by simpa using hlt)]) (fun z => by cases z) (fun _ => ?_)
    rw [mSkip_eq, wp_ok, thn_nx, wp_seq]
    refine wp_forR (ds := (List.range' 1 (p.length - 1)).map fun i => nD i) (fun pre ρ => (∃ a4 : A, ρ = [A.d (gD n E), A.d (tD n t), A.d (.tup [kdD kd, .tup (p.map nD)]), A.d (.tup (p.map nD)), a4, A.un, A.un, A.un, A.un, A.un]) ∧ ∀ i u w, i < pre.length → p[i]? = some u → p[i + 1]? = some w → Adj E u w) ?_ ⟨⟨_, rfl⟩, by simp⟩ ?_ ?_
    · have z := fRange2_nat (i := 1) (k := p.length) (by omega) (by omega)
      simp
      exact z
    · rintro pre d r ρ e ⟨⟨a4, rfl⟩, hadj⟩
      obtain ⟨rfl, hlt'⟩ := split_range' e
      refine ⟨_, rfl, fun Q' hQ' hR' => ?_⟩
      walk_at "st"
      generalize hj : pre.length = j at *
      obtain ⟨u, hu⟩ : ∃ u, p[j]? = some u := ⟨_, List.getElem?_eq_getElem (by omega)⟩
      obtain ⟨w, hw⟩ : ∃ w, p[j + 1]? = some w := ⟨_, List.getElem?_eq_getElem (by omega)⟩
      have e1 : oIx (.tup (p.map nD)) (nD (1 + j)) = .ok (nD w) := oIx_tup (by rw [List.getElem?_map, Nat.add_comm, hw]; rfl)
      have e2 : oIx (.tup (p.map nD)) (.int (((1 + j : Nat) : Int) - 1)) = .ok (nD u) := by
        rw [show ((1 + j : Nat) : Int) - 1 = (j : Int) by omega]
        exact oIx_tup (by rw [List.getElem?_map, hu]; rfl)
      have z := oNotIn_lst (k := 0) (d := nD w) (xs := (nbr E u).map nD) (b := decide (¬ Adj E u w)) (by simp [pln]) (plns_nDs _) (by omega)
        (by rw [decide_eq_true_eq, mem_nDs, mem_nbr G])
      refine wp_if (b := decide (¬ Adj E u w)) (by simp only [mT_eq, mBin_eq, mB_eq, mC_eq, mFn_eq, mCons_eq, mNil_eq, mV_eq, List.getElem?_cons_succ, List.getElem?_cons_zero, vw_d, bw_d, R.bind_ok, e1, oSub_int, e2, List.length_cons, List.length_nil, Nat.zero_add, Nat.reduceAdd, if_true, beside_ok G u, z, boolOf_bl]) (fun z => ?_) (fun z => ?_)
      · exact wp_end (mRet_ok (d := .bl false) rfl) (hR' _ hQ)
      · rw [mSkip_eq, wp_ok]
        refine hQ' _ ⟨⟨_, rfl⟩, fun i a b hi ha hb' => ?_⟩
        have z := of_decide_eq_false z
        rw [Classical.not_not] at z
        rw [List.length_append, List.length_singleton, hj] at hi
        by_cases c : i < j
        · exact hadj i a b c ha hb'
        · have : i = j := by omega
          subst this
          rw [hu] at ha
          rw [hw] at hb'
          cases ha
          cases hb'
          exact z
    · rintro ρ ⟨_, hadj⟩
      exact absurd ⟨pth_of hne fun i u w hu hw => hadj i u w (by
        have := (List.getElem?_eq_some_iff.mp hw).1
        simp
        omega) hu hw, hlt⟩ h
  · refine wp_seq_if (b := true) (by rw [mT_eq, mBin_eq, hl]; simp only [R.bind_ok]; rw [mL_eq, mLst_ok (ds := []) rfl (by simp)]; simp [hb true (by simpa using hlt)]) (fun _ => ?_) (fun z => by cases z)
    exact wp_end (mRet_ok (d := .bl false) rfl) hQ
/-- they agree -/
theorem paper_same (G : GOk n E) (T : TOk n t) {kd : Option Str} (hk : kdOk kd) {p : List Nat} (few : p.length ≤ 200) (hw : p.length ≤ 100 ∨ n ∈ p) :
    ∃ b, g_is_paper [gD n E, tD n t, .tup [kdD kd, .tup (p.map nD)]] = .ok (.bl b) ∧ g__law_is_paper [gD n E, tD n t, .tup [kdD kd, .tup (p.map nD)]] = .ok (.bl b) := by
  by_cases c : Pth E p ∧ ∀ v ∈ p, v < n
  · have h100 : p.length ≤ 100 := by
      rcases hw with h | h
      · exact h
      · exact absurd (c.2 n h) (by omega)
    have hne := pth_ne c.1
    obtain ⟨s, hs⟩ : ∃ s, p.head? = some s := by cases p with
      | nil => exact absurd rfl hne
      | cons a l => exact ⟨a, rfl⟩
    obtain ⟨g, hg⟩ : ∃ g, p.getLast? = some g := by cases e : p.getLast? with
      | none => exact absurd (List.getLast?_eq_none_iff.mp e) hne
      | some g => exact ⟨g, rfl⟩
    exact ⟨_, is_paper_walk G T hk c.1 c.2 h100 hs hg, law_is_paper_walk G hk c.1 c.2 h100 hs hg⟩
  · exact ⟨false, is_paper_no G T few c, law_is_paper_no G few c⟩
/-- what is no pair -/
theorem paper_shape (G : GOk n E) (T : TOk n t) {d : D} (h : isT "tuple" d = .ok (.bl false) ∨ ∃ x, d = .tup [x]) : g_is_paper [gD n E, tD n t, d] = .ok (.bl false) ∧ g__law_is_paper [gD n E, tD n t, d] = .ok (.bl false) := by
  constructor
  · refine run_of fun Q hQ => ?_
    walk_at "go"
    unfold m_is_paper
    refine wp_stp (mExpr_ok (d := .non) (by simp [check_told_ok G T])) ?_
    refine wp_seq_if (b := true) ?_ (fun _ => ?_) (fun z => by cases z)
    · rcases h with h | ⟨x, rfl⟩
      · exact mOr_ok (a := true) (b := true) (by simp [h]) (fun z => by cases z)
      · exact mOr_ok (a := false) (b := true) (by simp) fun _ => mOr_ok (a := true) (b := true) (by simp) (fun z => by cases z)
    · exact wp_end (mRet_ok (d := .bl false) rfl) hQ
  · refine run_of fun Q hQ => ?_
    walk_at "go"
    unfold m__law_is_paper
    refine wp_seq_if (b := true) ?_ (fun _ => ?_) (fun z => by cases z)
    · rcases h with h | ⟨x, rfl⟩
      · exact mOr_ok (a := true) (b := true) (by simp [h]) (fun z => by cases z)
      · exact mOr_ok (a := false) (b := true) (by simp) fun _ => mOr_ok (a := true) (b := true) (by simp) (fun z => by cases z)
    · exact wp_end (mRet_ok (d := .bl false) rfl) hQ
/-- a pair with a list -/
theorem paper_list (G : GOk n E) (T : TOk n t) {x : D} {xs : List D} : g_is_paper [gD n E, tD n t, .tup [x, .lst xs]] = .ok (.bl false) ∧ g__law_is_paper [gD n E, tD n t, .tup [x, .lst xs]] = .ok (.bl false) := by
  constructor
  · have hw : g_is_walk [gD n E, .lst xs] = .ok (.bl false) := by
      refine run_of fun Q hQ => ?_
      walk_at "go"
      unfold m_is_walk
      refine wp_seq_if (b := true) (mOr_ok (a := true) (b := true) (by simp) (fun z => by cases z)) (fun _ => ?_) (fun z => by cases z)
      exact wp_end (mRet_ok (d := .bl false) rfl) hQ
    refine run_of fun Q hQ => ?_
    walk_at "go"
    unfold m_is_paper
    refine wp_stp (mExpr_ok (d := .non) (by simp [check_told_ok G T])) ?_
    refine wp_seq_if (b := false || (false || true)) (mOr_ok (by simp) fun _ => mOr_ok (by simp) fun _ => by simp [hw]) (fun _ => ?_) (fun z => by cases z)
    exact wp_end (mRet_ok (d := .bl false) rfl) hQ
  · refine run_of fun Q hQ => ?_
    walk_at "go"
    unfold m__law_is_paper
    refine wp_seq_if (b := true) ?_ (fun _ => ?_) (fun z => by cases z)
    · exact mOr_ok (a := false) (b := true) (by simp) fun _ => mOr_ok (a := false) (b := true) (by simp) fun _ => mOr_ok (a := true) (b := true) (by simp) (fun z => by cases z)
    · exact wp_end (mRet_ok (d := .bl false) rfl) hQ
end
end VL

/-! M22: tools for the laws: displays, try, draws; paper and is_possible. -/
namespace VL
open PySem PySem.Spec PyProof.Rows L2
local macro_rules | `(tactic| walk_at "go") => `(tactic| simp only [List.map, List.length_cons, List.length_nil, List.replicate, List.cons_append, List.nil_append, Nat.reduceAdd, Nat.reduceSub, Nat.add_zero, Nat.zero_add])
local macro_rules | `(tactic| walk_at "st") => `(tactic| simp only [List.set_cons_zero, List.set_cons_succ])
section
variable {ρ : Rho} {ml : Rho → R (List D)} {mb m n : Rho → R Out} {Q : Out → Prop}
@[simp] theorem mTup_eq : mTup ml ρ = (ml ρ).bind fun ds => if ds.length ≤ 1000000 then .ok (.tup ds) else .bad := rfl
@[simp] theorem mLst_eq : mLst ml ρ = (ml ρ).bind fun ds => if ds.length ≤ 1000000 then .ok ds else .bad := rfl
def partOf (d : D) : R (Option Int) := match d with
  | .int i => .ok (some i)
  | _ => .bad
@[simp] theorem partOf_int {i : Int} : partOf (.int i) = .ok (some i) := rfl
@[simp] theorem mPart_eq {ma : Rho → R D} : mPart ma ρ = (ma ρ).bind partOf := rfl
theorem mTry_ok {cs : List Str} {hs : List (Str × (Str → Str))} {o : Out} (h : mb ρ = .ok o) : mTry cs mb hs ρ = .ok o := by unfold mTry; rw [h]
def tryS (c : Str) : List (Str × (Str → Str)) → Option Str
  | [] => none
  | (x, h) :: r => if subN c x = true then some (h c) else tryS c r
theorem tryH_of {c s : Str} : ∀ {hs : List (Str × (Str → Str))}, tryS c hs = some s → tryH c hs = .ok (.rt (.str s))
  | [], h => by cases h
  | (x, f) :: r, h => by
    unfold tryS at h
    unfold tryH
    by_cases z : subN c x = true
    · rw [if_pos z] at h ⊢
      cases h
      rfl
    · rw [if_neg z] at h ⊢
      exact tryH_of h
theorem mTry_ex {cs : List Str} {hs : List (Str × (Str → Str))} {c s : Str} (h : mb ρ = .ex c) (hc : c ∈ cs) (ht : tryS c hs = some s) : mTry cs mb hs ρ = .ok (.rt (.str s)) := by unfold mTry; rw [h]; simp only; rw [if_pos hc, tryH_of ht]
/-- the next statement does nothing -/
theorem wp_skip_seq (h : wp (n ρ) Q) : wp (mSkip ρ) (thn n Q) := by rw [mSkip_eq, wp_ok, thn_nx]; exact h
end
section
variable {n : Nat} {E : List Ed} {t : Nat → Option Int}
theorem possible_ok (G : GOk n E) (T : TOk n t) {d : D} (h : g_found_paper [gD n E, tD n t] = .ok d) : g_is_possible [gD n E, tD n t] = .ok (.bl (isNon d)) := by
  refine run_of fun Q hQ => ?_
  walk_at "go"
  unfold m_is_possible
  refine wp_stp (mExpr_ok (d := .non) (by simp [check_told_ok G T])) ?_
  exact wp_end (mRet_ok (by simp [h])) hQ
theorem paper_none_ (G : GOk n E) (T : TOk n t) (h : g_found_paper [gD n E, tD n t] = .ok .non) : g_paper [gD n E, tD n t] = .ex "HeightsExist" := by
  refine run_raise ?_
  walk_at "go"
  unfold m_paper
  rw [mSeq_nx (mExpr_ok (d := .non) (by simp [check_told_ok G T])), mSeq_nx (mSet_ok (d := .non) (by simp [h]))]
  walk_at "st"
  exact mSeq_ex (by rw [mIfS_t (by simp)]; rfl)
theorem paper_some_ (G : GOk n E) (T : TOk n t) {k : Str} {p : List Nat} (h : g_found_paper [gD n E, tD n t] = .ok (pD k p)) : g_paper [gD n E, tD n t] = .ok (pD k p) := by
  refine run_of fun Q hQ => ?_
  walk_at "go"
  unfold m_paper
  refine wp_stp (mExpr_ok (d := .non) (by simp [check_told_ok G T])) ?_
  refine wp_stp (mSet_ok (d := pD k p) (by simp [h])) ?_
  walk_at "st"
  refine wp_seq_if (b := false) (by simp [pD]) (fun z => by cases z) (fun _ => ?_)
  rw [mSkip_eq, wp_ok, thn_nx]
  exact wp_end (mRetN_d rfl) hQ
theorem check_told_bad (G : GOk n E) {d : D} (h : g_are_told [gD n E, d] = .ok (.bl false)) : g_check_told [gD n E, d] = .ex "InvalidTold" := by
  refine run_raise ?_
  walk_at "go"
  unfold m_check_told
  rw [mSeq_nx (mExpr_ok (d := .non) (by simp [check_graph_ok G]))]
  rw [mIfS_t (by simp [h])]
  rfl
theorem paper_told (G : GOk n E) {d : D} (h : g_are_told [gD n E, d] = .ok (.bl false)) : g_paper [gD n E, d] = .ex "InvalidTold" := by
  refine run_raise ?_
  walk_at "go"
  unfold m_paper
  exact mSeq_ex (mExpr_ex (by simp [check_told_bad G h]))
end
end VL

namespace VL
open PySem PySem.Spec PyProof.Rows L2
local macro_rules | `(tactic| walk_at "go") => `(tactic| simp only [List.map, List.length_cons, List.length_nil, List.replicate, List.cons_append, List.nil_append, Nat.reduceAdd, Nat.reduceSub, Nat.add_zero, Nat.zero_add])
local macro_rules | `(tactic| walk_at "st") => `(tactic| simp only [List.set_cons_zero, List.set_cons_succ])
/-! M23: told heights that are none; the law's own test of heights. -/
section
variable {n : Nat} {E : List Ed} {t : Nat → Option Int} {f : Nat → Int}
def it3 (d : D) : Prop := d = .non ∨ (∃ b, d = .bl b) ∨ ∃ i, d = .int i
theorem it3_oD (o : Option Int) : it3 (oD o) := by cases o with
  | none => exact .inl rfl
  | some x => exact .inr (.inr ⟨x, rfl⟩)
theorem in_range_it3 {d : D} (h : it3 d) (lo hi : Int) : ∃ b, g_in_range [d, .int lo, .int hi] = .ok (.bl b) := by
  rcases h with rfl | ⟨b, rfl⟩ | ⟨i, rfl⟩
  · exact ⟨_, in_range_non _ _⟩
  · exact ⟨_, in_range_bl _ _ _⟩
  · exact ⟨_, in_range_int _ _ _⟩
theorem lay_it3 {d : D} (h : it3 d) : d.py.canLay0 = true ∧ d.py.depth ≤ 1 := by
  rcases h with rfl | ⟨b, rfl⟩ | ⟨i, rfl⟩ <;> simp [D.py, PyData.canLay0, PyData.depth]
theorem lays_it3 : ∀ {xs : List D}, (∀ x ∈ xs, it3 x) → PyData.canLayAll0 (D.pys xs) = true ∧ PyData.depthAll (D.pys xs) ≤ 1
  | [], _ => by simp [D.pys, PyData.canLayAll0, PyData.depthAll]
  | x :: xs, h => by
    have h1 := lay_it3 (h x List.mem_cons_self)
    have h2 := lays_it3 (xs := xs) fun y hy => h y (List.mem_cons_of_mem _ hy)
    simp [D.pys, PyData.canLayAll0, PyData.depthAll, h1.1, h2.1]
    omega
theorem sh_lst3 {xs : List D} (h : ∀ x ∈ xs, it3 x) : sh (.lst xs) = true := by
  have z := lays_it3 h
  unfold sh SeqAt.shaped
  simp [D.py, PyData.canLay0, PyData.depth, z.1]
  omega
theorem oNe_nil {xs : List D} (h : sh (.lst xs) = true) : oNe (.lst xs) (.lst []) = .ok (.bl (!xs.isEmpty)) := by
  have h0 : sh (.lst []) = true := sh_lst3 (xs := []) (by simp)
  unfold oNe okEq eqD
  rw [h, h0]
  cases xs with
  | nil => simp [py_lst, D.pys, PyData.eqv, PyData.eqvAll]
  | cons x xs => simp [py_lst, D.pys, PyData.eqv, PyData.eqvAll]
theorem oEq_nil {xs : List D} (h : sh (.lst xs) = true) : oEq (.lst xs) (.lst []) = .ok (.bl xs.isEmpty) := by
  have h0 : sh (.lst []) = true := sh_lst3 (xs := []) (by simp)
  unfold oEq okEq eqD
  rw [h, h0]
  cases xs with
  | nil => simp [py_lst, D.pys, PyData.eqv, PyData.eqvAll]
  | cons x xs => simp [py_lst, D.pys, PyData.eqv, PyData.eqvAll]
/-- no tuple of n things -/
theorem are_told_shape (E : List Ed) {d : D} (h : isT "tuple" d = .ok (.bl false) ∨ ∃ xs, d = .tup xs ∧ xs.length ≠ n) : g_are_told [gD n E, d] = .ok (.bl false) := by
  have g0 := gD0 n E
  refine run_of fun Q hQ => ?_
  walk_at "go"
  unfold m_are_told
  refine wp_seq_if (b := true) ?_ (fun _ => wp_end (mRet_ok (d := .bl false) rfl) hQ) (fun z => by cases z)
  rcases h with h | ⟨xs, rfl, hl⟩
  · exact mOr_ok (a := true) (b := false) (by simp [h]) fun z => by cases z
  · refine mOr_ok (a := false) (b := true) (by simp) fun _ => ?_
    simp [g0]
    omega
/-- n things, all None, or with one that is out of range -/
theorem are_told_no (E : List Ed) {xs : List D} (hl : xs.length = n) (hle : n ≤ 8) (h3 : ∀ x ∈ xs, it3 x) (hb : (∀ x ∈ xs, x = .non) ∨ ∃ x ∈ xs, x ≠ .non ∧ g_in_range [x, .int (-20), .int 20] = .ok (.bl false)) : g_are_told [gD n E, .tup xs] = .ok (.bl false) := by
  have g0 := gD0 n E
  refine run_of fun Q hQ => ?_
  walk_at "go"
  unfold m_are_told
  refine wp_seq_if (b := false || false) (mOr_ok (by simp) fun _ => by simp [g0, hl]) (fun z => by cases z) (fun _ => ?_)
  rw [mSkip_eq, wp_ok, thn_nx]
  have hk : mLc [3] (mItemsA (mV 1)) (tName 3) (mTest false (mB 3)) (mV 3) [A.d (gD n E), A.d (.tup xs), A.un, A.un] = .ok (.lst (xs.filterMap fun d => if isNon d = true then none else some d)) := by
    refine mLc_ok (by simp [mItemsA]) (by omega) fun d hd => ?_
    cases q : isNon d with
    | true => exact lcf_f tName_eq (by simp [wipeR, q])
    | false => exact lcf_t tName_eq (by simp [wipeR, q]) (by simp [wipeR])
  refine wp_stp (mSet_ok hk) ?_
  walk_at "st"
  generalize hks : (xs.filterMap fun d => if isNon d = true then none else some d) = ks
  have hsub : ∀ d ∈ ks, d ∈ xs ∧ isNon d = false := fun d hd => by
    rw [← hks] at hd
    obtain ⟨a, ha, e⟩ := List.mem_filterMap.mp hd
    cases q : isNon a with
    | true => simp [q] at e
    | false => simp [q] at e; exact ⟨e ▸ ha, e ▸ q⟩
  have hlen : ks.length ≤ 8 := by
    have := List.length_filterMap_le (fun d => if isNon d = true then none else some d) xs
    rw [hks] at this
    omega
  have hsh : sh (.lst ks) = true := sh_lst3 fun d hd => h3 d (hsub d hd).1
  have hne := oNe_nil hsh
  rcases hb with hb | ⟨x, hx, hxn, hxr⟩
  · have e : ks = [] := by
      cases hq : ks with
      | nil => rfl
      | cons a l =>
        have := hsub a (by rw [hq]; exact List.mem_cons_self)
        rw [hb a this.1] at this
        simp at this
    refine wp_end (mRet_ok (d := .bl (false && false)) (mAndV_ok ?_ fun z => by cases z)) hQ
    subst e
    simpa using hne
  · have hxk : x ∈ ks := by
      rw [← hks]
      refine List.mem_filterMap.mpr ⟨x, hx, ?_⟩
      have : isNon x = false := by
        rcases h3 x hx with rfl | ⟨b, rfl⟩ | ⟨i, rfl⟩
        · exact absurd rfl hxn
        · rfl
        · rfl
      simp [this]
    refine wp_end (mRet_ok (d := .bl (true && false)) (mAndV_ok ?_ fun _ => ?_)) hQ
    · simp [hne]
      intro z
      rw [z] at hxk
      cases hxk
    · have h1 : mLc [3] (mItemsA (mV 2)) (tName 3) (mNot (mTru (mFn 3 g_in_range (mCons (mV 3) (mCons (mNeg (mC (.int 20))) (mCons (mC (.int 20)) mNil)))))) (mV 3) [A.d (gD n E), A.d (.tup xs), A.d (.lst ks), A.un] = .ok (.lst (ks.filterMap fun d => match g_in_range [d, .int (-20), .int 20] with
        | .ok (.bl false) => some d
        | _ => none)) := by
        refine mLc_ok (by simp [mItemsA]) (by omega) fun d hd => ?_
        obtain ⟨b, hb⟩ := in_range_it3 (h3 d (hsub d hd).1) (-20) 20
        rw [hb]
        cases b with
        | true => exact lcf_f tName_eq (by simp [wipeR, mNeg_eq (ma := mC (.int 20)) (i := 20) rfl, hb])
        | false => exact lcf_t tName_eq (by simp [wipeR, mNeg_eq (ma := mC (.int 20)) (i := 20) rfl, hb]) rfl
      rw [mNotT_eq, h1]
      simp only [R.bind_ok, tru_lst]
      congr 2
      rw [Bool.not_not, List.isEmpty_eq_false_iff]
      exact fm_ne (y := x) hxk (by rw [hxr])
/-! ### the law's own test -/
theorem law_whole_non : g__law_whole [.non] = .ok (.bl false) := by
  refine run_of fun Q hQ => ?_
  walk_at "go"
  unfold m__law_whole
  exact wp_end (mRet_ok (d := .bl (false && false)) (mAndV_ok (by simp) fun z => by cases z)) hQ
theorem law_whole_bl (b : Bool) : g__law_whole [.bl b] = .ok (.bl false) := by
  refine run_of fun Q hQ => ?_
  walk_at "go"
  unfold m__law_whole
  exact wp_end (mRet_ok (d := .bl (true && false)) (mAndV_ok (by simp) fun _ => by simp)) hQ
theorem law_in_no {d : D} (h : g__law_whole [d] = .ok (.bl false)) (lo hi : Int) : g__law_in [d, .int lo, .int hi] = .ok (.bl false) := by
  refine run_of fun Q hQ => ?_
  walk_at "go"
  unfold m__law_in
  exact wp_end (mRet_ok (d := .bl (false && false)) (mAndV_ok (by simp [h]) fun z => by cases z)) hQ
theorem law_fits_shape (E : List Ed) {d : D} (h : isT "tuple" d = .ok (.bl false) ∨ ∃ xs, d = .tup xs ∧ xs.length ≠ n) : g__law_fits [gD n E, tD n t, d] = .ok (.bl false) := by
  have g0 := gD0 n E
  refine run_of fun Q hQ => ?_
  walk_at "go"
  unfold m__law_fits
  refine wp_seq_if (b := true) ?_ (fun _ => wp_end (mRet_ok (d := .bl false) rfl) hQ) (fun z => by cases z)
  rcases h with h | ⟨xs, rfl, hl⟩
  · exact mOr_ok (a := true) (b := false) (by simp [h]) fun z => by cases z
  · refine mOr_ok (a := false) (b := true) (by simp) fun _ => ?_
    simp [g0]
    omega
theorem told_notIn (o : Option Int) (i : Int) : oNotIn (oD o) (.tup [.non, .int i]) = .ok (.bl (decide (∃ x, o = some x ∧ x ≠ i))) := by
  refine oNotIn_tup (by cases o <;> simp [oD, pln]) (by simp [plns, pln]) ?_
  rw [decide_eq_true_eq]
  cases o with
  | none => simp [oD]
  | some x => simp [oD]
/-- with an item that is no integer -/
theorem law_fits_item (G : GOk n E) {F : Nat → D} {a : Nat} (ha : a < n) (hF : ∀ v, v < n → v ≠ a → ∃ i, F v = .int i) (hA : g__law_whole [F a] = .ok (.bl false)) : g__law_fits [gD n E, tD n t, .tup (row n F)] = .ok (.bl false) := by
  have g0 := gD0 n E
  have hle := G.le
  refine run_of fun Q hQ => ?_
  walk_at "go"
  unfold m__law_fits
  refine wp_seq_if (b := false || false) (mOr_ok (by simp) fun _ => by simp [g0, row_len]) (fun z => by cases z) (fun _ => ?_)
  rw [mSkip_eq, wp_ok, thn_nx, wp_seq]
  refine wp_forR (ds := (List.range n).map fun i => nD i) (fun pre ρ => (∃ a3 : A, ρ = [A.d (gD n E), A.d (tD n t), A.d (.tup (row n F)), a3, A.un, A.un]) ∧ pre.length ≤ a) ?_ ⟨⟨_, rfl⟩, by simp⟩ ?_ ?_
  · simp only [mBin_eq, mB_eq, mC_eq, mV_eq, mCall_eq, mIter_eq, mCons_eq, mNil_eq, mFn_eq, mT_eq, mTru_eq, mNot_eq, mNotT_eq, mTest_eq, mIsN_eq, mNotN_eq, mIsi_eq, mSl_eq, mNoPart_eq, mPart_eq, partOf_int, mYes_eq, mL_eq, mLst_eq, mTup_eq, neg1, List.getElem?_cons_succ, List.getElem?_cons_zero, List.set_cons_zero, List.set_cons_succ, vw_d, bw_d, bw_m, R.bind_ok, List.length_cons, List.length_nil, Nat.zero_add, Nat.reduceAdd, Nat.reduceLeDiff, if_true, boolOf_bl, tru_bl, tru_lst, tru_tup, oSub_int, oAdd_int, oLt_int, oGt_int, oLe_int, oGe_int, oEq_int, oNe_int, oEq_str, oIx_tup0, oIx_tup1, fLen_lst, fLen_tup, fAbs_int, fMin2_int, fMax2_int, fInt_bl, fTuple_lst, fTuple_tup, fList_lst, fList_tup, isNon_non, isNon_int, isNon_tup, isNon_str, Bool.not_true, Bool.not_false, g0]
    exact fRange1_nat (k := n) (by omega)
  · rintro pre d r ρ e ⟨⟨a3, rfl⟩, hpa⟩
    obtain ⟨rfl, hlt⟩ := split_range e
    refine ⟨_, rfl, fun Q' hQ' hR' => ?_⟩
    walk_at "st"
    generalize hj : pre.length = j at *
    have e1 : oIx (.tup (row n F)) (nD j) = .ok (F j) := oIx_tup (row_get hlt)
    have m99 : ∀ ρ : Rho, mNeg (mC (.int 99)) ρ = .ok (.int (-99)) := fun _ => rfl
    by_cases c : j = a
    · refine wp_if (b := true) (mOr_ok (a := true) (b := true) ?_ fun z => by cases z) (fun _ => wp_end (mRet_ok (d := .bl false) rfl) (hR' _ hQ)) (fun z => by cases z)
      subst c
      simp only [mBin_eq, mB_eq, mC_eq, mV_eq, mCall_eq, mIter_eq, mCons_eq, mNil_eq, mFn_eq, mT_eq, mTru_eq, mNot_eq, mNotT_eq, mTest_eq, mIsN_eq, mNotN_eq, mIsi_eq, mSl_eq, mNoPart_eq, mPart_eq, partOf_int, mYes_eq, mL_eq, mLst_eq, mTup_eq, neg1, List.getElem?_cons_succ, List.getElem?_cons_zero, List.set_cons_zero, List.set_cons_succ, vw_d, bw_d, bw_m, R.bind_ok, List.length_cons, List.length_nil, Nat.zero_add, Nat.reduceAdd, Nat.reduceLeDiff, if_true, boolOf_bl, tru_bl, tru_lst, tru_tup, oSub_int, oAdd_int, oLt_int, oGt_int, oLe_int, oGe_int, oEq_int, oNe_int, oEq_str, oIx_tup0, oIx_tup1, fLen_lst, fLen_tup, fAbs_int, fMin2_int, fMax2_int, fInt_bl, fTuple_lst, fTuple_tup, fList_lst, fList_tup, isNon_non, isNon_int, isNon_tup, isNon_str, Bool.not_true, Bool.not_false, e1, m99, law_in_no hA]
    · obtain ⟨i, hi⟩ := hF j hlt c
      have e2 := tD_get' (t := t) hlt
      refine wp_if (b := !decide (-99 ≤ i ∧ i ≤ 99) || decide (∃ x, t j = some x ∧ x ≠ i)) (mOr_ok ?_ fun _ => ?_) (fun _ => wp_end (mRet_ok (d := .bl false) rfl) (hR' _ hQ)) (fun _ => ?_)
      · simp only [mBin_eq, mB_eq, mC_eq, mV_eq, mCall_eq, mIter_eq, mCons_eq, mNil_eq, mFn_eq, mT_eq, mTru_eq, mNot_eq, mNotT_eq, mTest_eq, mIsN_eq, mNotN_eq, mIsi_eq, mSl_eq, mNoPart_eq, mPart_eq, partOf_int, mYes_eq, mL_eq, mLst_eq, mTup_eq, neg1, List.getElem?_cons_succ, List.getElem?_cons_zero, List.set_cons_zero, List.set_cons_succ, vw_d, bw_d, bw_m, R.bind_ok, List.length_cons, List.length_nil, Nat.zero_add, Nat.reduceAdd, Nat.reduceLeDiff, if_true, boolOf_bl, tru_bl, tru_lst, tru_tup, oSub_int, oAdd_int, oLt_int, oGt_int, oLe_int, oGe_int, oEq_int, oNe_int, oEq_str, oIx_tup0, oIx_tup1, fLen_lst, fLen_tup, fAbs_int, fMin2_int, fMax2_int, fInt_bl, fTuple_lst, fTuple_tup, fList_lst, fList_tup, isNon_non, isNon_int, isNon_tup, isNon_str, Bool.not_true, Bool.not_false, e1, m99, hi, law_in_int]
      · simp only [mBin_eq, mB_eq, mC_eq, mV_eq, mCall_eq, mIter_eq, mCons_eq, mNil_eq, mFn_eq, mT_eq, mTru_eq, mNot_eq, mNotT_eq, mTest_eq, mIsN_eq, mNotN_eq, mIsi_eq, mSl_eq, mNoPart_eq, mPart_eq, partOf_int, mYes_eq, mL_eq, mLst_eq, mTup_eq, neg1, List.getElem?_cons_succ, List.getElem?_cons_zero, List.set_cons_zero, List.set_cons_succ, vw_d, bw_d, bw_m, R.bind_ok, List.length_cons, List.length_nil, Nat.zero_add, Nat.reduceAdd, Nat.reduceLeDiff, if_true, boolOf_bl, tru_bl, tru_lst, tru_tup, oSub_int, oAdd_int, oLt_int, oGt_int, oLe_int, oGe_int, oEq_int, oNe_int, oEq_str, oIx_tup0, oIx_tup1, fLen_lst, fLen_tup, fAbs_int, fMin2_int, fMax2_int, fInt_bl, fTuple_lst, fTuple_tup, fList_lst, fList_tup, isNon_non, isNon_int, isNon_tup, isNon_str, Bool.not_true, Bool.not_false, e1, e2, hi, told_notIn]
      · rw [mSkip_eq, wp_ok]
        exact hQ' _ ⟨⟨_, rfl⟩, by simp; omega⟩
  · rintro ρ ⟨_, hp⟩
    simp at hp
    omega
theorem law_fits_ints (G : GOk n E) (hr : ∀ v, v < n → -99 ≤ f v ∧ f v ≤ 99) {b : Bool} (hb : b = true ↔ HF n E t f) : g__law_fits [gD n E, tD n t, hR n f] = .ok (.bl b) := by
  have g0 := gD0 n E
  have g1 := gD1 n E
  have hle := G.le
  have el := G.few
  refine run_of fun Q hQ => ?_
  walk_at "go"
  unfold m__law_fits
  refine wp_seq_if (b := false || false) (mOr_ok (by simp [hR_eq]) fun _ => by simp [g0, hR_eq, row_len]) (fun z => by cases z) (fun _ => ?_)
  rw [mSkip_eq, wp_ok, thn_nx, wp_seq]
  have fin : (¬ HF n E t f) → Q (.rt (.bl false)) := fun z => by
    have : b = false := by cases hq : b with
      | false => rfl
      | true => exact absurd (hb.mp hq) z
    rw [this] at hQ
    exact hQ
  refine wp_forR (ds := (List.range n).map fun i => nD i) (fun pre ρ => (∃ a3 : A, ρ = [A.d (gD n E), A.d (tD n t), A.d (hR n f), a3, A.un, A.un]) ∧ ∀ v x, v < pre.length → t v = some x → f v = x) ?_ ⟨⟨_, rfl⟩, by simp⟩ ?_ ?_
  · simp only [mBin_eq, mB_eq, mC_eq, mV_eq, mCall_eq, mIter_eq, mCons_eq, mNil_eq, mFn_eq, mT_eq, mTru_eq, mNot_eq, mNotT_eq, mTest_eq, mIsN_eq, mNotN_eq, mIsi_eq, mSl_eq, mNoPart_eq, mPart_eq, partOf_int, mYes_eq, mL_eq, mLst_eq, mTup_eq, neg1, List.getElem?_cons_succ, List.getElem?_cons_zero, List.set_cons_zero, List.set_cons_succ, vw_d, bw_d, bw_m, R.bind_ok, List.length_cons, List.length_nil, Nat.zero_add, Nat.reduceAdd, Nat.reduceLeDiff, if_true, boolOf_bl, tru_bl, tru_lst, tru_tup, oSub_int, oAdd_int, oLt_int, oGt_int, oLe_int, oGe_int, oEq_int, oNe_int, oEq_str, oIx_tup0, oIx_tup1, fLen_lst, fLen_tup, fAbs_int, fMin2_int, fMax2_int, fInt_bl, fTuple_lst, fTuple_tup, fList_lst, fList_tup, isNon_non, isNon_int, isNon_tup, isNon_str, Bool.not_true, Bool.not_false, g0]
    exact fRange1_nat (k := n) (by omega)
  · rintro pre d r ρ e ⟨⟨a3, rfl⟩, hpa⟩
    obtain ⟨rfl, hlt⟩ := split_range e
    refine ⟨_, rfl, fun Q' hQ' hR' => ?_⟩
    walk_at "st"
    generalize hj : pre.length = j at *
    have e1 := hR_get (f := f) hlt
    have e2 := tD_get' (t := t) hlt
    have m99 : ∀ ρ : Rho, mNeg (mC (.int 99)) ρ = .ok (.int (-99)) := fun _ => rfl
    refine wp_if (b := false || decide (∃ x, t j = some x ∧ x ≠ f j)) (mOr_ok ?_ fun _ => ?_) (fun z => ?_) (fun z => ?_)
    · simp only [mBin_eq, mB_eq, mC_eq, mV_eq, mCall_eq, mIter_eq, mCons_eq, mNil_eq, mFn_eq, mT_eq, mTru_eq, mNot_eq, mNotT_eq, mTest_eq, mIsN_eq, mNotN_eq, mIsi_eq, mSl_eq, mNoPart_eq, mPart_eq, partOf_int, mYes_eq, mL_eq, mLst_eq, mTup_eq, neg1, List.getElem?_cons_succ, List.getElem?_cons_zero, List.set_cons_zero, List.set_cons_succ, vw_d, bw_d, bw_m, R.bind_ok, List.length_cons, List.length_nil, Nat.zero_add, Nat.reduceAdd, Nat.reduceLeDiff, if_true, boolOf_bl, tru_bl, tru_lst, tru_tup, oSub_int, oAdd_int, oLt_int, oGt_int, oLe_int, oGe_int, oEq_int, oNe_int, oEq_str, oIx_tup0, oIx_tup1, fLen_lst, fLen_tup, fAbs_int, fMin2_int, fMax2_int, fInt_bl, fTuple_lst, fTuple_tup, fList_lst, fList_tup, isNon_non, isNon_int, isNon_tup, isNon_str, Bool.not_true, Bool.not_false, e1, m99, law_in_int, decide_eq_true (hr j hlt)]
    · simp only [mBin_eq, mB_eq, mC_eq, mV_eq, mCall_eq, mIter_eq, mCons_eq, mNil_eq, mFn_eq, mT_eq, mTru_eq, mNot_eq, mNotT_eq, mTest_eq, mIsN_eq, mNotN_eq, mIsi_eq, mSl_eq, mNoPart_eq, mPart_eq, partOf_int, mYes_eq, mL_eq, mLst_eq, mTup_eq, neg1, List.getElem?_cons_succ, List.getElem?_cons_zero, List.set_cons_zero, List.set_cons_succ, vw_d, bw_d, bw_m, R.bind_ok, List.length_cons, List.length_nil, Nat.zero_add, Nat.reduceAdd, Nat.reduceLeDiff, if_true, boolOf_bl, tru_bl, tru_lst, tru_tup, oSub_int, oAdd_int, oLt_int, oGt_int, oLe_int, oGe_int, oEq_int, oNe_int, oEq_str, oIx_tup0, oIx_tup1, fLen_lst, fLen_tup, fAbs_int, fMin2_int, fMax2_int, fInt_bl, fTuple_lst, fTuple_tup, fList_lst, fList_tup, isNon_non, isNon_int, isNon_tup, isNon_str, Bool.not_true, Bool.not_false, e1, e2, told_notIn]
    · rw [Bool.false_or, decide_eq_true_eq] at z
      obtain ⟨x, hx, hne⟩ := z
      exact wp_end (mRet_ok (d := .bl false) rfl) (hR' _ (fin fun H => hne (H.tld j x hlt hx).symm))
    · rw [mSkip_eq, wp_ok]
      rw [Bool.false_or, decide_eq_false_iff_not] at z
      refine hQ' _ ⟨⟨_, rfl⟩, fun v x hv hx => ?_⟩
      rw [List.length_append, List.length_singleton, hj] at hv
      by_cases c : v = j
      · subst c
        exact Classical.byContradiction fun y => z ⟨x, hx, fun y' => y y'.symm⟩
      · exact hpa v x (by omega) hx
  · rintro ρ ⟨⟨a3, rfl⟩, htl⟩
    rw [thn_nx, wp_seq]
    simp only [List.length_map, List.length_range] at htl
    refine wp_forR (ds := E.map eD) (fun pre ρ => (∃ a4 a5 : A, ρ = [A.d (gD n E), A.d (tD n t), A.d (hR n f), a3, a4, a5]) ∧ ∀ e, eD e ∈ pre → f e.1 - f e.2 = 1 ∨ f e.2 - f e.1 = 1) ?_ ⟨⟨_, _, rfl⟩, by simp⟩ ?_ ?_
    · simp [mItemsA, g1]
    · rintro pre d r ρ e ⟨⟨a4, a5, rfl⟩, hpa⟩
      obtain ⟨x, rfl, hx, hlt⟩ := split_map e
      have hxe := G.ed x (List.mem_of_getElem? hx)
      refine ⟨[A.d (gD n E), A.d (tD n t), A.d (hR n f), a3, A.d (nD x.1), A.d (nD x.2)], by rw [eD_eq]; rfl, fun Q' hQ' hR' => ?_⟩
      have e1 := hR_get (f := f) (show x.1 < n by omega)
      have e2 := hR_get (f := f) (show x.2 < n by omega)
      refine wp_if (b := decide (ab (f x.1 - f x.2) ≠ 1)) (by simp only [mBin_eq, mB_eq, mC_eq, mV_eq, mCall_eq, mIter_eq, mCons_eq, mNil_eq, mFn_eq, mT_eq, mTru_eq, mNot_eq, mNotT_eq, mTest_eq, mIsN_eq, mNotN_eq, mIsi_eq, mSl_eq, mNoPart_eq, mPart_eq, partOf_int, mYes_eq, mL_eq, mLst_eq, mTup_eq, neg1, List.getElem?_cons_succ, List.getElem?_cons_zero, List.set_cons_zero, List.set_cons_succ, vw_d, bw_d, bw_m, R.bind_ok, List.length_cons, List.length_nil, Nat.zero_add, Nat.reduceAdd, Nat.reduceLeDiff, if_true, boolOf_bl, tru_bl, tru_lst, tru_tup, oSub_int, oAdd_int, oLt_int, oGt_int, oLe_int, oGe_int, oEq_int, oNe_int, oEq_str, oIx_tup0, oIx_tup1, fLen_lst, fLen_tup, fAbs_int, fMin2_int, fMax2_int, fInt_bl, fTuple_lst, fTuple_tup, fList_lst, fList_tup, isNon_non, isNon_int, isNon_tup, isNon_str, Bool.not_true, Bool.not_false, e1, e2]; rfl) (fun z => ?_) (fun z => ?_)
      · have z := of_decide_eq_true z
        rw [Ne, ab_one] at z
        exact wp_end (mRet_ok (d := .bl false) rfl) (hR' _ (fin fun H => z (H.stp x (List.mem_of_getElem? hx))))
      · have z := of_decide_eq_false z
        rw [Ne, Classical.not_not, ab_one] at z
        rw [mSkip_eq, wp_ok]
        refine hQ' _ ⟨⟨_, _, rfl⟩, fun e' he' => ?_⟩
        rcases List.mem_append.mp he' with h | h
        · exact hpa e' h
        · rw [eD_inj (List.mem_singleton.mp h)]
          exact z
    · rintro ρ ⟨⟨a4, a5, rfl⟩, hst⟩
      rw [thn_nx]
      have : b = true := hb.mpr ⟨fun e he => hst e (mem_eD.mpr he), fun v x hv hx => htl v x hv hx⟩
      rw [this] at hQ
      exact wp_end (mRet_ok (d := .bl true) rfl) hQ
end
end VL

namespace VL
open PySem PySem.Spec PyProof.Rows L2
local macro_rules | `(tactic| walk_at "go") => `(tactic| simp only [List.map, List.length_cons, List.length_nil, List.replicate, List.cons_append, List.nil_append, Nat.reduceAdd, Nat.reduceSub, Nat.add_zero, Nat.zero_add])
local macro_rules | `(tactic| walk_at "st") => `(tactic| simp only [List.set_cons_zero, List.set_cons_succ])
/-! M24: rows cut, put, turned round; comprehensions over rows. -/
section
variable {n : Nat} {E : List Ed} {t : Nat → Option Int} {f : Nat → Int}
theorem row_put {α : Type} {F : Nat → α} {v : Nat} (hv : v < n) (x : α) : ((row n F).take v ++ [x]) ++ (row n F).drop (v + 1) = row n (upF F v x) := by
  rw [← row_set, List.set_eq_take_append_cons_drop, if_pos (by rw [row_len]; exact hv), List.append_assoc]
  rfl
theorem row_rev {α : Type} {F : Nat → α} : (row n F).reverse = row n fun v => F (n - 1 - v) := by
  apply List.ext_getElem?
  intro i
  by_cases hi : i < n
  · rw [List.getElem?_reverse (by rw [row_len]; exact hi), row_len, row_get (by omega), row_get hi]
  · rw [List.getElem?_eq_none (by simp [row_len]; omega), List.getElem?_eq_none (by simp [row_len]; omega)]
theorem row_snoc {α : Type} (m : Nat) (F : Nat → α) : row (m + 1) F = row m F ++ [F m] := by unfold row; rw [List.range_succ, List.map_append]; rfl
theorem cutD_last (xs : List D) (d : D) : cutD (xs ++ [d]) none (some (-1)) = xs := by
  unfold cutD
  rw [HT.sIx_none]
  have e : HT.sIx (xs ++ [d]).length (xs ++ [d]).length (some (-1)) = xs.length := by
    show (if (-1 : Int) < 0 then ((-1 : Int) + ((xs ++ [d]).length : Int)).toNat else min (-1 : Int).toNat (xs ++ [d]).length) = _
    rw [if_pos (by omega)]
    simp
    omega
  rw [e, List.drop_zero, Nat.sub_zero]
  simp
theorem row_pre {α : Type} (hpos : 1 ≤ n) (F : Nat → α) : row n F = row (n - 1) F ++ [F (n - 1)] := by
  have := row_snoc (n - 1) F
  rw [Nat.sub_add_cancel hpos] at this
  exact this
theorem oSl_last (hpos : 1 ≤ n) (F : Nat → D) : oSl (.tup (row n F)) none (some (-1)) = .ok (.tup (row (n - 1) F)) := by
  show R.ok (D.tup (cutD (row n F) none (some (-1)))) = _
  rw [row_pre hpos, cutD_last]
theorem row_last {α : Type} (hpos : 1 ≤ n) (F : Nat → α) (x : α) : row (n - 1) F ++ [x] = row n (upF F (n - 1) x) := by
  rw [row_pre hpos]
  have e1 : upF F (n - 1) x (n - 1) = x := by simp [upF]
  rw [e1]
  congr 1
  unfold row
  apply List.map_congr_left
  intro v hv
  have := List.mem_range.mp hv
  simp [upF]
  intro h
  omega
/-- a comprehension over the items of a row -/
theorem lc_row {F H : Nat → D} {i : Nat} {mi : Rho → R (List D)} {me : Rho → R D} {ρ : Rho} (hm : mi ρ = .ok (row n F)) (hle : n ≤ 1000) (he : ∀ v, v < n → me ((wipeR ρ [i]).set i (.d (F v))) = .ok (H v)) :
    mLc [i] mi (tName i) mYes me ρ = .ok (.lst (row n H)) := by
  rw [mLc_of (List.range n) F (fun v => some (H v)) hm (by simp; omega) fun v hv => lcf_t tName_eq rfl (he v (List.mem_range.mp hv))]
  rw [List.filterMap_eq_map']
  rfl
/-- .. and of one over a range -/
theorem lc_range {H : Nat → D} {i : Nat} {mi : Rho → R (List D)} {me : Rho → R D} {ρ : Rho} (hm : mi ρ = .ok ((List.range n).map fun v => nD v)) (hle : n ≤ 1000) (he : ∀ v, v < n → me ((wipeR ρ [i]).set i (.d (nD v))) = .ok (H v)) :
    mLc [i] mi (tName i) mYes me ρ = .ok (.lst (row n H)) := lc_row (F := fun v => nD v) hm hle he
theorem items_tup {j : Nat} {xs : List D} {ρ : Rho} (h : ρ[j]? = some (.d (.tup xs))) : mItemsA (mV j) ρ = .ok xs := by simp [mItemsA, h]
theorem items_lst {j : Nat} {xs : List D} {ρ : Rho} (h : ρ[j]? = some (.d (.lst xs))) : mItemsA (mV j) ρ = .ok xs := by simp [mItemsA, h]
theorem oMulU_non (hpos : 1 ≤ n) (hle : n ≤ 8) (x : D) : oMulU (.tup [x]) (nD n) = .ok (.tup (row n fun _ => x)) := by
  show (if [x] ≠ [] ∧ (1 : Int) ≤ (n : Int) ∧ (n : Int) ≤ 1000 ∧ [x].length ≤ 1000 then R.ok (D.tup (List.replicate (n : Int).toNat [x]).flatten) else .bad) = _
  rw [if_pos ⟨by simp, by omega, by omega, by simp⟩, Int.toNat_natCast, rep_one, row_const]
end
end VL

namespace VL
open PySem PySem.Spec PyProof.Rows L2
local macro_rules | `(tactic| walk_at "go") => `(tactic| simp only [List.map, List.length_cons, List.length_nil, List.replicate, List.cons_append, List.nil_append, Nat.reduceAdd, Nat.reduceSub, Nat.add_zero, Nat.zero_add])
local macro_rules | `(tactic| walk_at "st") => `(tactic| simp only [List.set_cons_zero, List.set_cons_succ])
/-! M25: ranges, partial heights, all heights as the program lists them. -/
/-- two lists in strict order with the same members -/
theorem eq_sorted : ∀ {a b : List (List Int)}, (a.Pairwise fun x y => lexI x y = true) → (b.Pairwise fun x y => lexI x y = true) → (∀ x, x ∈ a ↔ x ∈ b) → a = b
  | [], [], _, _, _ => rfl
  | [], y :: _, _, _, h => by have := (h y).mpr List.mem_cons_self; cases this
  | x :: _, [], _, _, h => by have := (h x).mp List.mem_cons_self; cases this
  | x :: a, y :: b, ha, hb, h => by
    obtain ⟨ha1, ha2⟩ := List.pairwise_cons.mp ha
    obtain ⟨hb1, hb2⟩ := List.pairwise_cons.mp hb
    have asym : ∀ {p q : List Int}, lexI p q = true → lexI q p = true → False := fun {p q} h1 h2 => by
      have := lexI_trans h1 h2
      rw [lexI_irrefl] at this
      cases this
    have e : x = y := by
      rcases List.mem_cons.mp ((h x).mp List.mem_cons_self) with e | e
      · exact e
      · rcases List.mem_cons.mp ((h y).mpr List.mem_cons_self) with e' | e'
        · exact e'.symm
        · exact (asym (hb1 x e) (ha1 y e')).elim
    subst e
    have t : a = b := eq_sorted ha2 hb2 fun z => by
      constructor
      · intro hz
        rcases List.mem_cons.mp ((h z).mp (List.mem_cons_of_mem _ hz)) with e | e
        · subst e; have := ha1 z hz; rw [lexI_irrefl] at this; cases this
        · exact e
      · intro hz
        rcases List.mem_cons.mp ((h z).mpr (List.mem_cons_of_mem _ hz)) with e | e
        · subst e; have := hb1 z hz; rw [lexI_irrefl] at this; cases this
        · exact e
    rw [t]
theorem lexI_app : ∀ (p a b : List Int), lexI (p ++ a) (p ++ b) = lexI a b
  | [], _, _ => rfl
  | x :: p, a, b => by
    have := lexI_app p a b
    simp [lexI, this]
def rngI (a b : Int) : List Int := (List.range (b + 1 - a).toNat).map fun i : Nat => a + (i : Int)
theorem mem_rngI {a b y : Int} : y ∈ rngI a b ↔ a ≤ y ∧ y ≤ b := by
  unfold rngI
  rw [List.mem_map]
  constructor
  · rintro ⟨i, hi, rfl⟩
    have := List.mem_range.mp hi
    omega
  · intro h
    exact ⟨(y - a).toNat, List.mem_range.mpr (by omega), by omega⟩
theorem rngI_pw (a b : Int) : (rngI a b).Pairwise (· < ·) := by
  unfold rngI
  rw [List.pairwise_map]
  exact List.pairwise_lt_range.imp fun h => by omega
theorem rngI_len (a b : Int) : (rngI a b).length = (b + 1 - a).toNat := by simp [rngI]
theorem fRange2_int {a b : Int} (h1 : -1000 ≤ a ∧ a ≤ 1000) (h2 : -1000 ≤ b ∧ b ≤ 1000) : fRange2 [.int a, .int (b + 1)] = .ok ((rngI a b).map D.int) := by
  show (if (okRange a && okRange (b + 1)) = true then R.ok (rangeD a (b + 1 - a).toNat) else .bad) = _
  rw [if_pos (by unfold okRange; simp; omega)]
  unfold rngI rangeD
  rw [List.map_map]
  rfl
section
variable {n : Nat} {E : List Ed} {t : Nat → Option Int} {f : Nat → Int} {dist : Nat → Nat → Nat} {lo hi : Nat → Int}
def befo (E : List Ed) (v : Nat) : List Nat := (nbs E v).filter fun u => decide (u < v)
def okAt (E : List Ed) (pre : List Int) (y : Int) : Bool := (befo E pre.length).all fun u => decide (ab (fnH pre u - y) = 1)
def part (E : List Ed) (lo hi : Nat → Int) : Nat → List Int → List (List Int)
  | 0, pre => [pre]
  | k + 1, pre => (rngI (lo pre.length) (hi pre.length)).flatMap fun y => if okAt E pre y = true then part E lo hi k (pre ++ [y]) else []
theorem okAt_iff (G : GOk n E) {pre : List Int} {y : Int} : okAt E pre y = true ↔ ∀ u, u < pre.length → Adj E pre.length u → ab (fnH pre u - y) = 1 := by
  unfold okAt befo
  rw [List.all_eq_true]
  constructor
  · intro h u hu ha
    exact of_decide_eq_true (h u (List.mem_filter.mpr ⟨(mem_nbs G).mpr ha, decide_eq_true hu⟩))
  · intro h u hu
    obtain ⟨h1, h2⟩ := List.mem_filter.mp hu
    exact decide_eq_true (h u (of_decide_eq_true h2) ((mem_nbs G).mp h1))
theorem fnH_app_left {a b : List Int} {v : Nat} (h : v < a.length) : fnH (a ++ b) v = fnH a v := by unfold fnH; rw [List.getD_eq_getElem?_getD, List.getD_eq_getElem?_getD, List.getElem?_append_left h]
theorem fnH_snoc {a : List Int} {y : Int} : fnH (a ++ [y]) a.length = y := by unfold fnH; simp [List.getD_eq_getElem?_getD]
theorem fnH_take {h : List Int} {k v : Nat} (hv : v < k) : fnH (h.take k) v = fnH h v := by unfold fnH; rw [List.getD_eq_getElem?_getD, List.getD_eq_getElem?_getD, List.getElem?_take_of_lt hv]
theorem take_snoc {h : List Int} {k : Nat} (hk : k < h.length) : h.take (k + 1) = h.take k ++ [fnH h k] := by
  rw [List.take_succ, List.getElem?_eq_getElem hk]
  unfold fnH
  rw [List.getD_eq_getElem?_getD, List.getElem?_eq_getElem hk]
  rfl
/-- what partial finds -/
theorem mem_part (G : GOk n E) : ∀ {k : Nat} {pre h : List Int}, pre.length + k = n → (h ∈ part E lo hi k pre ↔ h.length = n ∧ h.take pre.length = pre ∧ ∀ v, pre.length ≤ v → v < n → (lo v ≤ fnH h v ∧ fnH h v ≤ hi v) ∧ ∀ u, u < v → Adj E v u → ab (fnH h u - fnH h v) = 1)
  | 0, pre, h, hk => by
    rw [part, List.mem_singleton]
    constructor
    · rintro rfl
      exact ⟨by omega, List.take_length, fun v h1 h2 => by omega⟩
    · rintro ⟨h1, h2, _⟩
      rw [← h2, List.take_of_length_le (by omega)]
  | k + 1, pre, h, hk => by
    rw [part, List.mem_flatMap]
    constructor
    · rintro ⟨y, hy, hm⟩
      by_cases c : okAt E pre y = true
      · rw [if_pos c] at hm
        obtain ⟨h1, h2, h3⟩ := (mem_part G (k := k) (by simp; omega)).mp hm
        rw [List.length_append, List.length_singleton] at h2 h3
        have hl : pre.length < h.length := by omega
        rw [take_snoc hl] at h2
        obtain ⟨e1, e2⟩ := List.append_inj h2 (by rw [List.length_take]; omega)
        have ey : fnH h pre.length = y := by simpa using e2
        refine ⟨h1, e1, fun v hv hvn => ?_⟩
        by_cases cv : v = pre.length
        · subst cv
          rw [ey]
          refine ⟨mem_rngI.mp hy, fun u hu ha => ?_⟩
          have := (okAt_iff G).mp c u hu ha
          have e : fnH pre u = fnH h u := by
            have := fnH_take (h := h) hu
            rw [e1] at this
            exact this
          rw [e] at this
          exact this
        · exact h3 v (by omega) hvn
      · rw [if_neg c] at hm
        cases hm
    · rintro ⟨h1, h2, h3⟩
      have hl : pre.length < h.length := by omega
      obtain ⟨hr, ha⟩ := h3 pre.length (Nat.le_refl _) (by omega)
      have c : okAt E pre (fnH h pre.length) = true := (okAt_iff G).mpr fun u hu hadj => by
        have := ha u hu hadj
        have e : fnH pre u = fnH h u := by
          have := fnH_take (h := h) hu
          rw [h2] at this
          exact this
        rw [e]
        exact this
      refine ⟨fnH h pre.length, mem_rngI.mpr hr, ?_⟩
      rw [if_pos c]
      refine (mem_part G (k := k) (by simp; omega)).mpr ⟨h1, ?_, fun v hv hvn => h3 v (by simp at hv; omega) hvn⟩
      rw [List.length_append, List.length_singleton, take_snoc hl, h2]
theorem part_pw (G : GOk n E) : ∀ {k : Nat} {pre : List Int}, pre.length + k = n → (part E lo hi k pre).Pairwise fun x y => lexI x y = true
  | 0, pre, _ => by rw [part]; exact List.pairwise_singleton _ _
  | k + 1, pre, hk => by
    rw [part, List.pairwise_flatMap]
    constructor
    · intro y hy
      by_cases c : okAt E pre y = true
      · rw [if_pos c]; exact part_pw G (by simp; omega)
      · rw [if_neg c]; exact List.Pairwise.nil
    · refine (rngI_pw _ _).imp fun {y1 y2} hlt x hx x' hx' => ?_
      have get : ∀ {y : Int} {x : List Int}, x ∈ (if okAt E pre y = true then part E lo hi k (pre ++ [y]) else []) → ∃ r, x = pre ++ y :: r := fun {y x} hx => by
        by_cases c : okAt E pre y = true
        · rw [if_pos c] at hx
          obtain ⟨h1, h2, _⟩ := (mem_part G (k := k) (by simp; omega)).mp hx
          refine ⟨x.drop (pre.length + 1), ?_⟩
          have := List.take_append_drop (pre.length + 1) x
          rw [List.length_append, List.length_singleton] at h2
          rw [h2] at this
          rw [← this]
          simp
        · rw [if_neg c] at hx; cases hx
      obtain ⟨r, rfl⟩ := get hx
      obtain ⟨r', rfl⟩ := get hx'
      rw [lexI_app]
      simp [lexI, hlt]
theorem two_ints {l : List Int} {x y : Int} (nd : l.Nodup) (h : ∀ z ∈ l, z = x ∨ z = y) : l.length ≤ 2 := by
  match l, nd, h with
  | [], _, _ => simp
  | [_], _, _ => simp
  | [_, _], _, _ => simp
  | a :: b :: c :: r, nd, h =>
    exfalso
    have ha := h a (by simp)
    have hb := h b (by simp)
    have hc := h c (by simp)
    simp at nd
    obtain ⟨⟨n1, n2, _⟩, ⟨n3, _⟩, _⟩ := nd
    omega
theorem flat_filter {α β : Type} {f : α → List β} {p : α → Bool} : ∀ {l : List α}, (∀ x ∈ l, p x = false → f x = []) → l.flatMap f = (l.filter p).flatMap f
  | [], _ => rfl
  | x :: l, h => by
    have ih := flat_filter (p := p) (l := l) fun y hy => h y (List.mem_cons_of_mem _ hy)
    by_cases c : p x = true
    · rw [List.filter_cons_of_pos c, List.flatMap_cons, List.flatMap_cons, ih]
    · rw [List.filter_cons_of_neg c, List.flatMap_cons, h x List.mem_cons_self (by simpa using c), ih]
      rfl
theorem part_len (G : GOk n E) : ∀ {k : Nat} {pre : List Int}, pre ≠ [] → pre.length + k = n → (part E lo hi k pre).length ≤ 2 ^ k
  | 0, pre, _, _ => by simp [part]
  | k + 1, pre, hne, hk => by
    have hp : 0 < pre.length := List.length_pos_iff.mpr hne
    obtain ⟨u, hu, he⟩ := G.con pre.length (by omega) (by omega)
    have hadj : Adj E pre.length u := .inr he
    rw [part, flat_filter (p := fun y => decide (ab (fnH pre u - y) = 1)) fun y hy hq => ?_]
    · refine Nat.le_trans (flat_le (k := 2 ^ k) (fun y => ?_) _) ?_
      · by_cases c : okAt E pre y = true
        · rw [if_pos c]; exact part_len G (by simp) (by simp; omega)
        · rw [if_neg c]; exact Nat.zero_le _
      · have : ((rngI (lo pre.length) (hi pre.length)).filter fun y => decide (ab (fnH pre u - y) = 1)).length ≤ 2 := by
          refine two_ints (x := fnH pre u - 1) (y := fnH pre u + 1) (((rngI_pw _ _).imp fun h => by omega).filter _) fun z hz => ?_
          have := of_decide_eq_true (List.mem_filter.mp hz).2
          rw [ab_one] at this
          omega
        rw [Nat.pow_succ]
        exact Nat.mul_le_mul_left _ this
    · have : okAt E pre y ≠ true := fun z => by
        have := (okAt_iff G).mp z u hu hadj
        rw [decide_eq_false_iff_not] at hq
        exact hq this
      rw [if_neg this]
end
end VL

namespace VL
open PySem PySem.Spec PyProof.Rows L2
local macro_rules | `(tactic| walk_at "go") => `(tactic| simp only [List.map, List.length_cons, List.length_nil, List.replicate, List.cons_append, List.nil_append, Nat.reduceAdd, Nat.reduceSub, Nat.add_zero, Nat.zero_add])
local macro_rules | `(tactic| walk_at "st") => `(tactic| simp only [List.set_cons_zero, List.set_cons_succ])
/-! M26: ranges, partial, listed_heights run. -/
section
variable {n : Nat} {E : List Ed} {t : Nat → Option Int} {f : Nat → Int} {dist : Nat → Nat → Nat} {lo hi : Nat → Int}
def limD (n : Nat) (lo hi : Nat → Int) : D := .lst (row n fun v => .tup [.int (lo v), .int (hi v)])
theorem ranges_ok (G : GOk n E) (T : TOk n t) (hd : ∀ s, s < n → g_distances [gD n E, nD s] = .ok (.lst (row n fun v => nD (dist s v)))) (DD : DistOk n E dist) (h : g_found_paper [gD n E, tD n t] = .ok .non) : g_ranges [gD n E, tD n t] = .ok (limD n (bot_ n dist t) (top_ n dist t)) := by
  have hle := G.le
  refine run_of fun Q hQ => ?_
  walk_at "go"
  unfold m_ranges
  refine wp_end (mRet_ok (d := limD n (bot_ n dist t) (top_ n dist t)) ?_) hQ
  simp only [mBin_eq, mB_eq, mC_eq, mV_eq, mCall_eq, mIter_eq, mCons_eq, mNil_eq, mFn_eq, mT_eq, mTru_eq, mNot_eq, mNotT_eq, mTest_eq, mIsN_eq, mNotN_eq, mIsi_eq, mSl_eq, mNoPart_eq, mPart_eq, partOf_int, mYes_eq, mL_eq, mLst_eq, mTup_eq, neg1, List.getElem?_cons_succ, List.getElem?_cons_zero, List.set_cons_zero, List.set_cons_succ, vw_d, bw_d, bw_m, R.bind_ok, List.length_cons, List.length_nil, Nat.zero_add, Nat.reduceAdd, Nat.reduceLeDiff, if_true, boolOf_bl, tru_bl, tru_lst, tru_tup, oSub_int, oAdd_int, oLt_int, oGt_int, oLe_int, oGe_int, oEq_int, oNe_int, oEq_str, oIx_tup0, oIx_tup1, fLen_lst, fLen_tup, fAbs_int, fMin2_int, fMax2_int, fInt_bl, fTuple_lst, fTuple_tup, fList_lst, fList_tup, isNon_non, isNon_int, isNon_tup, isNon_str, Bool.not_true, Bool.not_false, least_ok G T hd DD h, greatest_ok G T hd DD h, hR_eq]
  rw [fZipL_ok (by rw [row_len]; omega), zip_row]
  rfl
theorem ranges_none (G : GOk n E) (T : TOk n t) {k : Str} {p : List Nat} (h : g_found_paper [gD n E, tD n t] = .ok (pD k p)) : g_ranges [gD n E, tD n t] = .ex "NoHeights" := by
  refine run_raise ?_
  walk_at "go"
  unfold m_ranges
  rw [mRet_eq]
  simp only [mBin_eq, mB_eq, mC_eq, mV_eq, mCall_eq, mIter_eq, mCons_eq, mNil_eq, mFn_eq, mT_eq, mTru_eq, mNot_eq, mNotT_eq, mTest_eq, mIsN_eq, mNotN_eq, mIsi_eq, mSl_eq, mNoPart_eq, mPart_eq, partOf_int, mYes_eq, mL_eq, mLst_eq, mTup_eq, neg1, List.getElem?_cons_succ, List.getElem?_cons_zero, List.set_cons_zero, List.set_cons_succ, vw_d, bw_d, bw_m, R.bind_ok, List.length_cons, List.length_nil, Nat.zero_add, Nat.reduceAdd, Nat.reduceLeDiff, if_true, boolOf_bl, tru_bl, tru_lst, tru_tup, oSub_int, oAdd_int, oLt_int, oGt_int, oLe_int, oGe_int, oEq_int, oNe_int, oEq_str, oIx_tup0, oIx_tup1, fLen_lst, fLen_tup, fAbs_int, fMin2_int, fMax2_int, fInt_bl, fTuple_lst, fTuple_tup, fList_lst, fList_tup, isNon_non, isNon_int, isNon_tup, isNon_str, Bool.not_true, Bool.not_false, (extremes_none G T h).2, R.bind_ex]
theorem limD_get {v : Nat} (hv : v < n) : oIx (limD n lo hi) (nD v) = .ok (.tup [.int (lo v), .int (hi v)]) := oIx_lst (row_get hv)
theorem take_at {α : Type} {l : List α} {j : Nat} {x : α} (h : l[j]? = some x) : l.take (j + 1) = l.take j ++ [x] := by rw [List.take_succ, h]; rfl
theorem partial_ok (G : GOk n E) (hb : ∀ v, v < n → -100 ≤ lo v ∧ hi v ≤ 100 ∧ lo v ≤ 100 ∧ -100 ≤ hi v) : ∀ {k j : Nat} {pre : List Int}, pre.length + k = n → k < j → gN_partial j [gD n E, limD n lo hi, hD pre] = .ok (.lst ((part E lo hi k pre).map hD)) := by
  have g0 := gD0 n E
  have hle := G.le
  intro k
  induction k with
  | zero =>
    intro j' pre hk hj'
    obtain ⟨j', rfl⟩ : ∃ i, j' = i + 1 := ⟨j' - 1, by omega⟩
    show runB 8 (m_partial (gN_partial j')) _ = _
    refine run_of fun Q hQ => ?_
    walk_at "go"
    unfold m_partial
    refine wp_stp (mSet_ok (d := nD pre.length) (by simp only [mBin_eq, mB_eq, mC_eq, mV_eq, mCall_eq, mIter_eq, mCons_eq, mNil_eq, mFn_eq, mT_eq, mTru_eq, mNot_eq, mNotT_eq, mTest_eq, mIsN_eq, mNotN_eq, mIsi_eq, mSl_eq, mNoPart_eq, mPart_eq, partOf_int, mYes_eq, mL_eq, mLst_eq, mTup_eq, neg1, List.getElem?_cons_succ, List.getElem?_cons_zero, List.set_cons_zero, List.set_cons_succ, vw_d, bw_d, bw_m, R.bind_ok, List.length_cons, List.length_nil, Nat.zero_add, Nat.reduceAdd, Nat.reduceLeDiff, if_true, boolOf_bl, tru_bl, tru_lst, tru_tup, oSub_int, oAdd_int, oLt_int, oGt_int, oLe_int, oGe_int, oEq_int, oNe_int, oEq_str, oIx_tup0, oIx_tup1, fLen_lst, fLen_tup, fAbs_int, fMin2_int, fMax2_int, fInt_bl, fTuple_lst, fTuple_tup, fList_lst, fList_tup, isNon_non, isNon_int, isNon_tup, isNon_str, Bool.not_true, Bool.not_false, List.length_map])) ?_
    walk_at "st"
    have e : pre.length = n := by omega
    refine wp_seq_if (b := true) (by simp only [mBin_eq, mB_eq, mC_eq, mV_eq, mCall_eq, mIter_eq, mCons_eq, mNil_eq, mFn_eq, mT_eq, mTru_eq, mNot_eq, mNotT_eq, mTest_eq, mIsN_eq, mNotN_eq, mIsi_eq, mSl_eq, mNoPart_eq, mPart_eq, partOf_int, mYes_eq, mL_eq, mLst_eq, mTup_eq, neg1, List.getElem?_cons_succ, List.getElem?_cons_zero, List.set_cons_zero, List.set_cons_succ, vw_d, bw_d, bw_m, R.bind_ok, List.length_cons, List.length_nil, Nat.zero_add, Nat.reduceAdd, Nat.reduceLeDiff, if_true, boolOf_bl, tru_bl, tru_lst, tru_tup, oSub_int, oAdd_int, oLt_int, oGt_int, oLe_int, oGe_int, oEq_int, oNe_int, oEq_str, oIx_tup0, oIx_tup1, fLen_lst, fLen_tup, fAbs_int, fMin2_int, fMax2_int, fInt_bl, fTuple_lst, fTuple_tup, fList_lst, fList_tup, isNon_non, isNon_int, isNon_tup, isNon_str, Bool.not_true, Bool.not_false, g0, e]; simp) (fun _ => ?_) (fun z => by cases z)
    refine wp_end (mRet_ok (d := .lst [hD pre]) (by simp only [mBin_eq, mB_eq, mC_eq, mV_eq, mCall_eq, mIter_eq, mCons_eq, mNil_eq, mFn_eq, mT_eq, mTru_eq, mNot_eq, mNotT_eq, mTest_eq, mIsN_eq, mNotN_eq, mIsi_eq, mSl_eq, mNoPart_eq, mPart_eq, partOf_int, mYes_eq, mL_eq, mLst_eq, mTup_eq, neg1, List.getElem?_cons_succ, List.getElem?_cons_zero, List.set_cons_zero, List.set_cons_succ, vw_d, bw_d, bw_m, R.bind_ok, List.length_cons, List.length_nil, Nat.zero_add, Nat.reduceAdd, Nat.reduceLeDiff, if_true, boolOf_bl, tru_bl, tru_lst, tru_tup, oSub_int, oAdd_int, oLt_int, oGt_int, oLe_int, oGe_int, oEq_int, oNe_int, oEq_str, oIx_tup0, oIx_tup1, fLen_lst, fLen_tup, fAbs_int, fMin2_int, fMax2_int, fInt_bl, fTuple_lst, fTuple_tup, fList_lst, fList_tup, isNon_non, isNon_int, isNon_tup, isNon_str, Bool.not_true, Bool.not_false])) ?_
    rw [part] at hQ
    exact hQ
  | succ k ih =>
    intro j' pre hk hj'
    obtain ⟨j', rfl⟩ : ∃ i, j' = i + 1 := ⟨j' - 1, by omega⟩
    show runB 8 (m_partial (gN_partial j')) _ = _
    refine run_of fun Q hQ => ?_
    walk_at "go"
    unfold m_partial
    refine wp_stp (mSet_ok (d := nD pre.length) (by simp only [mBin_eq, mB_eq, mC_eq, mV_eq, mCall_eq, mIter_eq, mCons_eq, mNil_eq, mFn_eq, mT_eq, mTru_eq, mNot_eq, mNotT_eq, mTest_eq, mIsN_eq, mNotN_eq, mIsi_eq, mSl_eq, mNoPart_eq, mPart_eq, partOf_int, mYes_eq, mL_eq, mLst_eq, mTup_eq, neg1, List.getElem?_cons_succ, List.getElem?_cons_zero, List.set_cons_zero, List.set_cons_succ, vw_d, bw_d, bw_m, R.bind_ok, List.length_cons, List.length_nil, Nat.zero_add, Nat.reduceAdd, Nat.reduceLeDiff, if_true, boolOf_bl, tru_bl, tru_lst, tru_tup, oSub_int, oAdd_int, oLt_int, oGt_int, oLe_int, oGe_int, oEq_int, oNe_int, oEq_str, oIx_tup0, oIx_tup1, fLen_lst, fLen_tup, fAbs_int, fMin2_int, fMax2_int, fInt_bl, fTuple_lst, fTuple_tup, fList_lst, fList_tup, isNon_non, isNon_int, isNon_tup, isNon_str, Bool.not_true, Bool.not_false, List.length_map])) ?_
    walk_at "st"
    have hlt : pre.length < n := by omega
    have hb0 := hb pre.length hlt
    refine wp_seq_if (b := false) (by simp only [mBin_eq, mB_eq, mC_eq, mV_eq, mCall_eq, mIter_eq, mCons_eq, mNil_eq, mFn_eq, mT_eq, mTru_eq, mNot_eq, mNotT_eq, mTest_eq, mIsN_eq, mNotN_eq, mIsi_eq, mSl_eq, mNoPart_eq, mPart_eq, partOf_int, mYes_eq, mL_eq, mLst_eq, mTup_eq, neg1, List.getElem?_cons_succ, List.getElem?_cons_zero, List.set_cons_zero, List.set_cons_succ, vw_d, bw_d, bw_m, R.bind_ok, List.length_cons, List.length_nil, Nat.zero_add, Nat.reduceAdd, Nat.reduceLeDiff, if_true, boolOf_bl, tru_bl, tru_lst, tru_tup, oSub_int, oAdd_int, oLt_int, oGt_int, oLe_int, oGe_int, oEq_int, oNe_int, oEq_str, oIx_tup0, oIx_tup1, fLen_lst, fLen_tup, fAbs_int, fMin2_int, fMax2_int, fInt_bl, fTuple_lst, fTuple_tup, fList_lst, fList_tup, isNon_non, isNon_int, isNon_tup, isNon_str, Bool.not_true, Bool.not_false, g0]; simp; omega) (fun z => by cases z) (fun _ => ?_)
    rw [mSkip_eq, wp_ok, thn_nx]
    refine wp_stp (mSetN_ok (d := []) (by simp only [mBin_eq, mB_eq, mC_eq, mV_eq, mCall_eq, mIter_eq, mCons_eq, mNil_eq, mFn_eq, mT_eq, mTru_eq, mNot_eq, mNotT_eq, mTest_eq, mIsN_eq, mNotN_eq, mIsi_eq, mSl_eq, mNoPart_eq, mPart_eq, partOf_int, mYes_eq, mL_eq, mLst_eq, mTup_eq, neg1, List.getElem?_cons_succ, List.getElem?_cons_zero, List.set_cons_zero, List.set_cons_succ, vw_d, bw_d, bw_m, R.bind_ok, List.length_cons, List.length_nil, Nat.zero_add, Nat.reduceAdd, Nat.reduceLeDiff, if_true, boolOf_bl, tru_bl, tru_lst, tru_tup, oSub_int, oAdd_int, oLt_int, oGt_int, oLe_int, oGe_int, oEq_int, oNe_int, oEq_str, oIx_tup0, oIx_tup1, fLen_lst, fLen_tup, fAbs_int, fMin2_int, fMax2_int, fInt_bl, fTuple_lst, fTuple_tup, fList_lst, fList_tup, isNon_non, isNon_int, isNon_tup, isNon_str, Bool.not_true, Bool.not_false])) ?_
    walk_at "st"
    generalize hF : (fun y => if okAt E pre y = true then part E lo hi k (pre ++ [y]) else []) = F
    have hFl : ∀ y, (F y).length ≤ 128 := fun y => by
      rw [← hF]
      by_cases c : okAt E pre y = true
      · show (if okAt E pre y = true then part E lo hi k (pre ++ [y]) else []).length ≤ 128
        rw [if_pos c]
        refine Nat.le_trans (part_len G (by simp) (by simp; omega)) ?_
        exact Nat.le_trans (Nat.pow_le_pow_right (by omega) (show k ≤ 7 by omega)) (by decide)
      · show (if okAt E pre y = true then part E lo hi k (pre ++ [y]) else []).length ≤ 128
        rw [if_neg c]
        exact Nat.zero_le _
    have ep : part E lo hi (k + 1) pre = (rngI (lo pre.length) (hi pre.length)).flatMap F := by rw [part, hF]
    have hlr : (rngI (lo pre.length) (hi pre.length)).length ≤ 201 := by rw [rngI_len]; omega
    rw [wp_seq]
    refine wp_for (ds := (rngI (lo pre.length) (hi pre.length)).map D.int) (fun ps ρ => ∃ a5 a6 a7 : A, ρ = [A.d (gD n E), A.d (limD n lo hi), A.d (hD pre), A.d (nD pre.length), A.m ((((rngI (lo pre.length) (hi pre.length)).take ps.length).flatMap F).map hD), a5, a6, a7]) ?_ ⟨_, _, _, rfl⟩ ?_ ?_
    · simp only [mBin_eq, mB_eq, mC_eq, mV_eq, mCall_eq, mIter_eq, mCons_eq, mNil_eq, mFn_eq, mT_eq, mTru_eq, mNot_eq, mNotT_eq, mTest_eq, mIsN_eq, mNotN_eq, mIsi_eq, mSl_eq, mNoPart_eq, mPart_eq, partOf_int, mYes_eq, mL_eq, mLst_eq, mTup_eq, neg1, List.getElem?_cons_succ, List.getElem?_cons_zero, List.set_cons_zero, List.set_cons_succ, vw_d, bw_d, bw_m, R.bind_ok, List.length_cons, List.length_nil, Nat.zero_add, Nat.reduceAdd, Nat.reduceLeDiff, if_true, boolOf_bl, tru_bl, tru_lst, tru_tup, oSub_int, oAdd_int, oLt_int, oGt_int, oLe_int, oGe_int, oEq_int, oNe_int, oEq_str, oIx_tup0, oIx_tup1, fLen_lst, fLen_tup, fAbs_int, fMin2_int, fMax2_int, fInt_bl, fTuple_lst, fTuple_tup, fList_lst, fList_tup, isNon_non, isNon_int, isNon_tup, isNon_str, Bool.not_true, Bool.not_false, limD_get hlt]
      exact fRange2_int (by omega) (by omega)
    · rintro ps d r ρ e ⟨a5, a6, a7, rfl⟩
      obtain ⟨y, rfl, hy, hyl⟩ := split_map e
      refine ⟨_, rfl, fun Q' hQ' => ?_⟩
      walk_at "st"
      generalize hj : ps.length = j at *
      have hps : (ps ++ [D.int y]).length = j + 1 := by simp [hj]
      have lc1 : ∀ x4 x5 x6 x7 : A, mLc [7] (mItemsA (mFn 2 g_neighbors (mCons (mV 0) (mCons (mV 3) mNil)))) (tName 7) (mT (mBin oLt (mB 7) (mB 3))) (mV 7) [A.d (gD n E), A.d (limD n lo hi), A.d (hD pre), A.d (nD pre.length), x4, x5, x6, x7] = .ok (.lst ((befo E pre.length).map nD)) := fun x4 x5 x6 x7 => by
        have e : (befo E pre.length).map nD = (nbs E pre.length).filterMap fun u => if decide (u < pre.length) = true then some (nD u) else none := by
          unfold befo
          rw [← List.filterMap_eq_map', List.filterMap_filter]
        rw [e]
        refine mLc_of (nbs E pre.length) nD _ ?_ (by have := nbs_len (E := E) (v := pre.length); have := G.few; omega) fun u hu => ?_
        · unfold mItemsA
          simp only [mBin_eq, mB_eq, mC_eq, mV_eq, mCall_eq, mIter_eq, mCons_eq, mNil_eq, mFn_eq, mT_eq, mTru_eq, mNot_eq, mNotT_eq, mTest_eq, mIsN_eq, mNotN_eq, mIsi_eq, mSl_eq, mNoPart_eq, mPart_eq, partOf_int, mYes_eq, mL_eq, mLst_eq, mTup_eq, neg1, List.getElem?_cons_succ, List.getElem?_cons_zero, List.set_cons_zero, List.set_cons_succ, vw_d, bw_d, bw_m, R.bind_ok, List.length_cons, List.length_nil, Nat.zero_add, Nat.reduceAdd, Nat.reduceLeDiff, if_true, boolOf_bl, tru_bl, tru_lst, tru_tup, oSub_int, oAdd_int, oLt_int, oGt_int, oLe_int, oGe_int, oEq_int, oNe_int, oEq_str, oIx_tup0, oIx_tup1, fLen_lst, fLen_tup, fAbs_int, fMin2_int, fMax2_int, fInt_bl, fTuple_lst, fTuple_tup, fList_lst, fList_tup, isNon_non, isNon_int, isNon_tup, isNon_str, Bool.not_true, Bool.not_false, neighbors_ok G pre.length]
        · refine lcf_ok tName_eq ?_ fun _ => ?_
          · simp only [mBin_eq, mB_eq, mC_eq, mV_eq, mCall_eq, mIter_eq, mCons_eq, mNil_eq, mFn_eq, mT_eq, mTru_eq, mNot_eq, mNotT_eq, mTest_eq, mIsN_eq, mNotN_eq, mIsi_eq, mSl_eq, mNoPart_eq, mPart_eq, partOf_int, mYes_eq, mL_eq, mLst_eq, mTup_eq, neg1, List.getElem?_cons_succ, List.getElem?_cons_zero, List.set_cons_zero, List.set_cons_succ, vw_d, bw_d, bw_m, R.bind_ok, List.length_cons, List.length_nil, Nat.zero_add, Nat.reduceAdd, Nat.reduceLeDiff, if_true, boolOf_bl, tru_bl, tru_lst, tru_tup, oSub_int, oAdd_int, oLt_int, oGt_int, oLe_int, oGe_int, oEq_int, oNe_int, oEq_str, oIx_tup0, oIx_tup1, fLen_lst, fLen_tup, fAbs_int, fMin2_int, fMax2_int, fInt_bl, fTuple_lst, fTuple_tup, fList_lst, fList_tup, isNon_non, isNon_int, isNon_tup, isNon_str, Bool.not_true, Bool.not_false, wipeR]
            congr 1
            rw [decide_eq_decide]
            omega
          · simp only [mBin_eq, mB_eq, mC_eq, mV_eq, mCall_eq, mIter_eq, mCons_eq, mNil_eq, mFn_eq, mT_eq, mTru_eq, mNot_eq, mNotT_eq, mTest_eq, mIsN_eq, mNotN_eq, mIsi_eq, mSl_eq, mNoPart_eq, mPart_eq, partOf_int, mYes_eq, mL_eq, mLst_eq, mTup_eq, neg1, List.getElem?_cons_succ, List.getElem?_cons_zero, List.set_cons_zero, List.set_cons_succ, vw_d, bw_d, bw_m, R.bind_ok, List.length_cons, List.length_nil, Nat.zero_add, Nat.reduceAdd, Nat.reduceLeDiff, if_true, boolOf_bl, tru_bl, tru_lst, tru_tup, oSub_int, oAdd_int, oLt_int, oGt_int, oLe_int, oGe_int, oEq_int, oNe_int, oEq_str, oIx_tup0, oIx_tup1, fLen_lst, fLen_tup, fAbs_int, fMin2_int, fMax2_int, fInt_bl, fTuple_lst, fTuple_tup, fList_lst, fList_tup, isNon_non, isNon_int, isNon_tup, isNon_str, Bool.not_true, Bool.not_false, wipeR]
      refine wp_stp (mSet_ok (lc1 _ _ _ _)) ?_
      walk_at "st"
      have lc2 : ∀ x4 x7 : A, mLc [7] (mItemsA (mV 6)) (tName 7) (mT (mBin oNe (mCall fAbs (mCons (mBin oSub (mBin oIx (mB 2) (mB 7)) (mB 5)) mNil)) (mC (.int 1)))) (mV 7) [A.d (gD n E), A.d (limD n lo hi), A.d (hD pre), A.d (nD pre.length), x4, A.d (.int y), A.d (.lst ((befo E pre.length).map nD)), x7] = .ok (.lst ((befo E pre.length).filterMap fun u => if decide (ab (fnH pre u - y) ≠ 1) = true then some (nD u) else none)) := fun x4 x7 => by
        refine mLc_of (befo E pre.length) nD _ (items_lst rfl) (by have := nbs_len (E := E) (v := pre.length); have := G.few; have : (befo E pre.length).length ≤ (nbs E pre.length).length := List.length_filter_le _ _; omega) fun u hu => ?_
        have hul : u < pre.length := of_decide_eq_true (List.mem_filter.mp hu).2
        have ix : oIx (hD pre) (nD u) = .ok (.int (fnH pre u)) := oIx_tup (by rw [List.getElem?_map, List.getElem?_eq_getElem hul]; unfold fnH; rw [List.getD_eq_getElem?_getD, List.getElem?_eq_getElem hul]; rfl)
        refine lcf_ok tName_eq ?_ fun _ => ?_
        · simp only [mBin_eq, mB_eq, mC_eq, mV_eq, mCall_eq, mIter_eq, mCons_eq, mNil_eq, mFn_eq, mT_eq, mTru_eq, mNot_eq, mNotT_eq, mTest_eq, mIsN_eq, mNotN_eq, mIsi_eq, mSl_eq, mNoPart_eq, mPart_eq, partOf_int, mYes_eq, mL_eq, mLst_eq, mTup_eq, neg1, List.getElem?_cons_succ, List.getElem?_cons_zero, List.set_cons_zero, List.set_cons_succ, vw_d, bw_d, bw_m, R.bind_ok, List.length_cons, List.length_nil, Nat.zero_add, Nat.reduceAdd, Nat.reduceLeDiff, if_true, boolOf_bl, tru_bl, tru_lst, tru_tup, oSub_int, oAdd_int, oLt_int, oGt_int, oLe_int, oGe_int, oEq_int, oNe_int, oEq_str, oIx_tup0, oIx_tup1, fLen_lst, fLen_tup, fAbs_int, fMin2_int, fMax2_int, fInt_bl, fTuple_lst, fTuple_tup, fList_lst, fList_tup, isNon_non, isNon_int, isNon_tup, isNon_str, Bool.not_true, Bool.not_false, wipeR, ix]
          rfl
        · simp only [mBin_eq, mB_eq, mC_eq, mV_eq, mCall_eq, mIter_eq, mCons_eq, mNil_eq, mFn_eq, mT_eq, mTru_eq, mNot_eq, mNotT_eq, mTest_eq, mIsN_eq, mNotN_eq, mIsi_eq, mSl_eq, mNoPart_eq, mPart_eq, partOf_int, mYes_eq, mL_eq, mLst_eq, mTup_eq, neg1, List.getElem?_cons_succ, List.getElem?_cons_zero, List.set_cons_zero, List.set_cons_succ, vw_d, bw_d, bw_m, R.bind_ok, List.length_cons, List.length_nil, Nat.zero_add, Nat.reduceAdd, Nat.reduceLeDiff, if_true, boolOf_bl, tru_bl, tru_lst, tru_tup, oSub_int, oAdd_int, oLt_int, oGt_int, oLe_int, oGe_int, oEq_int, oNe_int, oEq_str, oIx_tup0, oIx_tup1, fLen_lst, fLen_tup, fAbs_int, fMin2_int, fMax2_int, fInt_bl, fTuple_lst, fTuple_tup, fList_lst, fList_tup, isNon_non, isNon_int, isNon_tup, isNon_str, Bool.not_true, Bool.not_false, wipeR]
      have em : ((befo E pre.length).filterMap fun u => if decide (ab (fnH pre u - y) ≠ 1) = true then some (nD u) else none).isEmpty = okAt E pre y := by
        rw [Bool.eq_iff_iff, List.isEmpty_iff, List.filterMap_eq_nil_iff]
        unfold okAt
        rw [List.all_eq_true]
        constructor
        · intro h u hu
          have := h u hu
          by_cases c : ab (fnH pre u - y) = 1
          · exact decide_eq_true c
          · rw [if_pos (decide_eq_true c)] at this
            cases this
        · intro h u hu
          have := of_decide_eq_true (h u hu)
          rw [if_neg (by simpa using this)]
      refine wp_if (b := okAt E pre y) (by simp only [mBin_eq, mB_eq, mC_eq, mV_eq, mCall_eq, mIter_eq, mCons_eq, mNil_eq, mFn_eq, mT_eq, mTru_eq, mNot_eq, mNotT_eq, mTest_eq, mIsN_eq, mNotN_eq, mIsi_eq, mSl_eq, mNoPart_eq, mPart_eq, partOf_int, mYes_eq, mL_eq, mLst_eq, mTup_eq, neg1, List.getElem?_cons_succ, List.getElem?_cons_zero, List.set_cons_zero, List.set_cons_succ, vw_d, bw_d, bw_m, R.bind_ok, List.length_cons, List.length_nil, Nat.zero_add, Nat.reduceAdd, Nat.reduceLeDiff, if_true, boolOf_bl, tru_bl, tru_lst, tru_tup, oSub_int, oAdd_int, oLt_int, oGt_int, oLe_int, oGe_int, oEq_int, oNe_int, oEq_str, oIx_tup0, oIx_tup1, fLen_lst, fLen_tup, fAbs_int, fMin2_int, fMax2_int, fInt_bl, fTuple_lst, fTuple_tup, fList_lst, fList_tup, isNon_non, isNon_int, isNon_tup, isNon_str, Bool.not_true, Bool.not_false, lc2, em, Bool.not_not]) (fun c => ?_) (fun c => ?_)
      · have hadd : oAdd (hD pre) (.tup [.int y]) = .ok (hD (pre ++ [y])) := by
          show oAdd (.tup (pre.map D.int)) (.tup [.int y]) = .ok (.tup ((pre ++ [y]).map D.int))
          rw [oAdd_tup (by simp; omega), List.map_append]
          rfl
        have hrec := ih (j := j') (pre := pre ++ [y]) (by simp; omega) (by omega)
        have eF : F y = part E lo hi k (pre ++ [y]) := by rw [← hF]; exact if_pos c
        rw [mExt_ok (xs := (((rngI (lo pre.length) (hi pre.length)).take j).flatMap F).map hD) (ys := (F y).map hD) rfl (by simp only [mBin_eq, mB_eq, mC_eq, mV_eq, mCall_eq, mIter_eq, mCons_eq, mNil_eq, mFn_eq, mT_eq, mTru_eq, mNot_eq, mNotT_eq, mTest_eq, mIsN_eq, mNotN_eq, mIsi_eq, mSl_eq, mNoPart_eq, mPart_eq, partOf_int, mYes_eq, mL_eq, mLst_eq, mTup_eq, neg1, List.getElem?_cons_succ, List.getElem?_cons_zero, List.set_cons_zero, List.set_cons_succ, vw_d, bw_d, bw_m, R.bind_ok, List.length_cons, List.length_nil, Nat.zero_add, Nat.reduceAdd, Nat.reduceLeDiff, if_true, boolOf_bl, tru_bl, tru_lst, tru_tup, oSub_int, oAdd_int, oLt_int, oGt_int, oLe_int, oGe_int, oEq_int, oNe_int, oEq_str, oIx_tup0, oIx_tup1, fLen_lst, fLen_tup, fAbs_int, fMin2_int, fMax2_int, fInt_bl, fTuple_lst, fTuple_tup, fList_lst, fList_tup, isNon_non, isNon_int, isNon_tup, isNon_str, Bool.not_true, Bool.not_false, hadd, hrec, eF]) ?_, wp_ok]
        · refine hQ' _ ⟨A.d (.int y), A.d (.lst ((befo E pre.length).map nD)), a7, ?_⟩
          rw [hps, take_at hy, List.flatMap_append, List.map_append]
          simp
        · have h1 := flat_le hFl ((rngI (lo pre.length) (hi pre.length)).take j)
          have h2 := hFl y
          have h3 : ((rngI (lo pre.length) (hi pre.length)).take j).length ≤ 201 := by rw [List.length_take]; omega
          rw [List.length_map, List.length_map]
          have : 128 * ((rngI (lo pre.length) (hi pre.length)).take j).length ≤ 128 * 201 := Nat.mul_le_mul_left _ h3
          omega
      · have eF : F y = [] := by rw [← hF]; exact if_neg (by simp [c])
        rw [mSkip_eq, wp_ok]
        refine hQ' _ ⟨A.d (.int y), A.d (.lst ((befo E pre.length).map nD)), a7, ?_⟩
        rw [hps, take_at hy, List.flatMap_append]
        simp [eF]
    · rintro ρ ⟨a5, a6, a7, rfl⟩
      rw [thn_nx]
      refine wp_end (mRetN_m rfl) ?_
      rw [List.length_map, List.take_length, ← ep]
      exact hQ
theorem hD_hR {h : List Int} (hl : h.length = n) : hD h = hR n (fnH h) := by unfold hR; rw [row_fnH hl]
open Classical in
theorem listed_ok (G : GOk n E) (T : TOk n t) (hd : ∀ s, s < n → g_distances [gD n E, nD s] = .ok (.lst (row n fun v => nD (dist s v)))) (DD : DistOk n E dist) (h : g_found_paper [gD n E, tD n t] = .ok .non) {hs : List (List Int)} (hpw : hs.Pairwise fun a b => lexI a b = true) (hmem : ∀ h, h ∈ hs ↔ HT n E t h) {f0 : Nat → Int} (H0 : HF n E t f0) :
    g_listed_heights [gD n E, tD n t] = .ok (.lst (hs.map hD)) := by
  have hle := G.le
  have hpos := G.pos
  have hb : ∀ v, v < n → -100 ≤ bot_ n dist t v ∧ top_ n dist t v ≤ 100 ∧ bot_ n dist t v ≤ 100 ∧ -100 ≤ top_ n dist t v := fun v hv => by
    obtain ⟨⟨u, x, hu, hx, e1⟩, _⟩ := top_spec (n := n) (dist := dist) T.some_ v
    obtain ⟨⟨u', x', hu', hx', e2⟩, _⟩ := bot_spec (n := n) (dist := dist) T.some_ v
    have r1 := T.rng u x hu hx
    have r2 := T.rng u' x' hu' hx'
    have d1 := DD.lt G hu hv
    have d2 := DD.lt G hu' hv
    rw [e1, e2]
    omega
  have hp := partial_ok (lo := bot_ n dist t) (hi := top_ n dist t) G hb (k := n) (j := 10) (pre := []) (by simp) (by omega)
  have hp : g_partial [gD n E, limD n (bot_ n dist t) (top_ n dist t), .tup []] = .ok (.lst ((part E (bot_ n dist t) (top_ n dist t) n []).map hD)) := hp
  generalize hps : part E (bot_ n dist t) (top_ n dist t) n [] = ps at hp
  have hpl : ps.length ≤ 100000 := by
    rw [← hps]
    obtain ⟨m, rfl⟩ : ∃ m, n = m + 1 := ⟨n - 1, by omega⟩
    rw [part]
    refine Nat.le_trans (flat_le (k := 128) (fun y => ?_) _) ?_
    · by_cases c : okAt E [] y = true
      · rw [if_pos c]
        refine Nat.le_trans (part_len G (by simp) (by simp; omega)) ?_
        exact Nat.le_trans (Nat.pow_le_pow_right (by omega) (show m ≤ 7 by omega)) (by decide)
      · rw [if_neg c]
        exact Nat.zero_le _
    · have := hb 0 (by omega)
      rw [rngI_len]
      simp only [List.length_nil]
      omega
  have hmp : ∀ x, x ∈ ps → x.length = n := fun x hx => by
    rw [← hps] at hx
    exact ((mem_part G (k := n) (by simp)).mp hx).1
  have eq : (ps.filter fun x => decide (HF n E t (fnH x))) = hs := by
    refine eq_sorted ?_ hpw fun x => ?_
    · rw [← hps]
      exact (part_pw G (by simp)).filter _
    · rw [List.mem_filter, decide_eq_true_eq, hmem, ← hps, mem_part G (by simp)]
      constructor
      · rintro ⟨⟨h1, _, _⟩, H⟩
        exact ⟨h1, H.stp, H.tld⟩
      · intro HTx
        have H := HTx.hf
        refine ⟨⟨HTx.len, rfl, fun v _ hv => ⟨?_, fun u hu ha => ?_⟩⟩, H⟩
        · exact ⟨(bot_min DD T.some_ H hv).1, (H.top DD T.some_ hv).1⟩
        · rw [ab_one]
          exact (H.stp.adj ha.symm)
  refine run_of fun Q hQ => ?_
  walk_at "go"
  unfold m_listed_heights
  refine wp_stp (mSet_ok (d := limD n (bot_ n dist t) (top_ n dist t)) (by simp only [mBin_eq, mB_eq, mC_eq, mV_eq, mCall_eq, mIter_eq, mCons_eq, mNil_eq, mFn_eq, mT_eq, mTru_eq, mNot_eq, mNotT_eq, mTest_eq, mIsN_eq, mNotN_eq, mIsi_eq, mSl_eq, mNoPart_eq, mPart_eq, partOf_int, mYes_eq, mL_eq, mLst_eq, mTup_eq, neg1, List.getElem?_cons_succ, List.getElem?_cons_zero, List.set_cons_zero, List.set_cons_succ, vw_d, bw_d, bw_m, R.bind_ok, List.length_cons, List.length_nil, Nat.zero_add, Nat.reduceAdd, Nat.reduceLeDiff, if_true, boolOf_bl, tru_bl, tru_lst, tru_tup, oSub_int, oAdd_int, oLt_int, oGt_int, oLe_int, oGe_int, oEq_int, oNe_int, oEq_str, oIx_tup0, oIx_tup1, fLen_lst, fLen_tup, fAbs_int, fMin2_int, fMax2_int, fInt_bl, fTuple_lst, fTuple_tup, fList_lst, fList_tup, isNon_non, isNon_int, isNon_tup, isNon_str, Bool.not_true, Bool.not_false, ranges_ok G T hd DD h])) ?_
  walk_at "st"
  refine wp_end (mRet_ok (d := .lst (hs.map hD)) ?_) hQ
  rw [← eq]
  have e : ((ps.filter fun x => decide (HF n E t (fnH x))).map hD) = ps.filterMap fun x => if decide (HF n E t (fnH x)) = true then some (hD x) else none := by
    rw [← List.filterMap_eq_map', List.filterMap_filter]
  rw [e]
  refine mLc_of ps hD _ ?_ (by omega) fun x hx => ?_
  · unfold mItemsA
    simp only [mBin_eq, mB_eq, mC_eq, mV_eq, mCall_eq, mIter_eq, mCons_eq, mNil_eq, mFn_eq, mT_eq, mTru_eq, mNot_eq, mNotT_eq, mTest_eq, mIsN_eq, mNotN_eq, mIsi_eq, mSl_eq, mNoPart_eq, mPart_eq, partOf_int, mYes_eq, mL_eq, mLst_eq, mTup_eq, neg1, List.getElem?_cons_succ, List.getElem?_cons_zero, List.set_cons_zero, List.set_cons_succ, vw_d, bw_d, bw_m, R.bind_ok, List.length_cons, List.length_nil, Nat.zero_add, Nat.reduceAdd, Nat.reduceLeDiff, if_true, boolOf_bl, tru_bl, tru_lst, tru_tup, oSub_int, oAdd_int, oLt_int, oGt_int, oLe_int, oGe_int, oEq_int, oNe_int, oEq_str, oIx_tup0, oIx_tup1, fLen_lst, fLen_tup, fAbs_int, fMin2_int, fMax2_int, fInt_bl, fTuple_lst, fTuple_tup, fList_lst, fList_tup, isNon_non, isNon_int, isNon_tup, isNon_str, Bool.not_true, Bool.not_false, hp]
  · refine lcf_ok tName_eq ?_ fun _ => ?_
    · by_cases c : HF n E t (fnH x)
      · simp only [mBin_eq, mB_eq, mC_eq, mV_eq, mCall_eq, mIter_eq, mCons_eq, mNil_eq, mFn_eq, mT_eq, mTru_eq, mNot_eq, mNotT_eq, mTest_eq, mIsN_eq, mNotN_eq, mIsi_eq, mSl_eq, mNoPart_eq, mPart_eq, partOf_int, mYes_eq, mL_eq, mLst_eq, mTup_eq, neg1, List.getElem?_cons_succ, List.getElem?_cons_zero, List.set_cons_zero, List.set_cons_succ, vw_d, bw_d, bw_m, R.bind_ok, List.length_cons, List.length_nil, Nat.zero_add, Nat.reduceAdd, Nat.reduceLeDiff, if_true, boolOf_bl, tru_bl, tru_lst, tru_tup, oSub_int, oAdd_int, oLt_int, oGt_int, oLe_int, oGe_int, oEq_int, oNe_int, oEq_str, oIx_tup0, oIx_tup1, fLen_lst, fLen_tup, fAbs_int, fMin2_int, fMax2_int, fInt_bl, fTuple_lst, fTuple_tup, fList_lst, fList_tup, isNon_non, isNon_int, isNon_tup, isNon_str, Bool.not_true, Bool.not_false, wipeR, hD_hR (hmp x hx), fit_ok G c, decide_eq_true c]
      · simp only [mBin_eq, mB_eq, mC_eq, mV_eq, mCall_eq, mIter_eq, mCons_eq, mNil_eq, mFn_eq, mT_eq, mTru_eq, mNot_eq, mNotT_eq, mTest_eq, mIsN_eq, mNotN_eq, mIsi_eq, mSl_eq, mNoPart_eq, mPart_eq, partOf_int, mYes_eq, mL_eq, mLst_eq, mTup_eq, neg1, List.getElem?_cons_succ, List.getElem?_cons_zero, List.set_cons_zero, List.set_cons_succ, vw_d, bw_d, bw_m, R.bind_ok, List.length_cons, List.length_nil, Nat.zero_add, Nat.reduceAdd, Nat.reduceLeDiff, if_true, boolOf_bl, tru_bl, tru_lst, tru_tup, oSub_int, oAdd_int, oLt_int, oGt_int, oLe_int, oGe_int, oEq_int, oNe_int, oEq_str, oIx_tup0, oIx_tup1, fLen_lst, fLen_tup, fAbs_int, fMin2_int, fMax2_int, fInt_bl, fTuple_lst, fTuple_tup, fList_lst, fList_tup, isNon_non, isNon_int, isNon_tup, isNon_str, Bool.not_true, Bool.not_false, wipeR, hD_hR (hmp x hx), fit_no G c, decide_eq_false c]
    · simp only [mBin_eq, mB_eq, mC_eq, mV_eq, mCall_eq, mIter_eq, mCons_eq, mNil_eq, mFn_eq, mT_eq, mTru_eq, mNot_eq, mNotT_eq, mTest_eq, mIsN_eq, mNotN_eq, mIsi_eq, mSl_eq, mNoPart_eq, mPart_eq, partOf_int, mYes_eq, mL_eq, mLst_eq, mTup_eq, neg1, List.getElem?_cons_succ, List.getElem?_cons_zero, List.set_cons_zero, List.set_cons_succ, vw_d, bw_d, bw_m, R.bind_ok, List.length_cons, List.length_nil, Nat.zero_add, Nat.reduceAdd, Nat.reduceLeDiff, if_true, boolOf_bl, tru_bl, tru_lst, tru_tup, oSub_int, oAdd_int, oLt_int, oGt_int, oLe_int, oGe_int, oEq_int, oNe_int, oEq_str, oIx_tup0, oIx_tup1, fLen_lst, fLen_tup, fAbs_int, fMin2_int, fMax2_int, fInt_bl, fTuple_lst, fTuple_tup, fList_lst, fList_tup, isNon_non, isNon_int, isNon_tup, isNon_str, Bool.not_true, Bool.not_false, wipeR]
theorem listed_none (G : GOk n E) (T : TOk n t) {k : Str} {p : List Nat} (h : g_found_paper [gD n E, tD n t] = .ok (pD k p)) : g_listed_heights [gD n E, tD n t] = .ex "NoHeights" := by
  refine run_raise ?_
  walk_at "go"
  unfold m_listed_heights
  refine mSeq_ex ?_
  rw [mSet_eq]
  simp only [mBin_eq, mB_eq, mC_eq, mV_eq, mCall_eq, mIter_eq, mCons_eq, mNil_eq, mFn_eq, mT_eq, mTru_eq, mNot_eq, mNotT_eq, mTest_eq, mIsN_eq, mNotN_eq, mIsi_eq, mSl_eq, mNoPart_eq, mPart_eq, partOf_int, mYes_eq, mL_eq, mLst_eq, mTup_eq, neg1, List.getElem?_cons_succ, List.getElem?_cons_zero, List.set_cons_zero, List.set_cons_succ, vw_d, bw_d, bw_m, R.bind_ok, List.length_cons, List.length_nil, Nat.zero_add, Nat.reduceAdd, Nat.reduceLeDiff, if_true, boolOf_bl, tru_bl, tru_lst, tru_tup, oSub_int, oAdd_int, oLt_int, oGt_int, oLe_int, oGe_int, oEq_int, oNe_int, oEq_str, oIx_tup0, oIx_tup1, fLen_lst, fLen_tup, fAbs_int, fMin2_int, fMax2_int, fInt_bl, fTuple_lst, fTuple_tup, fList_lst, fList_tup, isNon_non, isNon_int, isNon_tup, isNon_str, Bool.not_true, Bool.not_false, ranges_none G T h, R.bind_ex]
theorem all_heights_ok {d : D} {a b : D} (h : g_listed_heights [a, b] = .ok d) : g_all_heights [a, b] = .ok d := by
  refine run_of fun Q hQ => ?_
  walk_at "go"
  unfold m_all_heights
  refine wp_end (mRet_ok (d := d) (by simp only [mBin_eq, mB_eq, mC_eq, mV_eq, mCall_eq, mIter_eq, mCons_eq, mNil_eq, mFn_eq, mT_eq, mTru_eq, mNot_eq, mNotT_eq, mTest_eq, mIsN_eq, mNotN_eq, mIsi_eq, mSl_eq, mNoPart_eq, mPart_eq, partOf_int, mYes_eq, mL_eq, mLst_eq, mTup_eq, neg1, List.getElem?_cons_succ, List.getElem?_cons_zero, List.set_cons_zero, List.set_cons_succ, vw_d, bw_d, bw_m, R.bind_ok, List.length_cons, List.length_nil, Nat.zero_add, Nat.reduceAdd, Nat.reduceLeDiff, if_true, boolOf_bl, tru_bl, tru_lst, tru_tup, oSub_int, oAdd_int, oLt_int, oGt_int, oLe_int, oGe_int, oEq_int, oNe_int, oEq_str, oIx_tup0, oIx_tup1, fLen_lst, fLen_tup, fAbs_int, fMin2_int, fMax2_int, fInt_bl, fTuple_lst, fTuple_tup, fList_lst, fList_tup, isNon_non, isNon_int, isNon_tup, isNon_str, Bool.not_true, Bool.not_false, h])) hQ
theorem all_heights_ex {c : Str} {a b : D} (h : g_listed_heights [a, b] = .ex c) : g_all_heights [a, b] = .ex c := by
  refine run_raise ?_
  walk_at "go"
  unfold m_all_heights
  rw [mRet_eq]
  simp only [mBin_eq, mB_eq, mC_eq, mV_eq, mCall_eq, mIter_eq, mCons_eq, mNil_eq, mFn_eq, mT_eq, mTru_eq, mNot_eq, mNotT_eq, mTest_eq, mIsN_eq, mNotN_eq, mIsi_eq, mSl_eq, mNoPart_eq, mPart_eq, partOf_int, mYes_eq, mL_eq, mLst_eq, mTup_eq, neg1, List.getElem?_cons_succ, List.getElem?_cons_zero, List.set_cons_zero, List.set_cons_succ, vw_d, bw_d, bw_m, R.bind_ok, List.length_cons, List.length_nil, Nat.zero_add, Nat.reduceAdd, Nat.reduceLeDiff, if_true, boolOf_bl, tru_bl, tru_lst, tru_tup, oSub_int, oAdd_int, oLt_int, oGt_int, oLe_int, oGe_int, oEq_int, oNe_int, oEq_str, oIx_tup0, oIx_tup1, fLen_lst, fLen_tup, fAbs_int, fMin2_int, fMax2_int, fInt_bl, fTuple_lst, fTuple_tup, fList_lst, fList_tup, isNon_non, isNon_int, isNon_tup, isNon_str, Bool.not_true, Bool.not_false, h, R.bind_ex]
theorem count_heights_ok {xs : List D} {a b : D} (h : g_listed_heights [a, b] = .ok (.lst xs)) : g_count_heights [a, b] = .ok (nD xs.length) := by
  refine run_of fun Q hQ => ?_
  walk_at "go"
  unfold m_count_heights
  refine wp_end (mRet_ok (d := nD xs.length) (by simp only [mBin_eq, mB_eq, mC_eq, mV_eq, mCall_eq, mIter_eq, mCons_eq, mNil_eq, mFn_eq, mT_eq, mTru_eq, mNot_eq, mNotT_eq, mTest_eq, mIsN_eq, mNotN_eq, mIsi_eq, mSl_eq, mNoPart_eq, mPart_eq, partOf_int, mYes_eq, mL_eq, mLst_eq, mTup_eq, neg1, List.getElem?_cons_succ, List.getElem?_cons_zero, List.set_cons_zero, List.set_cons_succ, vw_d, bw_d, bw_m, R.bind_ok, List.length_cons, List.length_nil, Nat.zero_add, Nat.reduceAdd, Nat.reduceLeDiff, if_true, boolOf_bl, tru_bl, tru_lst, tru_tup, oSub_int, oAdd_int, oLt_int, oGt_int, oLe_int, oGe_int, oEq_int, oNe_int, oEq_str, oIx_tup0, oIx_tup1, fLen_lst, fLen_tup, fAbs_int, fMin2_int, fMax2_int, fInt_bl, fTuple_lst, fTuple_tup, fList_lst, fList_tup, isNon_non, isNon_int, isNon_tup, isNon_str, Bool.not_true, Bool.not_false, h])) hQ
theorem count_heights_ex {c : Str} {a b : D} (h : g_listed_heights [a, b] = .ex c) : g_count_heights [a, b] = .ex c := by
  refine run_raise ?_
  walk_at "go"
  unfold m_count_heights
  rw [mRet_eq]
  simp only [mBin_eq, mB_eq, mC_eq, mV_eq, mCall_eq, mIter_eq, mCons_eq, mNil_eq, mFn_eq, mT_eq, mTru_eq, mNot_eq, mNotT_eq, mTest_eq, mIsN_eq, mNotN_eq, mIsi_eq, mSl_eq, mNoPart_eq, mPart_eq, partOf_int, mYes_eq, mL_eq, mLst_eq, mTup_eq, neg1, List.getElem?_cons_succ, List.getElem?_cons_zero, List.set_cons_zero, List.set_cons_succ, vw_d, bw_d, bw_m, R.bind_ok, List.length_cons, List.length_nil, Nat.zero_add, Nat.reduceAdd, Nat.reduceLeDiff, if_true, boolOf_bl, tru_bl, tru_lst, tru_tup, oSub_int, oAdd_int, oLt_int, oGt_int, oLe_int, oGe_int, oEq_int, oNe_int, oEq_str, oIx_tup0, oIx_tup1, fLen_lst, fLen_tup, fAbs_int, fMin2_int, fMax2_int, fInt_bl, fTuple_lst, fTuple_tup, fList_lst, fList_tup, isNon_non, isNon_int, isNon_tup, isNon_str, Bool.not_true, Bool.not_false, h, R.bind_ex]
end
end VL

namespace VL
open PySem PySem.Spec PyProof.Rows L2
local macro_rules | `(tactic| walk_at "go") => `(tactic| simp only [List.map, List.length_cons, List.length_nil, List.replicate, List.cons_append, List.nil_append, Nat.reduceAdd, Nat.reduceSub, Nat.add_zero, Nat.zero_add])
local macro_rules | `(tactic| walk_at "st") => `(tactic| simp only [List.set_cons_zero, List.set_cons_succ])
/-! M27: what the laws begin with. -/
section
variable {n : Nat} {E : List Ed} {t : Nat → Option Int} {f : Nat → Int} {dist : Nat → Nat → Nat}
/-- there are heights, or a paper -/
theorem law_cases (G : GOk n E) (T : TOk n t) (DD : DistOk n E dist) (hd : ∀ s, s < n → g_distances [gD n E, nD s] = .ok (.lst (row n fun v => nD (dist s v)))) {hs : List (List Int)} (hmem : ∀ h, h ∈ hs ↔ HT n E t h) :
    (hs ≠ [] ∧ g_found_paper [gD n E, tD n t] = .ok .non ∧ Bip E (dist 0) ∧ Fits n dist t ∧ HF n E t (top_ n dist t)) ∨ (hs = [] ∧ (∀ f, ¬ HF n E t f) ∧ ∃ kind p, g_found_paper [gD n E, tD n t] = .ok (pD kind p)) := by
  rcases found_paper_ok G DD hd T with ⟨bip, fits, hf⟩ | ⟨kind, p, hk, P, hf⟩
  · have H := top_hf G DD bip fits T.some_
    refine .inl ⟨fun z => ?_, hf, bip, fits, H⟩
    have := (hmem _).mpr (H.ht G)
    rw [z] at this
    cases this
  · refine .inr ⟨?_, fun f H => P.none H.stp H.tld, kind, p, hf⟩
    cases hs with
    | nil => rfl
    | cons h l =>
      have H := (hmem h).mp List.mem_cons_self
      exact (P.none H.stp H.tld).elim
theorem oEq_hs {hs : List (List Int)} : oEq (.lst (hs.map hD)) (.lst []) = .ok (.bl hs.isEmpty) := by
  rw [oEq_nil (sh_pln (k := 2) (by simpa [pln] using plns_hDs (k := 0) hs) (by omega))]
  cases hs <;> rfl
theorem oNe_hs {hs : List (List Int)} : oNe (.lst (hs.map hD)) (.lst []) = .ok (.bl (!hs.isEmpty)) := by
  rw [oNe_nil (sh_pln (k := 2) (by simpa [pln] using plns_hDs (k := 0) hs) (by omega))]
  cases hs <;> rfl
theorem oEq_hss {hs : List (List Int)} : oEq (.lst (hs.map hD)) (.lst (hs.map hD)) = .ok (.bl true) :=
  oEq_ok (k := 2) (by simpa [pln] using plns_hDs (k := 0) hs) (by simpa [pln] using plns_hDs (k := 0) hs) (by omega) (by simp)
theorem oNe_hss {hs : List (List Int)} : oNe (.lst (hs.map hD)) (.lst (hs.map hD)) = .ok (.bl false) :=
  oNe_ok (k := 2) (by simpa [pln] using plns_hDs (k := 0) hs) (by simpa [pln] using plns_hDs (k := 0) hs) (by omega) (by simp)
theorem oEq_hR {n : Nat} {f g : Nat → Int} {b : Bool} (hb : b = true ↔ ∀ v, v < n → f v = g v) : oEq (hR n f) (hR n g) = .ok (.bl b) := by
  refine oEq_ok (k := 1) (pln_hD _) (pln_hD _) (by omega) ?_
  rw [hb]
  constructor
  · intro h
    show hD (row n f) = hD (row n g)
    have : row n f = row n g := List.map_congr_left fun v hv => h v (List.mem_range.mp hv)
    rw [this]
  · intro h v hv
    have h : (row n f).map D.int = (row n g).map D.int := D.tup.inj h
    have h : row n f = row n g := List.map_inj_right (fun a b e => D.int.inj e) |>.mp h
    have := congrArg (fun l => fnH l v) h
    simpa [fnH_row hv] using this
theorem oNe_hR {n : Nat} {f g : Nat → Int} {b : Bool} (hb : b = true ↔ ¬ ∀ v, v < n → f v = g v) : oNe (hR n f) (hR n g) = .ok (.bl b) := by
  have h := oEq_hR (n := n) (f := f) (g := g) (b := !b) (by rw [Bool.not_eq_true', ← Bool.not_eq_true, hb, Classical.not_not])
  have : ∀ d e : D, ∀ c : Bool, oEq d e = .ok (.bl c) → oNe d e = .ok (.bl (!c)) := fun d e c h => by
    unfold oEq at h
    unfold oNe
    by_cases z : okEq d e = true
    · rw [if_pos z] at h ⊢
      cases h
      rfl
    · rw [if_neg z] at h; cases h
  have := this _ _ _ h
  rwa [Bool.not_not] at this
end
/-- one of the heights -/
theorem pick_hs {n : Nat} {E : List Ed} {t : Nat → Option Int} {hs : List (List Int)} (hmem : ∀ h, h ∈ hs ↔ HT n E t h) {i : Nat} (hi : i < hs.length) : ∃ f, HF n E t f ∧ oIx (.lst (hs.map hD)) (nD i) = .ok (hR n f) ∧ hs[i]? = some (row n f) := by
  have HT1 := (hmem hs[i]).mp (List.getElem_mem hi)
  refine ⟨fnH hs[i], HT1.hf, ?_, ?_⟩
  · rw [← HT1.hR]
    exact oIx_lst (by rw [List.getElem?_map, List.getElem?_eq_getElem hi]; rfl)
  · rw [row_fnH HT1.len, List.getElem?_eq_getElem hi]
end VL

namespace VL
open PySem PySem.Spec PyProof.Rows L2
local macro_rules | `(tactic| walk_at "go") => `(tactic| simp only [List.map, List.length_cons, List.length_nil, List.replicate, List.cons_append, List.nil_append, Nat.reduceAdd, Nat.reduceSub, Nat.add_zero, Nat.zero_add])
local macro_rules | `(tactic| walk_at "st") => `(tactic| simp only [List.set_cons_zero, List.set_cons_succ])
/-! M28: told heights shifted, turned, one more. -/
section
variable {n : Nat} {E : List Ed} {t : Nat → Option Int} {f g : Nat → Int} {dist : Nat → Nat → Nat}
def shT (b : Int) (t : Nat → Option Int) (v : Nat) : Option Int := (t v).map fun x => x + b
theorem shT_some {b : Int} {v : Nat} {x : Int} : shT b t v = some x ↔ t v = some (x - b) := by
  unfold shT
  cases t v with
  | none => simp
  | some y => simp; omega
theorem negT_negT : negT (negT t) = t := by
  funext v
  unfold negT
  cases t v <;> simp
theorem HF.shift {b : Int} : HF n E t f ↔ HF n E (shT b t) fun v => f v + b := by
  constructor
  · intro H
    refine ⟨fun e he => ?_, fun v x hv hx => ?_⟩
    · have := H.stp e he
      show f e.1 + b - (f e.2 + b) = 1 ∨ f e.2 + b - (f e.1 + b) = 1
      omega
    · have := H.tld v _ hv (shT_some.mp hx)
      show f v + b = x
      omega
  · intro H
    refine ⟨fun e he => ?_, fun v x hv hx => ?_⟩
    · have : f e.1 + b - (f e.2 + b) = 1 ∨ f e.2 + b - (f e.1 + b) = 1 := H.stp e he
      omega
    · have : f v + b = x + b := H.tld v (x + b) hv (shT_some.mpr (by rw [hx]; congr 1; omega))
      omega
theorem HF.turn : HF n E t f ↔ HF n E (negT t) fun v => -f v := by
  constructor
  · intro H
    exact ⟨H.stp.neg, H.tld.neg⟩
  · intro H
    have e : (fun v => - (fun v => -f v) v) = f := by funext v; simp
    have h1 := H.stp.neg
    have h2 := H.tld.neg
    rw [negT_negT] at h2
    rw [e] at h1 h2
    exact ⟨h1, h2⟩
theorem TOk.shift {b : Int} (T : TOk n t) (hb : -8 ≤ b ∧ b ≤ 8) (h12 : ∀ v x, v < n → t v = some x → -12 ≤ x ∧ x ≤ 12) : TOk n (shT b t) := by
  obtain ⟨v, x, hv, hx⟩ := T.some_
  refine ⟨⟨v, x + b, hv, shT_some.mpr (by rw [hx]; congr 1; omega)⟩, fun u y hu hy => ?_⟩
  have := h12 u _ hu (shT_some.mp hy)
  omega
theorem TOk.turn (T : TOk n t) : TOk n (negT t) := by
  refine ⟨negT_known T.some_, fun u y hu hy => ?_⟩
  have := T.rng u _ hu (negT_some.mp hy)
  omega
/-- with heights there is no paper -/
theorem found_hf (G : GOk n E) (T : TOk n t) (DD : DistOk n E dist) (hd : ∀ s, s < n → g_distances [gD n E, nD s] = .ok (.lst (row n fun v => nD (dist s v)))) (H : HF n E t f) : g_found_paper [gD n E, tD n t] = .ok .non ∧ Bip E (dist 0) ∧ Fits n dist t := by
  rcases found_paper_ok G DD hd T with ⟨bip, fits, hf⟩ | ⟨kind, p, hk, P, hf⟩
  · exact ⟨hf, bip, fits⟩
  · exact (P.none H.stp H.tld).elim
theorem top_shift (G : GOk n E) (T : TOk n t) (DD : DistOk n E dist) (b0 : Bip E (dist 0)) (F : Fits n dist t) {b : Int} (T' : TOk n (shT b t)) (F' : Fits n dist (shT b t)) {v : Nat} (hv : v < n) : top_ n dist (shT b t) v = top_ n dist t v + b := by
  have H := top_hf G DD b0 F T.some_
  have H' := top_hf G DD b0 F' T'.some_
  have h1 := ((HF.shift (b := b)).mp H).top DD T'.some_ hv
  have e : HF n E (shT b t) fun v => (fun v => top_ n dist (shT b t) v - b) v + b := by
    have : (fun v => (fun v => top_ n dist (shT b t) v - b) v + b) = top_ n dist (shT b t) := by funext u; simp
    rw [this]
    exact H'
  have h2 := ((HF.shift (b := b)).mpr e).top DD T.some_ hv
  omega
theorem bot_turn {v : Nat} : bot_ n dist (negT t) v = -top_ n dist t v := by unfold bot_; rw [negT_negT]
theorem top_turn {v : Nat} : top_ n dist (negT t) v = -bot_ n dist t v := by unfold bot_; rw [Int.neg_neg]
theorem fnH_map {h : List Int} {φ : Int → Int} {v : Nat} (hv : v < h.length) : fnH (h.map φ) v = φ (fnH h v) := by
  unfold fnH
  rw [List.getD_eq_getElem?_getD, List.getD_eq_getElem?_getD, List.getElem?_map, List.getElem?_eq_getElem hv]
  rfl
/-- as many heights, where one kind is made of the other by a map of heights -/
theorem count_map {t' : Nat → Option Int} {φ ψ : Int → Int} (hφ : ∀ x, ψ (φ x) = x) (hψ : ∀ x, φ (ψ x) = x) (h1 : ∀ f, HF n E t f → HF n E t' fun v => φ (f v)) (h2 : ∀ f, HF n E t' f → HF n E t fun v => ψ (f v)) (G : GOk n E)
    {hs hs' : List (List Int)} (nd : hs.Nodup) (nd' : hs'.Nodup) (hm : ∀ h, h ∈ hs ↔ HT n E t h) (hm' : ∀ h, h ∈ hs' ↔ HT n E t' h) : hs'.length = hs.length := by
  have inj : ∀ a b : List Int, a.map φ = b.map φ → a = b := fun a b h => by
    have := congrArg (List.map ψ) h
    simpa [List.map_map, Function.comp_def, hφ] using this
  have key : ∀ {t1 t2 : Nat → Option Int} {χ : Int → Int}, (∀ f, HF n E t1 f → HF n E t2 fun v => χ (f v)) → ∀ h, HT n E t1 h → HT n E t2 (h.map χ) := fun {t1 t2 χ} hh h H => by
    have H2 := (hh _ H.hf).ht G
    have e : row n (fun v => χ (fnH h v)) = h.map χ := by
      have := row_map (n := n) (f := fnH h) (g := χ)
      rw [← this, row_fnH H.len]
    rw [e] at H2
    exact H2
  have e := len_eq (a := hs.map (List.map φ)) (b := hs') (List.pairwise_map.mpr (nd.imp fun hne e => hne (inj _ _ e))) nd' fun x => by
    rw [List.mem_map, hm']
    constructor
    · rintro ⟨h, hh, rfl⟩
      exact key h1 h ((hm h).mp hh)
    · intro H
      refine ⟨x.map ψ, (hm _).mpr (key h2 x H), ?_⟩
      simp [List.map_map, Function.comp_def, hψ]
  rw [List.length_map] at e
  exact e.symm
end
end VL

namespace VL
open PySem PySem.Spec PyProof.Rows L2
local macro_rules | `(tactic| walk_at "go") => `(tactic| simp only [List.map, List.length_cons, List.length_nil, List.replicate, List.cons_append, List.nil_append, Nat.reduceAdd, Nat.reduceSub, Nat.add_zero, Nat.zero_add])
local macro_rules | `(tactic| walk_at "st") => `(tactic| simp only [List.set_cons_zero, List.set_cons_succ])
/-! M29: total differences; the nearest heights. -/
theorem range_get {α : Type} (l : List α) (d : α) : (List.range l.length).map (fun i => l.getD i d) = l := by
  apply List.ext_getElem?
  intro i
  by_cases hi : i < l.length
  · rw [List.getElem?_map, List.getElem?_range hi, List.getElem?_eq_getElem hi]
    simp [List.getD_eq_getElem?_getD, hi]
  · rw [List.getElem?_eq_none (by simp; omega), List.getElem?_eq_none (by omega)]
theorem range_fm {α β : Type} (l : List α) (d : α) (g : α → Option β) : (List.range l.length).filterMap (fun i => g (l.getD i d)) = l.filterMap g := by
  have := congrArg (List.filterMap g) (range_get l d)
  rw [List.filterMap_map] at this
  exact this
theorem filter_fm {α β : Type} {p : α → Bool} {φ : α → β} (l : List α) : (l.filter p).map φ = l.filterMap fun x => if p x = true then some (φ x) else none := by rw [← List.filterMap_eq_map', List.filterMap_filter]
section
variable {n : Nat} {E : List Ed} {t : Nat → Option Int} {f g w : Nat → Int} {dist : Nat → Nat → Nat}
theorem lc_row2 {F1 F2 H : Nat → D} {i j : Nat} {mi : Rho → R (List D)} {me : Rho → R D} {ρ : Rho} (hm : mi ρ = .ok (row n fun v => .tup [F1 v, F2 v])) (hle : n ≤ 1000) (he : ∀ v, v < n → me (((wipeR ρ [i, j]).set i (.d (F1 v))).set j (.d (F2 v))) = .ok (H v)) :
    mLc [i, j] mi (tTuple 2 (tsCons (tName i) (tsCons (tName j) tsNil))) mYes me ρ = .ok (.lst (row n H)) := by
  rw [mLc_of (List.range n) (fun v => D.tup [F1 v, F2 v]) (fun v => some (H v)) hm (by simp; omega) fun v hv => lcf_t tTuple2_eq rfl (he v (List.mem_range.mp hv))]
  rw [List.filterMap_eq_map']
  rfl
def gp (n : Nat) (f g : Nat → Int) : Int := (row n fun v => ab (f v - g v)).sum
theorem fSum_row (F : Nat → Int) : fSum [.lst (row n fun v => .int (F v))] = .ok (.int (row n F).sum) := by
  have := fSum_lst (ns := row n F)
  rw [row_map] at this
  exact this
theorem total_ok (hle : n ≤ 8) : g_total_difference [hR n f, hR n g] = .ok (.int (gp n f g)) := by
  refine run_of fun Q hQ => ?_
  walk_at "go"
  unfold m_total_difference
  refine wp_end (mRet_ok (d := .int (gp n f g)) ?_) hQ
  rw [mCall_eq, mCons_eq, lc_row2 (n := n) (F1 := fun v => .int (f v)) (F2 := fun v => .int (g v)) (H := fun v => .int (ab (f v - g v))) ?_ (by omega) fun v hv => ?_]
  · simp only [mBin_eq, mB_eq, mC_eq, mV_eq, mCall_eq, mIter_eq, mCons_eq, mNil_eq, mFn_eq, mT_eq, mTru_eq, mNot_eq, mNotT_eq, mTest_eq, mIsN_eq, mNotN_eq, mIsi_eq, mSl_eq, mNoPart_eq, mPart_eq, partOf_int, mYes_eq, mL_eq, mLst_eq, mTup_eq, neg1, List.getElem?_cons_succ, List.getElem?_cons_zero, List.set_cons_zero, List.set_cons_succ, vw_d, bw_d, bw_m, R.bind_ok, List.length_cons, List.length_nil, Nat.zero_add, Nat.reduceAdd, Nat.reduceLeDiff, if_true, boolOf_bl, tru_bl, tru_lst, tru_tup, oSub_int, oAdd_int, oLt_int, oGt_int, oLe_int, oGe_int, oEq_int, oNe_int, oEq_str, oIx_tup0, oIx_tup1, fLen_lst, fLen_tup, fAbs_int, fMin2_int, fMax2_int, fInt_bl, fTuple_lst, fTuple_tup, fList_lst, fList_tup, isNon_non, isNon_int, isNon_tup, isNon_str, Bool.not_true, Bool.not_false]
    exact fSum_row _
  · simp only [mBin_eq, mB_eq, mC_eq, mV_eq, mCall_eq, mIter_eq, mCons_eq, mNil_eq, mFn_eq, mT_eq, mTru_eq, mNot_eq, mNotT_eq, mTest_eq, mIsN_eq, mNotN_eq, mIsi_eq, mSl_eq, mNoPart_eq, mPart_eq, partOf_int, mYes_eq, mL_eq, mLst_eq, mTup_eq, neg1, List.getElem?_cons_succ, List.getElem?_cons_zero, List.set_cons_zero, List.set_cons_succ, vw_d, bw_d, bw_m, R.bind_ok, List.length_cons, List.length_nil, Nat.zero_add, Nat.reduceAdd, Nat.reduceLeDiff, if_true, boolOf_bl, tru_bl, tru_lst, tru_tup, oSub_int, oAdd_int, oLt_int, oGt_int, oLe_int, oGe_int, oEq_int, oNe_int, oEq_str, oIx_tup0, oIx_tup1, fLen_lst, fLen_tup, fAbs_int, fMin2_int, fMax2_int, fInt_bl, fTuple_lst, fTuple_tup, fList_lst, fList_tup, isNon_non, isNon_int, isNon_tup, isNon_str, Bool.not_true, Bool.not_false, hR_eq]
    show R.ok (zipD _ _) = _
    rw [zip_row]
  · simp only [mBin_eq, mB_eq, mC_eq, mV_eq, mCall_eq, mIter_eq, mCons_eq, mNil_eq, mFn_eq, mT_eq, mTru_eq, mNot_eq, mNotT_eq, mTest_eq, mIsN_eq, mNotN_eq, mIsi_eq, mSl_eq, mNoPart_eq, mPart_eq, partOf_int, mYes_eq, mL_eq, mLst_eq, mTup_eq, neg1, List.getElem?_cons_succ, List.getElem?_cons_zero, List.set_cons_zero, List.set_cons_succ, vw_d, bw_d, bw_m, R.bind_ok, List.length_cons, List.length_nil, Nat.zero_add, Nat.reduceAdd, Nat.reduceLeDiff, if_true, boolOf_bl, tru_bl, tru_lst, tru_tup, oSub_int, oAdd_int, oLt_int, oGt_int, oLe_int, oGe_int, oEq_int, oNe_int, oEq_str, oIx_tup0, oIx_tup1, fLen_lst, fLen_tup, fAbs_int, fMin2_int, fMax2_int, fInt_bl, fTuple_lst, fTuple_tup, fList_lst, fList_tup, isNon_non, isNon_int, isNon_tup, isNon_str, Bool.not_true, Bool.not_false, wipeR]
    rfl
theorem law_gap_ok (hle : n ≤ 8) : g__law_gap [hR n f, hR n g] = .ok (.int (gp n f g)) := by
  refine run_of fun Q hQ => ?_
  walk_at "go"
  unfold m__law_gap
  refine wp_end (mRet_ok (d := .int (gp n f g)) ?_) hQ
  rw [mCall_eq, mCons_eq, lc_range (n := n) (H := fun v => .int (ab (f v - g v))) ?_ (by omega) fun v hv => ?_]
  · simp only [mBin_eq, mB_eq, mC_eq, mV_eq, mCall_eq, mIter_eq, mCons_eq, mNil_eq, mFn_eq, mT_eq, mTru_eq, mNot_eq, mNotT_eq, mTest_eq, mIsN_eq, mNotN_eq, mIsi_eq, mSl_eq, mNoPart_eq, mPart_eq, partOf_int, mYes_eq, mL_eq, mLst_eq, mTup_eq, neg1, List.getElem?_cons_succ, List.getElem?_cons_zero, List.set_cons_zero, List.set_cons_succ, vw_d, bw_d, bw_m, R.bind_ok, List.length_cons, List.length_nil, Nat.zero_add, Nat.reduceAdd, Nat.reduceLeDiff, if_true, boolOf_bl, tru_bl, tru_lst, tru_tup, oSub_int, oAdd_int, oLt_int, oGt_int, oLe_int, oGe_int, oEq_int, oNe_int, oEq_str, oIx_tup0, oIx_tup1, fLen_lst, fLen_tup, fAbs_int, fMin2_int, fMax2_int, fInt_bl, fTuple_lst, fTuple_tup, fList_lst, fList_tup, isNon_non, isNon_int, isNon_tup, isNon_str, Bool.not_true, Bool.not_false]
    exact fSum_row _
  · simp only [mBin_eq, mB_eq, mC_eq, mV_eq, mCall_eq, mIter_eq, mCons_eq, mNil_eq, mFn_eq, mT_eq, mTru_eq, mNot_eq, mNotT_eq, mTest_eq, mIsN_eq, mNotN_eq, mIsi_eq, mSl_eq, mNoPart_eq, mPart_eq, partOf_int, mYes_eq, mL_eq, mLst_eq, mTup_eq, neg1, List.getElem?_cons_succ, List.getElem?_cons_zero, List.set_cons_zero, List.set_cons_succ, vw_d, bw_d, bw_m, R.bind_ok, List.length_cons, List.length_nil, Nat.zero_add, Nat.reduceAdd, Nat.reduceLeDiff, if_true, boolOf_bl, tru_bl, tru_lst, tru_tup, oSub_int, oAdd_int, oLt_int, oGt_int, oLe_int, oGe_int, oEq_int, oNe_int, oEq_str, oIx_tup0, oIx_tup1, fLen_lst, fLen_tup, fAbs_int, fMin2_int, fMax2_int, fInt_bl, fTuple_lst, fTuple_tup, fList_lst, fList_tup, isNon_non, isNon_int, isNon_tup, isNon_str, Bool.not_true, Bool.not_false, hR_eq, row_len]
    exact fRange1_nat (k := n) (by omega)
  · simp only [mBin_eq, mB_eq, mC_eq, mV_eq, mCall_eq, mIter_eq, mCons_eq, mNil_eq, mFn_eq, mT_eq, mTru_eq, mNot_eq, mNotT_eq, mTest_eq, mIsN_eq, mNotN_eq, mIsi_eq, mSl_eq, mNoPart_eq, mPart_eq, partOf_int, mYes_eq, mL_eq, mLst_eq, mTup_eq, neg1, List.getElem?_cons_succ, List.getElem?_cons_zero, List.set_cons_zero, List.set_cons_succ, vw_d, bw_d, bw_m, R.bind_ok, List.length_cons, List.length_nil, Nat.zero_add, Nat.reduceAdd, Nat.reduceLeDiff, if_true, boolOf_bl, tru_bl, tru_lst, tru_tup, oSub_int, oAdd_int, oLt_int, oGt_int, oLe_int, oGe_int, oEq_int, oNe_int, oEq_str, oIx_tup0, oIx_tup1, fLen_lst, fLen_tup, fAbs_int, fMin2_int, fMax2_int, fInt_bl, fTuple_lst, fTuple_tup, fList_lst, fList_tup, isNon_non, isNon_int, isNon_tup, isNon_str, Bool.not_true, Bool.not_false, wipeR, hR_get hv]
    rfl
theorem ab_nonneg (x : Int) : 0 ≤ ab x := by unfold ab; split <;> omega
theorem ab_zero {x : Int} : ab x = 0 ↔ x = 0 := by unfold ab; split <;> omega
theorem sum_zero : ∀ {l : List Int}, (∀ x ∈ l, 0 ≤ x) → 0 ≤ l.sum ∧ (l.sum = 0 ↔ ∀ x ∈ l, x = 0)
  | [], _ => by simp
  | x :: l, h => by
    have ih := sum_zero (l := l) fun y hy => h y (List.mem_cons_of_mem _ hy)
    have h0 := h x List.mem_cons_self
    rw [List.sum_cons]
    refine ⟨by omega, ?_⟩
    constructor
    · intro e y hy
      rcases List.mem_cons.mp hy with rfl | hy
      · omega
      · exact ih.2.mp (by omega) y hy
    · intro hall
      have e1 := hall x List.mem_cons_self
      have e2 := ih.2.mpr fun y hy => hall y (List.mem_cons_of_mem _ hy)
      omega
theorem gp_nonneg : 0 ≤ gp n f g := (sum_zero fun x hx => by obtain ⟨v, _, rfl⟩ := List.mem_map.mp hx; exact ab_nonneg _).1
theorem gp_zero : gp n f g = 0 ↔ ∀ v, v < n → f v = g v := by
  unfold gp
  rw [(sum_zero fun x hx => by obtain ⟨v, _, rfl⟩ := List.mem_map.mp hx; exact ab_nonneg _).2]
  constructor
  · intro h v hv
    have := h (ab (f v - g v)) (List.mem_map.mpr ⟨v, List.mem_range.mpr hv, rfl⟩)
    rw [ab_zero] at this
    omega
  · intro h x hx
    obtain ⟨v, hv, rfl⟩ := List.mem_map.mp hx
    rw [ab_zero, h v (List.mem_range.mp hv)]
    omega
/-- the least of some numbers, as a list's -/
def gaps (n : Nat) (hs : List (List Int)) (w : Nat → Int) : List Int := hs.map fun h => gp n (fnH h) w
def near (n : Nat) (hs : List (List Int)) (w : Nat → Int) : List (List Int) := hs.filter fun h => decide (gp n (fnH h) w = minI (gaps n hs w))
theorem lc_hs {hs : List (List Int)} {i : Nat} {mi : Rho → R (List D)} {me : Rho → R D} {ρ : Rho} {F : List Int → D} (hm : mi ρ = .ok (hs.map hD)) (hl : hs.length ≤ 1000) (he : ∀ h ∈ hs, me ((wipeR ρ [i]).set i (.d (hD h))) = .ok (F h)) :
    mLc [i] mi (tName i) mYes me ρ = .ok (.lst (hs.map F)) := by
  rw [mLc_of hs hD (fun h => some (F h)) hm (by omega) fun h hh => lcf_t tName_eq rfl (he h hh), List.filterMap_eq_map']
theorem lc_hs_if {hs : List (List Int)} {i : Nat} {mi : Rho → R (List D)} {q : Rho → R Bool} {me : Rho → R D} {ρ : Rho} {p : List Int → Bool} (hm : mi ρ = .ok (hs.map hD)) (hl : hs.length ≤ 1000) (hq : ∀ h ∈ hs, q ((wipeR ρ [i]).set i (.d (hD h))) = .ok (p h)) (he : ∀ h ∈ hs, me ((wipeR ρ [i]).set i (.d (hD h))) = .ok (hD h)) :
    mLc [i] mi (tName i) q me ρ = .ok (.lst ((hs.filter p).map hD)) := by
  rw [filter_fm, mLc_of hs hD _ hm (by omega) fun h hh => lcf_ok tName_eq (hq h hh) fun _ => he h hh]
theorem nearest_ok {hs : List (List Int)} (G : GOk n E) (hl : g_listed_heights [gD n E, tD n t] = .ok (.lst (hs.map hD))) (hne : hs ≠ []) (h128 : hs.length ≤ 128) (hmem : ∀ h, h ∈ hs ↔ HT n E t h) (hr : ∀ v, v < n → -99 ≤ w v ∧ w v ≤ 99) :
    g_nearest [gD n E, tD n t, hR n w] = .ok (.tup [.int (minI (gaps n hs w)), .lst ((near n hs w).map hD)]) := by
  have g0 := gD0 n E
  have hle := G.le
  have hlen : ∀ h ∈ hs, h.length = n := fun h hh => ((hmem h).mp hh).len
  refine run_of fun Q hQ => ?_
  walk_at "go"
  unfold m_nearest
  refine wp_stp (mSet_ok (d := .lst (hs.map hD)) (by simp only [mBin_eq, mB_eq, mC_eq, mV_eq, mCall_eq, mIter_eq, mCons_eq, mNil_eq, mFn_eq, mT_eq, mTru_eq, mNot_eq, mNotT_eq, mTest_eq, mIsN_eq, mNotN_eq, mIsi_eq, mSl_eq, mNoPart_eq, mPart_eq, partOf_int, mYes_eq, mL_eq, mLst_eq, mTup_eq, neg1, List.getElem?_cons_succ, List.getElem?_cons_zero, List.set_cons_zero, List.set_cons_succ, vw_d, bw_d, bw_m, R.bind_ok, List.length_cons, List.length_nil, Nat.zero_add, Nat.reduceAdd, Nat.reduceLeDiff, if_true, boolOf_bl, tru_bl, tru_lst, tru_tup, oSub_int, oAdd_int, oLt_int, oGt_int, oLe_int, oGe_int, oEq_int, oNe_int, oEq_str, oIx_tup0, oIx_tup1, fLen_lst, fLen_tup, fAbs_int, fMin2_int, fMax2_int, fInt_bl, fTuple_lst, fTuple_tup, fList_lst, fList_tup, isNon_non, isNon_int, isNon_tup, isNon_str, Bool.not_true, Bool.not_false, hl])) ?_
  walk_at "st"
  refine wp_seq_if (b := false || false) (mOr_ok (by simp only [mBin_eq, mB_eq, mC_eq, mV_eq, mCall_eq, mIter_eq, mCons_eq, mNil_eq, mFn_eq, mT_eq, mTru_eq, mNot_eq, mNotT_eq, mTest_eq, mIsN_eq, mNotN_eq, mIsi_eq, mSl_eq, mNoPart_eq, mPart_eq, partOf_int, mYes_eq, mL_eq, mLst_eq, mTup_eq, neg1, List.getElem?_cons_succ, List.getElem?_cons_zero, List.set_cons_zero, List.set_cons_succ, vw_d, bw_d, bw_m, R.bind_ok, List.length_cons, List.length_nil, Nat.zero_add, Nat.reduceAdd, Nat.reduceLeDiff, if_true, boolOf_bl, tru_bl, tru_lst, tru_tup, oSub_int, oAdd_int, oLt_int, oGt_int, oLe_int, oGe_int, oEq_int, oNe_int, oEq_str, oIx_tup0, oIx_tup1, fLen_lst, fLen_tup, fAbs_int, fMin2_int, fMax2_int, fInt_bl, fTuple_lst, fTuple_tup, fList_lst, fList_tup, isNon_non, isNon_int, isNon_tup, isNon_str, Bool.not_true, Bool.not_false, hR_eq, isT_tup_tup]) fun _ => by simp only [mBin_eq, mB_eq, mC_eq, mV_eq, mCall_eq, mIter_eq, mCons_eq, mNil_eq, mFn_eq, mT_eq, mTru_eq, mNot_eq, mNotT_eq, mTest_eq, mIsN_eq, mNotN_eq, mIsi_eq, mSl_eq, mNoPart_eq, mPart_eq, partOf_int, mYes_eq, mL_eq, mLst_eq, mTup_eq, neg1, List.getElem?_cons_succ, List.getElem?_cons_zero, List.set_cons_zero, List.set_cons_succ, vw_d, bw_d, bw_m, R.bind_ok, List.length_cons, List.length_nil, Nat.zero_add, Nat.reduceAdd, Nat.reduceLeDiff, if_true, boolOf_bl, tru_bl, tru_lst, tru_tup, oSub_int, oAdd_int, oLt_int, oGt_int, oLe_int, oGe_int, oEq_int, oNe_int, oEq_str, oIx_tup0, oIx_tup1, fLen_lst, fLen_tup, fAbs_int, fMin2_int, fMax2_int, fInt_bl, fTuple_lst, fTuple_tup, fList_lst, fList_tup, isNon_non, isNon_int, isNon_tup, isNon_str, Bool.not_true, Bool.not_false, hR_eq, g0, row_len]; simp) (fun z => by cases z) (fun _ => ?_)
  rw [mSkip_eq, wp_ok, thn_nx]
  refine wp_seq_if (b := false) ?_ (fun z => by cases z) (fun _ => ?_)
  · rw [mTru_eq, mLc_of (List.range n) (fun v => .int (w v)) (fun _ => none) ?_ (by simp; omega) fun v hv => ?_]
    · simp
    · rw [items_tup (xs := row n fun v => .int (w v)) (by simp only [mBin_eq, mB_eq, mC_eq, mV_eq, mCall_eq, mIter_eq, mCons_eq, mNil_eq, mFn_eq, mT_eq, mTru_eq, mNot_eq, mNotT_eq, mTest_eq, mIsN_eq, mNotN_eq, mIsi_eq, mSl_eq, mNoPart_eq, mPart_eq, partOf_int, mYes_eq, mL_eq, mLst_eq, mTup_eq, neg1, List.getElem?_cons_succ, List.getElem?_cons_zero, List.set_cons_zero, List.set_cons_succ, vw_d, bw_d, bw_m, R.bind_ok, List.length_cons, List.length_nil, Nat.zero_add, Nat.reduceAdd, Nat.reduceLeDiff, if_true, boolOf_bl, tru_bl, tru_lst, tru_tup, oSub_int, oAdd_int, oLt_int, oGt_int, oLe_int, oGe_int, oEq_int, oNe_int, oEq_str, oIx_tup0, oIx_tup1, fLen_lst, fLen_tup, fAbs_int, fMin2_int, fMax2_int, fInt_bl, fTuple_lst, fTuple_tup, fList_lst, fList_tup, isNon_non, isNon_int, isNon_tup, isNon_str, Bool.not_true, Bool.not_false, hR_eq])]
      rfl
    · have := hr v (List.mem_range.mp hv)
      have m99 : ∀ ρ : Rho, mNeg (mC (.int 99)) ρ = .ok (.int (-99)) := fun _ => rfl
      refine lcf_f tName_eq ?_
      simp only [mBin_eq, mB_eq, mC_eq, mV_eq, mCall_eq, mIter_eq, mCons_eq, mNil_eq, mFn_eq, mT_eq, mTru_eq, mNot_eq, mNotT_eq, mTest_eq, mIsN_eq, mNotN_eq, mIsi_eq, mSl_eq, mNoPart_eq, mPart_eq, partOf_int, mYes_eq, mL_eq, mLst_eq, mTup_eq, neg1, List.getElem?_cons_succ, List.getElem?_cons_zero, List.set_cons_zero, List.set_cons_succ, vw_d, bw_d, bw_m, R.bind_ok, List.length_cons, List.length_nil, Nat.zero_add, Nat.reduceAdd, Nat.reduceLeDiff, if_true, boolOf_bl, tru_bl, tru_lst, tru_tup, oSub_int, oAdd_int, oLt_int, oGt_int, oLe_int, oGe_int, oEq_int, oNe_int, oEq_str, oIx_tup0, oIx_tup1, fLen_lst, fLen_tup, fAbs_int, fMin2_int, fMax2_int, fInt_bl, fTuple_lst, fTuple_tup, fList_lst, fList_tup, isNon_non, isNon_int, isNon_tup, isNon_str, Bool.not_true, Bool.not_false, wipeR, in_range_int, m99, decide_eq_true this]
  rw [mSkip_eq, wp_ok, thn_nx]
  have gne : gaps n hs w ≠ [] := by unfold gaps; simpa using hne
  have lc1 : ∀ x4 x5 x6 : A, mLc [6] (mItemsA (mV 3)) (tName 6) mYes (mFn 2 g_total_difference (mCons (mV 6) (mCons (mV 2) mNil))) [A.d (gD n E), A.d (tD n t), A.d (hR n w), A.d (.lst (hs.map hD)), x4, x5, x6] = .ok (.lst ((gaps n hs w).map D.int)) := fun x4 x5 x6 => by
    rw [lc_hs (F := fun h => .int (gp n (fnH h) w)) (items_lst rfl) (by omega) fun h hh => ?_]
    · unfold gaps; rw [List.map_map]; rfl
    · simp only [mBin_eq, mB_eq, mC_eq, mV_eq, mCall_eq, mIter_eq, mCons_eq, mNil_eq, mFn_eq, mT_eq, mTru_eq, mNot_eq, mNotT_eq, mTest_eq, mIsN_eq, mNotN_eq, mIsi_eq, mSl_eq, mNoPart_eq, mPart_eq, partOf_int, mYes_eq, mL_eq, mLst_eq, mTup_eq, neg1, List.getElem?_cons_succ, List.getElem?_cons_zero, List.set_cons_zero, List.set_cons_succ, vw_d, bw_d, bw_m, R.bind_ok, List.length_cons, List.length_nil, Nat.zero_add, Nat.reduceAdd, Nat.reduceLeDiff, if_true, boolOf_bl, tru_bl, tru_lst, tru_tup, oSub_int, oAdd_int, oLt_int, oGt_int, oLe_int, oGe_int, oEq_int, oNe_int, oEq_str, oIx_tup0, oIx_tup1, fLen_lst, fLen_tup, fAbs_int, fMin2_int, fMax2_int, fInt_bl, fTuple_lst, fTuple_tup, fList_lst, fList_tup, isNon_non, isNon_int, isNon_tup, isNon_str, Bool.not_true, Bool.not_false, wipeR, hD_hR (hlen h hh), total_ok hle]
  refine wp_stp (mSet_ok (d := .int (minI (gaps n hs w))) (by simp only [mBin_eq, mB_eq, mC_eq, mV_eq, mCall_eq, mIter_eq, mCons_eq, mNil_eq, mFn_eq, mT_eq, mTru_eq, mNot_eq, mNotT_eq, mTest_eq, mIsN_eq, mNotN_eq, mIsi_eq, mSl_eq, mNoPart_eq, mPart_eq, partOf_int, mYes_eq, mL_eq, mLst_eq, mTup_eq, neg1, List.getElem?_cons_succ, List.getElem?_cons_zero, List.set_cons_zero, List.set_cons_succ, vw_d, bw_d, bw_m, R.bind_ok, List.length_cons, List.length_nil, Nat.zero_add, Nat.reduceAdd, Nat.reduceLeDiff, if_true, boolOf_bl, tru_bl, tru_lst, tru_tup, oSub_int, oAdd_int, oLt_int, oGt_int, oLe_int, oGe_int, oEq_int, oNe_int, oEq_str, oIx_tup0, oIx_tup1, fLen_lst, fLen_tup, fAbs_int, fMin2_int, fMax2_int, fInt_bl, fTuple_lst, fTuple_tup, fList_lst, fList_tup, isNon_non, isNon_int, isNon_tup, isNon_str, Bool.not_true, Bool.not_false, lc1, fMin1_ok gne])) ?_
  walk_at "st"
  refine wp_end (mRet_ok (d := .tup [.int (minI (gaps n hs w)), .lst ((near n hs w).map hD)]) ?_) hQ
  have lc2 : ∀ x5 x6 : A, mLc [6] (mItemsA (mV 3)) (tName 6) (mT (mBin oEq (mFn 2 g_total_difference (mCons (mV 6) (mCons (mV 2) mNil))) (mB 4))) (mV 6) [A.d (gD n E), A.d (tD n t), A.d (hR n w), A.d (.lst (hs.map hD)), A.d (.int (minI (gaps n hs w))), x5, x6] = .ok (.lst ((near n hs w).map hD)) := fun x5 x6 => by
    refine lc_hs_if (items_lst rfl) (by omega) (fun h hh => ?_) fun h hh => ?_
    · simp only [mBin_eq, mB_eq, mC_eq, mV_eq, mCall_eq, mIter_eq, mCons_eq, mNil_eq, mFn_eq, mT_eq, mTru_eq, mNot_eq, mNotT_eq, mTest_eq, mIsN_eq, mNotN_eq, mIsi_eq, mSl_eq, mNoPart_eq, mPart_eq, partOf_int, mYes_eq, mL_eq, mLst_eq, mTup_eq, neg1, List.getElem?_cons_succ, List.getElem?_cons_zero, List.set_cons_zero, List.set_cons_succ, vw_d, bw_d, bw_m, R.bind_ok, List.length_cons, List.length_nil, Nat.zero_add, Nat.reduceAdd, Nat.reduceLeDiff, if_true, boolOf_bl, tru_bl, tru_lst, tru_tup, oSub_int, oAdd_int, oLt_int, oGt_int, oLe_int, oGe_int, oEq_int, oNe_int, oEq_str, oIx_tup0, oIx_tup1, fLen_lst, fLen_tup, fAbs_int, fMin2_int, fMax2_int, fInt_bl, fTuple_lst, fTuple_tup, fList_lst, fList_tup, isNon_non, isNon_int, isNon_tup, isNon_str, Bool.not_true, Bool.not_false, wipeR, hD_hR (hlen h hh), total_ok hle]
    · simp only [mBin_eq, mB_eq, mC_eq, mV_eq, mCall_eq, mIter_eq, mCons_eq, mNil_eq, mFn_eq, mT_eq, mTru_eq, mNot_eq, mNotT_eq, mTest_eq, mIsN_eq, mNotN_eq, mIsi_eq, mSl_eq, mNoPart_eq, mPart_eq, partOf_int, mYes_eq, mL_eq, mLst_eq, mTup_eq, neg1, List.getElem?_cons_succ, List.getElem?_cons_zero, List.set_cons_zero, List.set_cons_succ, vw_d, bw_d, bw_m, R.bind_ok, List.length_cons, List.length_nil, Nat.zero_add, Nat.reduceAdd, Nat.reduceLeDiff, if_true, boolOf_bl, tru_bl, tru_lst, tru_tup, oSub_int, oAdd_int, oLt_int, oGt_int, oLe_int, oGe_int, oEq_int, oNe_int, oEq_str, oIx_tup0, oIx_tup1, fLen_lst, fLen_tup, fAbs_int, fMin2_int, fMax2_int, fInt_bl, fTuple_lst, fTuple_tup, fList_lst, fList_tup, isNon_non, isNon_int, isNon_tup, isNon_str, Bool.not_true, Bool.not_false, wipeR]
  simp only [mBin_eq, mB_eq, mC_eq, mV_eq, mCall_eq, mIter_eq, mCons_eq, mNil_eq, mFn_eq, mT_eq, mTru_eq, mNot_eq, mNotT_eq, mTest_eq, mIsN_eq, mNotN_eq, mIsi_eq, mSl_eq, mNoPart_eq, mPart_eq, partOf_int, mYes_eq, mL_eq, mLst_eq, mTup_eq, neg1, List.getElem?_cons_succ, List.getElem?_cons_zero, List.set_cons_zero, List.set_cons_succ, vw_d, bw_d, bw_m, R.bind_ok, List.length_cons, List.length_nil, Nat.zero_add, Nat.reduceAdd, Nat.reduceLeDiff, if_true, boolOf_bl, tru_bl, tru_lst, tru_tup, oSub_int, oAdd_int, oLt_int, oGt_int, oLe_int, oGe_int, oEq_int, oNe_int, oEq_str, oIx_tup0, oIx_tup1, fLen_lst, fLen_tup, fAbs_int, fMin2_int, fMax2_int, fInt_bl, fTuple_lst, fTuple_tup, fList_lst, fList_tup, isNon_non, isNon_int, isNon_tup, isNon_str, Bool.not_true, Bool.not_false, lc2]
/-- wishes that are none -/
theorem nearest_bad (G : GOk n E) {d0 d : D} (hl : g_listed_heights [gD n E, tD n t] = .ok d0) (h : (isT "tuple" d = .ok (.bl false) ∨ ∃ xs, d = .tup xs ∧ xs.length ≠ n) ∨ ∃ xs, d = .tup xs ∧ xs.length = n ∧ (∀ x ∈ xs, it3 x) ∧ ∃ x ∈ xs, g_in_range [x, .int (-99), .int 99] = .ok (.bl false)) :
    g_nearest [gD n E, tD n t, d] = .ex "InvalidHeights" := by
  have g0 := gD0 n E
  have hle := G.le
  refine run_raise ?_
  walk_at "go"
  unfold m_nearest
  rw [mSeq_nx (mSet_ok (d := d0) (by simp only [mBin_eq, mB_eq, mC_eq, mV_eq, mCall_eq, mIter_eq, mCons_eq, mNil_eq, mFn_eq, mT_eq, mTru_eq, mNot_eq, mNotT_eq, mTest_eq, mIsN_eq, mNotN_eq, mIsi_eq, mSl_eq, mNoPart_eq, mPart_eq, partOf_int, mYes_eq, mL_eq, mLst_eq, mTup_eq, neg1, List.getElem?_cons_succ, List.getElem?_cons_zero, List.set_cons_zero, List.set_cons_succ, vw_d, bw_d, bw_m, R.bind_ok, List.length_cons, List.length_nil, Nat.zero_add, Nat.reduceAdd, Nat.reduceLeDiff, if_true, boolOf_bl, tru_bl, tru_lst, tru_tup, oSub_int, oAdd_int, oLt_int, oGt_int, oLe_int, oGe_int, oEq_int, oNe_int, oEq_str, oIx_tup0, oIx_tup1, fLen_lst, fLen_tup, fAbs_int, fMin2_int, fMax2_int, fInt_bl, fTuple_lst, fTuple_tup, fList_lst, fList_tup, isNon_non, isNon_int, isNon_tup, isNon_str, Bool.not_true, Bool.not_false, hl]))]
  walk_at "st"
  rcases h with h | ⟨xs, rfl, hlen, h3, x, hx, hxr⟩
  · refine mSeq_ex ?_
    rw [mIfS_t]
    · rfl
    · rcases h with h | ⟨xs, rfl, hlen⟩
      · exact mOr_ok (a := true) (b := true) (by simp only [mBin_eq, mB_eq, mC_eq, mV_eq, mCall_eq, mIter_eq, mCons_eq, mNil_eq, mFn_eq, mT_eq, mTru_eq, mNot_eq, mNotT_eq, mTest_eq, mIsN_eq, mNotN_eq, mIsi_eq, mSl_eq, mNoPart_eq, mPart_eq, partOf_int, mYes_eq, mL_eq, mLst_eq, mTup_eq, neg1, List.getElem?_cons_succ, List.getElem?_cons_zero, List.set_cons_zero, List.set_cons_succ, vw_d, bw_d, bw_m, R.bind_ok, List.length_cons, List.length_nil, Nat.zero_add, Nat.reduceAdd, Nat.reduceLeDiff, if_true, boolOf_bl, tru_bl, tru_lst, tru_tup, oSub_int, oAdd_int, oLt_int, oGt_int, oLe_int, oGe_int, oEq_int, oNe_int, oEq_str, oIx_tup0, oIx_tup1, fLen_lst, fLen_tup, fAbs_int, fMin2_int, fMax2_int, fInt_bl, fTuple_lst, fTuple_tup, fList_lst, fList_tup, isNon_non, isNon_int, isNon_tup, isNon_str, Bool.not_true, Bool.not_false, h]) (fun z => by cases z)
      · exact mOr_ok (a := false) (b := true) (by simp only [mBin_eq, mB_eq, mC_eq, mV_eq, mCall_eq, mIter_eq, mCons_eq, mNil_eq, mFn_eq, mT_eq, mTru_eq, mNot_eq, mNotT_eq, mTest_eq, mIsN_eq, mNotN_eq, mIsi_eq, mSl_eq, mNoPart_eq, mPart_eq, partOf_int, mYes_eq, mL_eq, mLst_eq, mTup_eq, neg1, List.getElem?_cons_succ, List.getElem?_cons_zero, List.set_cons_zero, List.set_cons_succ, vw_d, bw_d, bw_m, R.bind_ok, List.length_cons, List.length_nil, Nat.zero_add, Nat.reduceAdd, Nat.reduceLeDiff, if_true, boolOf_bl, tru_bl, tru_lst, tru_tup, oSub_int, oAdd_int, oLt_int, oGt_int, oLe_int, oGe_int, oEq_int, oNe_int, oEq_str, oIx_tup0, oIx_tup1, fLen_lst, fLen_tup, fAbs_int, fMin2_int, fMax2_int, fInt_bl, fTuple_lst, fTuple_tup, fList_lst, fList_tup, isNon_non, isNon_int, isNon_tup, isNon_str, Bool.not_true, Bool.not_false, isT_tup_tup]) fun _ => by simp only [mBin_eq, mB_eq, mC_eq, mV_eq, mCall_eq, mIter_eq, mCons_eq, mNil_eq, mFn_eq, mT_eq, mTru_eq, mNot_eq, mNotT_eq, mTest_eq, mIsN_eq, mNotN_eq, mIsi_eq, mSl_eq, mNoPart_eq, mPart_eq, partOf_int, mYes_eq, mL_eq, mLst_eq, mTup_eq, neg1, List.getElem?_cons_succ, List.getElem?_cons_zero, List.set_cons_zero, List.set_cons_succ, vw_d, bw_d, bw_m, R.bind_ok, List.length_cons, List.length_nil, Nat.zero_add, Nat.reduceAdd, Nat.reduceLeDiff, if_true, boolOf_bl, tru_bl, tru_lst, tru_tup, oSub_int, oAdd_int, oLt_int, oGt_int, oLe_int, oGe_int, oEq_int, oNe_int, oEq_str, oIx_tup0, oIx_tup1, fLen_lst, fLen_tup, fAbs_int, fMin2_int, fMax2_int, fInt_bl, fTuple_lst, fTuple_tup, fList_lst, fList_tup, isNon_non, isNon_int, isNon_tup, isNon_str, Bool.not_true, Bool.not_false, g0]; simp; omega
  · rw [mSeq_nx (ρ' := [A.d (gD n E), A.d (tD n t), A.d (.tup xs), A.d d0, A.un, A.un, A.un]) (by rw [mIfS_f (mOr_ok (a := false) (b := false) (by simp only [mBin_eq, mB_eq, mC_eq, mV_eq, mCall_eq, mIter_eq, mCons_eq, mNil_eq, mFn_eq, mT_eq, mTru_eq, mNot_eq, mNotT_eq, mTest_eq, mIsN_eq, mNotN_eq, mIsi_eq, mSl_eq, mNoPart_eq, mPart_eq, partOf_int, mYes_eq, mL_eq, mLst_eq, mTup_eq, neg1, List.getElem?_cons_succ, List.getElem?_cons_zero, List.set_cons_zero, List.set_cons_succ, vw_d, bw_d, bw_m, R.bind_ok, List.length_cons, List.length_nil, Nat.zero_add, Nat.reduceAdd, Nat.reduceLeDiff, if_true, boolOf_bl, tru_bl, tru_lst, tru_tup, oSub_int, oAdd_int, oLt_int, oGt_int, oLe_int, oGe_int, oEq_int, oNe_int, oEq_str, oIx_tup0, oIx_tup1, fLen_lst, fLen_tup, fAbs_int, fMin2_int, fMax2_int, fInt_bl, fTuple_lst, fTuple_tup, fList_lst, fList_tup, isNon_non, isNon_int, isNon_tup, isNon_str, Bool.not_true, Bool.not_false, isT_tup_tup]) fun _ => by simp only [mBin_eq, mB_eq, mC_eq, mV_eq, mCall_eq, mIter_eq, mCons_eq, mNil_eq, mFn_eq, mT_eq, mTru_eq, mNot_eq, mNotT_eq, mTest_eq, mIsN_eq, mNotN_eq, mIsi_eq, mSl_eq, mNoPart_eq, mPart_eq, partOf_int, mYes_eq, mL_eq, mLst_eq, mTup_eq, neg1, List.getElem?_cons_succ, List.getElem?_cons_zero, List.set_cons_zero, List.set_cons_succ, vw_d, bw_d, bw_m, R.bind_ok, List.length_cons, List.length_nil, Nat.zero_add, Nat.reduceAdd, Nat.reduceLeDiff, if_true, boolOf_bl, tru_bl, tru_lst, tru_tup, oSub_int, oAdd_int, oLt_int, oGt_int, oLe_int, oGe_int, oEq_int, oNe_int, oEq_str, oIx_tup0, oIx_tup1, fLen_lst, fLen_tup, fAbs_int, fMin2_int, fMax2_int, fInt_bl, fTuple_lst, fTuple_tup, fList_lst, fList_tup, isNon_non, isNon_int, isNon_tup, isNon_str, Bool.not_true, Bool.not_false, g0, hlen]; simp)]; rfl)]
    refine mSeq_ex ?_
    have m99 : ∀ ρ : Rho, mNeg (mC (.int 99)) ρ = .ok (.int (-99)) := fun _ => rfl
    have lc : mLc [5] (mItemsA (mV 2)) (tName 5) (mNot (mTru (mFn 3 g_in_range (mCons (mV 5) (mCons (mNeg (mC (.int 99))) (mCons (mC (.int 99)) mNil)))))) (mV 5) [A.d (gD n E), A.d (tD n t), A.d (.tup xs), A.d d0, A.un, A.un, A.un] = .ok (.lst (xs.filterMap fun d => match g_in_range [d, .int (-99), .int 99] with
      | .ok (.bl false) => some d
      | _ => none)) := by
      refine mLc_ok (items_tup rfl) (by omega) fun y hy => ?_
      obtain ⟨b, hb⟩ := in_range_it3 (h3 y hy) (-99) 99
      rw [hb]
      cases b with
      | true => exact lcf_f tName_eq (by simp only [mBin_eq, mB_eq, mC_eq, mV_eq, mCall_eq, mIter_eq, mCons_eq, mNil_eq, mFn_eq, mT_eq, mTru_eq, mNot_eq, mNotT_eq, mTest_eq, mIsN_eq, mNotN_eq, mIsi_eq, mSl_eq, mNoPart_eq, mPart_eq, partOf_int, mYes_eq, mL_eq, mLst_eq, mTup_eq, neg1, List.getElem?_cons_succ, List.getElem?_cons_zero, List.set_cons_zero, List.set_cons_succ, vw_d, bw_d, bw_m, R.bind_ok, List.length_cons, List.length_nil, Nat.zero_add, Nat.reduceAdd, Nat.reduceLeDiff, if_true, boolOf_bl, tru_bl, tru_lst, tru_tup, oSub_int, oAdd_int, oLt_int, oGt_int, oLe_int, oGe_int, oEq_int, oNe_int, oEq_str, oIx_tup0, oIx_tup1, fLen_lst, fLen_tup, fAbs_int, fMin2_int, fMax2_int, fInt_bl, fTuple_lst, fTuple_tup, fList_lst, fList_tup, isNon_non, isNon_int, isNon_tup, isNon_str, Bool.not_true, Bool.not_false, wipeR, m99, hb])
      | false => exact lcf_t tName_eq (by simp only [mBin_eq, mB_eq, mC_eq, mV_eq, mCall_eq, mIter_eq, mCons_eq, mNil_eq, mFn_eq, mT_eq, mTru_eq, mNot_eq, mNotT_eq, mTest_eq, mIsN_eq, mNotN_eq, mIsi_eq, mSl_eq, mNoPart_eq, mPart_eq, partOf_int, mYes_eq, mL_eq, mLst_eq, mTup_eq, neg1, List.getElem?_cons_succ, List.getElem?_cons_zero, List.set_cons_zero, List.set_cons_succ, vw_d, bw_d, bw_m, R.bind_ok, List.length_cons, List.length_nil, Nat.zero_add, Nat.reduceAdd, Nat.reduceLeDiff, if_true, boolOf_bl, tru_bl, tru_lst, tru_tup, oSub_int, oAdd_int, oLt_int, oGt_int, oLe_int, oGe_int, oEq_int, oNe_int, oEq_str, oIx_tup0, oIx_tup1, fLen_lst, fLen_tup, fAbs_int, fMin2_int, fMax2_int, fInt_bl, fTuple_lst, fTuple_tup, fList_lst, fList_tup, isNon_non, isNon_int, isNon_tup, isNon_str, Bool.not_true, Bool.not_false, wipeR, m99, hb]) (by simp only [mBin_eq, mB_eq, mC_eq, mV_eq, mCall_eq, mIter_eq, mCons_eq, mNil_eq, mFn_eq, mT_eq, mTru_eq, mNot_eq, mNotT_eq, mTest_eq, mIsN_eq, mNotN_eq, mIsi_eq, mSl_eq, mNoPart_eq, mPart_eq, partOf_int, mYes_eq, mL_eq, mLst_eq, mTup_eq, neg1, List.getElem?_cons_succ, List.getElem?_cons_zero, List.set_cons_zero, List.set_cons_succ, vw_d, bw_d, bw_m, R.bind_ok, List.length_cons, List.length_nil, Nat.zero_add, Nat.reduceAdd, Nat.reduceLeDiff, if_true, boolOf_bl, tru_bl, tru_lst, tru_tup, oSub_int, oAdd_int, oLt_int, oGt_int, oLe_int, oGe_int, oEq_int, oNe_int, oEq_str, oIx_tup0, oIx_tup1, fLen_lst, fLen_tup, fAbs_int, fMin2_int, fMax2_int, fInt_bl, fTuple_lst, fTuple_tup, fList_lst, fList_tup, isNon_non, isNon_int, isNon_tup, isNon_str, Bool.not_true, Bool.not_false, wipeR])
    rw [mIfS_t]
    · rfl
    · simp only [mBin_eq, mB_eq, mC_eq, mV_eq, mCall_eq, mIter_eq, mCons_eq, mNil_eq, mFn_eq, mT_eq, mTru_eq, mNot_eq, mNotT_eq, mTest_eq, mIsN_eq, mNotN_eq, mIsi_eq, mSl_eq, mNoPart_eq, mPart_eq, partOf_int, mYes_eq, mL_eq, mLst_eq, mTup_eq, neg1, List.getElem?_cons_succ, List.getElem?_cons_zero, List.set_cons_zero, List.set_cons_succ, vw_d, bw_d, bw_m, R.bind_ok, List.length_cons, List.length_nil, Nat.zero_add, Nat.reduceAdd, Nat.reduceLeDiff, if_true, boolOf_bl, tru_bl, tru_lst, tru_tup, oSub_int, oAdd_int, oLt_int, oGt_int, oLe_int, oGe_int, oEq_int, oNe_int, oEq_str, oIx_tup0, oIx_tup1, fLen_lst, fLen_tup, fAbs_int, fMin2_int, fMax2_int, fInt_bl, fTuple_lst, fTuple_tup, fList_lst, fList_tup, isNon_non, isNon_int, isNon_tup, isNon_str, Bool.not_true, Bool.not_false, lc]
      congr 1
      rw [Bool.not_eq_true', List.isEmpty_eq_false_iff]
      exact fm_ne (y := x) hx (by rw [hxr])
theorem nearest_ex {c : Str} {a b d : D} (h : g_listed_heights [a, b] = .ex c) : g_nearest [a, b, d] = .ex c := by
  refine run_raise ?_
  walk_at "go"
  unfold m_nearest
  refine mSeq_ex ?_
  rw [mSet_eq]
  simp only [mBin_eq, mB_eq, mC_eq, mV_eq, mCall_eq, mIter_eq, mCons_eq, mNil_eq, mFn_eq, mT_eq, mTru_eq, mNot_eq, mNotT_eq, mTest_eq, mIsN_eq, mNotN_eq, mIsi_eq, mSl_eq, mNoPart_eq, mPart_eq, partOf_int, mYes_eq, mL_eq, mLst_eq, mTup_eq, neg1, List.getElem?_cons_succ, List.getElem?_cons_zero, List.set_cons_zero, List.set_cons_succ, vw_d, bw_d, bw_m, R.bind_ok, List.length_cons, List.length_nil, Nat.zero_add, Nat.reduceAdd, Nat.reduceLeDiff, if_true, boolOf_bl, tru_bl, tru_lst, tru_tup, oSub_int, oAdd_int, oLt_int, oGt_int, oLe_int, oGe_int, oEq_int, oNe_int, oEq_str, oIx_tup0, oIx_tup1, fLen_lst, fLen_tup, fAbs_int, fMin2_int, fMax2_int, fInt_bl, fTuple_lst, fTuple_tup, fList_lst, fList_tup, isNon_non, isNon_int, isNon_tup, isNon_str, Bool.not_true, Bool.not_false, h, R.bind_ex]
end
end VL

namespace VL
open PySem PySem.Spec PyProof.Rows L2
local macro_rules | `(tactic| walk_at "go") => `(tactic| simp only [List.map, List.length_cons, List.length_nil, List.replicate, List.cons_append, List.nil_append, Nat.reduceAdd, Nat.reduceSub, Nat.add_zero, Nat.zero_add])
local macro_rules | `(tactic| walk_at "st") => `(tactic| simp only [List.set_cons_zero, List.set_cons_succ])
/-! M30: the nearest heights with a given height at a vertex. -/
section
variable {n : Nat} {E : List Ed} {t : Nat → Option Int} {f g : Nat → Int} {dist : Nat → Nat → Nat}
/-- what reached returns -/
def rch (dist : Nat → Nat → Nat) (f : Nat → Int) (v : Nat) (x : Int) (u : Nat) : Int := if f v < x then max (f u) (x - dist v u) else min (f u) (x + dist v u)
theorem HF.congr (G : GOk n E) (H : HF n E t f) (h : ∀ v, v < n → g v = f v) : HF n E t g := by
  refine ⟨fun e he => ?_, fun v x hv hx => ?_⟩
  · have := G.ed e he
    rw [h e.1 (by omega), h e.2 (by omega)]
    exact H.stp e he
  · rw [h v hv]
    exact H.tld v x hv hx
theorem rch_hf (G : GOk n E) (DD : DistOk n E dist) (hk : ∃ u x, u < n ∧ t u = some x) (Hf : HF n E t f) {v : Nat} {x : Int} (hv : v < n) (h1 : bot_ n dist t v ≤ x) (h2 : x ≤ top_ n dist t v) (h3 : (f v - x) % 2 = 0) : HF n E t (rch dist f v x) ∧ rch dist f v x v = x := by
  have b := bip_of G DD Hf.stp
  have F := fits_more G DD hk Hf hv h1 h2 h3
  have hk' : ∃ u y, u < n ∧ upF t v (some x) u = some y := ⟨v, x, hv, by simp [upF]⟩
  have iff_ := (more_hf G DD hk Hf hv h1 h2 h3).2
  have dv := DD.self hv
  by_cases c : f v < x
  · refine ⟨?_, by unfold rch; rw [if_pos c, dv]; omega⟩
    have Hb := ((iff_ _).mp (bot_hf G DD b F hk')).1
    refine (HF.join G DD hk Hf Hb).congr G fun u hu => ?_
    unfold rch
    rw [if_pos c]
    obtain ⟨⟨w, y, hw, hy, e⟩, hall⟩ := bot_spec (n := n) (dist := dist) hk' u
    have a1 := hall v x hv (by simp [upF])
    have a2 := (bot_min DD hk Hf hu).1
    by_cases q : w = v
    · subst q
      simp [upF] at hy
      omega
    · simp [upF, q] at hy
      have a3 := (bot_spec (n := n) (dist := dist) hk u).2 w y hw hy
      omega
  · refine ⟨?_, by unfold rch; rw [if_neg c, dv]; omega⟩
    have Ht := ((iff_ _).mp (top_hf G DD b F hk')).1
    refine (HF.meet G DD hk Hf Ht).congr G fun u hu => ?_
    unfold rch
    rw [if_neg c]
    obtain ⟨⟨w, y, hw, hy, e⟩, hall⟩ := top_spec (n := n) (dist := dist) hk' u
    have a1 := hall v x hv (by simp [upF])
    have a2 := (Hf.top DD hk hu).1
    by_cases q : w = v
    · subst q
      simp [upF] at hy
      omega
    · simp [upF, q] at hy
      have a3 := (top_spec (n := n) (dist := dist) hk u).2 w y hw hy
      omega
/-- the others are farther away -/
theorem rch_term (DD : DistOk n E dist) {v : Nat} {x : Int} (hv : v < n) (Hg : HF n E t g) (hx : g v = x) {u : Nat} (hu : u < n) : ab (f u - rch dist f v x u) ≤ ab (f u - g u) ∧ (ab (f u - g u) ≤ ab (f u - rch dist f v x u) → g u = rch dist f v x u) := by
  have w := Hg.stp.walk (DD.walk v u hv hu)
  have s := DD.sym hv hu
  unfold rch
  by_cases c : f v < x
  · rw [if_pos c]
    unfold ab
    rcases Int.le_total (f u) (x - dist v u) with q | q
    · rw [Int.max_eq_right q]
      split <;> split <;> omega
    · rw [Int.max_eq_left q]
      split <;> split <;> omega
  · rw [if_neg c]
    unfold ab
    rcases Int.le_total (f u) (x + dist v u) with q | q
    · rw [Int.min_eq_left q]
      split <;> split <;> omega
    · rw [Int.min_eq_right q]
      split <;> split <;> omega
theorem sum_le : ∀ {l : List Nat} {a b : Nat → Int}, (∀ v ∈ l, a v ≤ b v) → (l.map a).sum ≤ (l.map b).sum ∧ ((l.map b).sum ≤ (l.map a).sum → ∀ v ∈ l, b v ≤ a v)
  | [], _, _, _ => by simp
  | x :: l, a, b, h => by
    have ih := sum_le (l := l) (a := a) (b := b) fun y hy => h y (List.mem_cons_of_mem _ hy)
    have h0 := h x List.mem_cons_self
    simp only [List.map_cons, List.sum_cons]
    refine ⟨by omega, fun e v hv => ?_⟩
    rcases List.mem_cons.mp hv with rfl | hv
    · omega
    · exact ih.2 (by omega) v hv
theorem rch_least (DD : DistOk n E dist) {v : Nat} {x : Int} (hv : v < n) (Hg : HF n E t g) (hx : g v = x) : gp n f (rch dist f v x) ≤ gp n f g ∧ (gp n f g ≤ gp n f (rch dist f v x) → ∀ u, u < n → g u = rch dist f v x u) := by
  have key := sum_le (l := List.range n) (a := fun u => ab (f u - rch dist f v x u)) (b := fun u => ab (f u - g u)) fun u hu => (rch_term DD hv Hg hx (List.mem_range.mp hu)).1
  exact ⟨key.1, fun h u hu => (rch_term DD hv Hg hx hu).2 (key.2 h u (List.mem_range.mpr hu))⟩
theorem reached_ok (G : GOk n E) (T : TOk n t) (hd : ∀ s, s < n → g_distances [gD n E, nD s] = .ok (.lst (row n fun v => nD (dist s v)))) (DD : DistOk n E dist) (hf : g_found_paper [gD n E, tD n t] = .ok .non) (Hf : HF n E t f) {v : Nat} {x : Int} (hv : v < n) (h1 : bot_ n dist t v ≤ x) (h2 : x ≤ top_ n dist t v) (h3 : (x - bot_ n dist t v) % 2 = 0) :
    g_reached [gD n E, tD n t, hR n f, nD v, .int x] = .ok (hR n (rch dist f v x)) := by
  have hle := G.le
  refine run_of fun Q hQ => ?_
  walk_at "go"
  unfold m_reached
  refine wp_stp (mExpr_ok (d := .non) (by simp only [mBin_eq, mB_eq, mC_eq, mV_eq, mCall_eq, mIter_eq, mCons_eq, mNil_eq, mFn_eq, mT_eq, mTru_eq, mNot_eq, mNotT_eq, mTest_eq, mIsN_eq, mNotN_eq, mIsi_eq, mSl_eq, mNoPart_eq, mPart_eq, partOf_int, mYes_eq, mL_eq, mLst_eq, mTup_eq, neg1, List.getElem?_cons_succ, List.getElem?_cons_zero, List.set_cons_zero, List.set_cons_succ, vw_d, bw_d, bw_m, R.bind_ok, List.length_cons, List.length_nil, Nat.zero_add, Nat.reduceAdd, Nat.reduceLeDiff, if_true, boolOf_bl, tru_bl, tru_lst, tru_tup, oSub_int, oAdd_int, oLt_int, oGt_int, oLe_int, oGe_int, oEq_int, oNe_int, oEq_str, oIx_tup0, oIx_tup1, fLen_lst, fLen_tup, fAbs_int, fMin2_int, fMax2_int, fInt_bl, fTuple_lst, fTuple_tup, fList_lst, fList_tup, isNon_non, isNon_int, isNon_tup, isNon_str, Bool.not_true, Bool.not_false, check_heights_ok G T Hf])) ?_
  refine wp_stp (mExpr_ok (d := .non) (by simp only [mBin_eq, mB_eq, mC_eq, mV_eq, mCall_eq, mIter_eq, mCons_eq, mNil_eq, mFn_eq, mT_eq, mTru_eq, mNot_eq, mNotT_eq, mTest_eq, mIsN_eq, mNotN_eq, mIsi_eq, mSl_eq, mNoPart_eq, mPart_eq, partOf_int, mYes_eq, mL_eq, mLst_eq, mTup_eq, neg1, List.getElem?_cons_succ, List.getElem?_cons_zero, List.set_cons_zero, List.set_cons_succ, vw_d, bw_d, bw_m, R.bind_ok, List.length_cons, List.length_nil, Nat.zero_add, Nat.reduceAdd, Nat.reduceLeDiff, if_true, boolOf_bl, tru_bl, tru_lst, tru_tup, oSub_int, oAdd_int, oLt_int, oGt_int, oLe_int, oGe_int, oEq_int, oNe_int, oEq_str, oIx_tup0, oIx_tup1, fLen_lst, fLen_tup, fAbs_int, fMin2_int, fMax2_int, fInt_bl, fTuple_lst, fTuple_tup, fList_lst, fList_tup, isNon_non, isNon_int, isNon_tup, isNon_str, Bool.not_true, Bool.not_false, check_vertex_ok E hv])) ?_
  refine wp_stp (ρ' := [.d (gD n E), .d (tD n t), .d (hR n f), .d (nD v), .d (.int x), .d (.int (bot_ n dist t v)), .d (.int (top_ n dist t v)), .un, .un, .un]) ?_ ?_
  · unfold mUnpack
    simp only [mBin_eq, mB_eq, mC_eq, mV_eq, mCall_eq, mIter_eq, mCons_eq, mNil_eq, mFn_eq, mT_eq, mTru_eq, mNot_eq, mNotT_eq, mTest_eq, mIsN_eq, mNotN_eq, mIsi_eq, mSl_eq, mNoPart_eq, mPart_eq, partOf_int, mYes_eq, mL_eq, mLst_eq, mTup_eq, neg1, List.getElem?_cons_succ, List.getElem?_cons_zero, List.set_cons_zero, List.set_cons_succ, vw_d, bw_d, bw_m, R.bind_ok, List.length_cons, List.length_nil, Nat.zero_add, Nat.reduceAdd, Nat.reduceLeDiff, if_true, boolOf_bl, tru_bl, tru_lst, tru_tup, oSub_int, oAdd_int, oLt_int, oGt_int, oLe_int, oGe_int, oEq_int, oNe_int, oEq_str, oIx_tup0, oIx_tup1, fLen_lst, fLen_tup, fAbs_int, fMin2_int, fMax2_int, fInt_bl, fTuple_lst, fTuple_tup, fList_lst, fList_tup, isNon_non, isNon_int, isNon_tup, isNon_str, Bool.not_true, Bool.not_false, ranges_ok G T hd DD hf, limD_get hv]
    rfl
  have m2 : oMod (.int (x - bot_ n dist t v)) (.int 2) = .ok (.int ((x - bot_ n dist t v) % 2)) := oMod_int (by omega)
  refine wp_seq_if (b := false || false) (mOr_ok (by simp only [mBin_eq, mB_eq, mC_eq, mV_eq, mCall_eq, mIter_eq, mCons_eq, mNil_eq, mFn_eq, mT_eq, mTru_eq, mNot_eq, mNotT_eq, mTest_eq, mIsN_eq, mNotN_eq, mIsi_eq, mSl_eq, mNoPart_eq, mPart_eq, partOf_int, mYes_eq, mL_eq, mLst_eq, mTup_eq, neg1, List.getElem?_cons_succ, List.getElem?_cons_zero, List.set_cons_zero, List.set_cons_succ, vw_d, bw_d, bw_m, R.bind_ok, List.length_cons, List.length_nil, Nat.zero_add, Nat.reduceAdd, Nat.reduceLeDiff, if_true, boolOf_bl, tru_bl, tru_lst, tru_tup, oSub_int, oAdd_int, oLt_int, oGt_int, oLe_int, oGe_int, oEq_int, oNe_int, oEq_str, oIx_tup0, oIx_tup1, fLen_lst, fLen_tup, fAbs_int, fMin2_int, fMax2_int, fInt_bl, fTuple_lst, fTuple_tup, fList_lst, fList_tup, isNon_non, isNon_int, isNon_tup, isNon_str, Bool.not_true, Bool.not_false, in_range_int, decide_eq_true (And.intro h1 h2)]) fun _ => by simp only [mBin_eq, mB_eq, mC_eq, mV_eq, mCall_eq, mIter_eq, mCons_eq, mNil_eq, mFn_eq, mT_eq, mTru_eq, mNot_eq, mNotT_eq, mTest_eq, mIsN_eq, mNotN_eq, mIsi_eq, mSl_eq, mNoPart_eq, mPart_eq, partOf_int, mYes_eq, mL_eq, mLst_eq, mTup_eq, neg1, List.getElem?_cons_succ, List.getElem?_cons_zero, List.set_cons_zero, List.set_cons_succ, vw_d, bw_d, bw_m, R.bind_ok, List.length_cons, List.length_nil, Nat.zero_add, Nat.reduceAdd, Nat.reduceLeDiff, if_true, boolOf_bl, tru_bl, tru_lst, tru_tup, oSub_int, oAdd_int, oLt_int, oGt_int, oLe_int, oGe_int, oEq_int, oNe_int, oEq_str, oIx_tup0, oIx_tup1, fLen_lst, fLen_tup, fAbs_int, fMin2_int, fMax2_int, fInt_bl, fTuple_lst, fTuple_tup, fList_lst, fList_tup, isNon_non, isNon_int, isNon_tup, isNon_str, Bool.not_true, Bool.not_false, m2, h3]; simp) (fun z => by cases z) (fun _ => ?_)
  rw [mSkip_eq, wp_ok, thn_nx]
  refine wp_stp (mSet_ok (d := .lst (row n fun u => nD (dist v u))) (by simp only [mBin_eq, mB_eq, mC_eq, mV_eq, mCall_eq, mIter_eq, mCons_eq, mNil_eq, mFn_eq, mT_eq, mTru_eq, mNot_eq, mNotT_eq, mTest_eq, mIsN_eq, mNotN_eq, mIsi_eq, mSl_eq, mNoPart_eq, mPart_eq, partOf_int, mYes_eq, mL_eq, mLst_eq, mTup_eq, neg1, List.getElem?_cons_succ, List.getElem?_cons_zero, List.set_cons_zero, List.set_cons_succ, vw_d, bw_d, bw_m, R.bind_ok, List.length_cons, List.length_nil, Nat.zero_add, Nat.reduceAdd, Nat.reduceLeDiff, if_true, boolOf_bl, tru_bl, tru_lst, tru_tup, oSub_int, oAdd_int, oLt_int, oGt_int, oLe_int, oGe_int, oEq_int, oNe_int, oEq_str, oIx_tup0, oIx_tup1, fLen_lst, fLen_tup, fAbs_int, fMin2_int, fMax2_int, fInt_bl, fTuple_lst, fTuple_tup, fList_lst, fList_tup, isNon_non, isNon_int, isNon_tup, isNon_str, Bool.not_true, Bool.not_false, hd v hv])) ?_
  walk_at "st"
  have hz : ∀ x8 x9 : A, (mIter fZipM (mCons (mV 2) (mCons (mV 7) mNil))) [A.d (gD n E), A.d (tD n t), A.d (hR n f), A.d (nD v), A.d (.int x), A.d (.int (bot_ n dist t v)), A.d (.int (top_ n dist t v)), A.d (.lst (row n fun u => nD (dist v u))), x8, x9] = .ok (row n fun u => .tup [.int (f u), nD (dist v u)]) := fun x8 x9 => by
    simp only [mBin_eq, mB_eq, mC_eq, mV_eq, mCall_eq, mIter_eq, mCons_eq, mNil_eq, mFn_eq, mT_eq, mTru_eq, mNot_eq, mNotT_eq, mTest_eq, mIsN_eq, mNotN_eq, mIsi_eq, mSl_eq, mNoPart_eq, mPart_eq, partOf_int, mYes_eq, mL_eq, mLst_eq, mTup_eq, neg1, List.getElem?_cons_succ, List.getElem?_cons_zero, List.set_cons_zero, List.set_cons_succ, vw_d, bw_d, bw_m, R.bind_ok, List.length_cons, List.length_nil, Nat.zero_add, Nat.reduceAdd, Nat.reduceLeDiff, if_true, boolOf_bl, tru_bl, tru_lst, tru_tup, oSub_int, oAdd_int, oLt_int, oGt_int, oLe_int, oGe_int, oEq_int, oNe_int, oEq_str, oIx_tup0, oIx_tup1, fLen_lst, fLen_tup, fAbs_int, fMin2_int, fMax2_int, fInt_bl, fTuple_lst, fTuple_tup, fList_lst, fList_tup, isNon_non, isNon_int, isNon_tup, isNon_str, Bool.not_true, Bool.not_false, hR_eq]
    show R.ok (zipD _ _) = _
    rw [zip_row]
  refine wp_seq_if (b := decide (f v < x)) (by simp only [mBin_eq, mB_eq, mC_eq, mV_eq, mCall_eq, mIter_eq, mCons_eq, mNil_eq, mFn_eq, mT_eq, mTru_eq, mNot_eq, mNotT_eq, mTest_eq, mIsN_eq, mNotN_eq, mIsi_eq, mSl_eq, mNoPart_eq, mPart_eq, partOf_int, mYes_eq, mL_eq, mLst_eq, mTup_eq, neg1, List.getElem?_cons_succ, List.getElem?_cons_zero, List.set_cons_zero, List.set_cons_succ, vw_d, bw_d, bw_m, R.bind_ok, List.length_cons, List.length_nil, Nat.zero_add, Nat.reduceAdd, Nat.reduceLeDiff, if_true, boolOf_bl, tru_bl, tru_lst, tru_tup, oSub_int, oAdd_int, oLt_int, oGt_int, oLe_int, oGe_int, oEq_int, oNe_int, oEq_str, oIx_tup0, oIx_tup1, fLen_lst, fLen_tup, fAbs_int, fMin2_int, fMax2_int, fInt_bl, fTuple_lst, fTuple_tup, fList_lst, fList_tup, isNon_non, isNon_int, isNon_tup, isNon_str, Bool.not_true, Bool.not_false, hR_get hv]) (fun c => ?_) (fun c => ?_)
  · have c := of_decide_eq_true c
    refine wp_end (mRet_ok (d := hR n (rch dist f v x)) ?_) hQ
    rw [mCall_eq, mCons_eq, lc_row2 (n := n) (F1 := fun u => .int (f u)) (F2 := fun u => nD (dist v u)) (H := fun u => .int (rch dist f v x u)) (hz _ _) (by omega) fun u hu => ?_]
    · simp only [mBin_eq, mB_eq, mC_eq, mV_eq, mCall_eq, mIter_eq, mCons_eq, mNil_eq, mFn_eq, mT_eq, mTru_eq, mNot_eq, mNotT_eq, mTest_eq, mIsN_eq, mNotN_eq, mIsi_eq, mSl_eq, mNoPart_eq, mPart_eq, partOf_int, mYes_eq, mL_eq, mLst_eq, mTup_eq, neg1, List.getElem?_cons_succ, List.getElem?_cons_zero, List.set_cons_zero, List.set_cons_succ, vw_d, bw_d, bw_m, R.bind_ok, List.length_cons, List.length_nil, Nat.zero_add, Nat.reduceAdd, Nat.reduceLeDiff, if_true, boolOf_bl, tru_bl, tru_lst, tru_tup, oSub_int, oAdd_int, oLt_int, oGt_int, oLe_int, oGe_int, oEq_int, oNe_int, oEq_str, oIx_tup0, oIx_tup1, fLen_lst, fLen_tup, fAbs_int, fMin2_int, fMax2_int, fInt_bl, fTuple_lst, fTuple_tup, fList_lst, fList_tup, isNon_non, isNon_int, isNon_tup, isNon_str, Bool.not_true, Bool.not_false, hR_eq]
    · simp only [mBin_eq, mB_eq, mC_eq, mV_eq, mCall_eq, mIter_eq, mCons_eq, mNil_eq, mFn_eq, mT_eq, mTru_eq, mNot_eq, mNotT_eq, mTest_eq, mIsN_eq, mNotN_eq, mIsi_eq, mSl_eq, mNoPart_eq, mPart_eq, partOf_int, mYes_eq, mL_eq, mLst_eq, mTup_eq, neg1, List.getElem?_cons_succ, List.getElem?_cons_zero, List.set_cons_zero, List.set_cons_succ, vw_d, bw_d, bw_m, R.bind_ok, List.length_cons, List.length_nil, Nat.zero_add, Nat.reduceAdd, Nat.reduceLeDiff, if_true, boolOf_bl, tru_bl, tru_lst, tru_tup, oSub_int, oAdd_int, oLt_int, oGt_int, oLe_int, oGe_int, oEq_int, oNe_int, oEq_str, oIx_tup0, oIx_tup1, fLen_lst, fLen_tup, fAbs_int, fMin2_int, fMax2_int, fInt_bl, fTuple_lst, fTuple_tup, fList_lst, fList_tup, isNon_non, isNon_int, isNon_tup, isNon_str, Bool.not_true, Bool.not_false, wipeR]
      congr 2
      unfold rch
      rw [if_pos c]
      split <;> omega
  · have c := of_decide_eq_false c
    rw [mSkip_eq, wp_ok, thn_nx]
    refine wp_end (mRet_ok (d := hR n (rch dist f v x)) ?_) hQ
    rw [mCall_eq, mCons_eq, lc_row2 (n := n) (F1 := fun u => .int (f u)) (F2 := fun u => nD (dist v u)) (H := fun u => .int (rch dist f v x u)) (hz _ _) (by omega) fun u hu => ?_]
    · simp only [mBin_eq, mB_eq, mC_eq, mV_eq, mCall_eq, mIter_eq, mCons_eq, mNil_eq, mFn_eq, mT_eq, mTru_eq, mNot_eq, mNotT_eq, mTest_eq, mIsN_eq, mNotN_eq, mIsi_eq, mSl_eq, mNoPart_eq, mPart_eq, partOf_int, mYes_eq, mL_eq, mLst_eq, mTup_eq, neg1, List.getElem?_cons_succ, List.getElem?_cons_zero, List.set_cons_zero, List.set_cons_succ, vw_d, bw_d, bw_m, R.bind_ok, List.length_cons, List.length_nil, Nat.zero_add, Nat.reduceAdd, Nat.reduceLeDiff, if_true, boolOf_bl, tru_bl, tru_lst, tru_tup, oSub_int, oAdd_int, oLt_int, oGt_int, oLe_int, oGe_int, oEq_int, oNe_int, oEq_str, oIx_tup0, oIx_tup1, fLen_lst, fLen_tup, fAbs_int, fMin2_int, fMax2_int, fInt_bl, fTuple_lst, fTuple_tup, fList_lst, fList_tup, isNon_non, isNon_int, isNon_tup, isNon_str, Bool.not_true, Bool.not_false, hR_eq]
    · simp only [mBin_eq, mB_eq, mC_eq, mV_eq, mCall_eq, mIter_eq, mCons_eq, mNil_eq, mFn_eq, mT_eq, mTru_eq, mNot_eq, mNotT_eq, mTest_eq, mIsN_eq, mNotN_eq, mIsi_eq, mSl_eq, mNoPart_eq, mPart_eq, partOf_int, mYes_eq, mL_eq, mLst_eq, mTup_eq, neg1, List.getElem?_cons_succ, List.getElem?_cons_zero, List.set_cons_zero, List.set_cons_succ, vw_d, bw_d, bw_m, R.bind_ok, List.length_cons, List.length_nil, Nat.zero_add, Nat.reduceAdd, Nat.reduceLeDiff, if_true, boolOf_bl, tru_bl, tru_lst, tru_tup, oSub_int, oAdd_int, oLt_int, oGt_int, oLe_int, oGe_int, oEq_int, oNe_int, oEq_str, oIx_tup0, oIx_tup1, fLen_lst, fLen_tup, fAbs_int, fMin2_int, fMax2_int, fInt_bl, fTuple_lst, fTuple_tup, fList_lst, fList_tup, isNon_non, isNon_int, isNon_tup, isNon_str, Bool.not_true, Bool.not_false, wipeR]
      congr 2
      unfold rch
      rw [if_neg c]
      split <;> omega
/-- a height that the vertex cannot have -/
theorem reached_none (G : GOk n E) (T : TOk n t) (hd : ∀ s, s < n → g_distances [gD n E, nD s] = .ok (.lst (row n fun v => nD (dist s v)))) (DD : DistOk n E dist) (hf : g_found_paper [gD n E, tD n t] = .ok .non) (Hf : HF n E t f) {v : Nat} (hv : v < n) {d : D} (h : d = .non ∨ ∃ x, d = .int x ∧ ¬ (bot_ n dist t v ≤ x ∧ x ≤ top_ n dist t v ∧ (x - bot_ n dist t v) % 2 = 0)) :
    g_reached [gD n E, tD n t, hR n f, nD v, d] = .ex "NoHeights" := by
  refine run_raise ?_
  walk_at "go"
  unfold m_reached
  rw [mSeq_nx (mExpr_ok (d := .non) (by simp only [mBin_eq, mB_eq, mC_eq, mV_eq, mCall_eq, mIter_eq, mCons_eq, mNil_eq, mFn_eq, mT_eq, mTru_eq, mNot_eq, mNotT_eq, mTest_eq, mIsN_eq, mNotN_eq, mIsi_eq, mSl_eq, mNoPart_eq, mPart_eq, partOf_int, mYes_eq, mL_eq, mLst_eq, mTup_eq, neg1, List.getElem?_cons_succ, List.getElem?_cons_zero, List.set_cons_zero, List.set_cons_succ, vw_d, bw_d, bw_m, R.bind_ok, List.length_cons, List.length_nil, Nat.zero_add, Nat.reduceAdd, Nat.reduceLeDiff, if_true, boolOf_bl, tru_bl, tru_lst, tru_tup, oSub_int, oAdd_int, oLt_int, oGt_int, oLe_int, oGe_int, oEq_int, oNe_int, oEq_str, oIx_tup0, oIx_tup1, fLen_lst, fLen_tup, fAbs_int, fMin2_int, fMax2_int, fInt_bl, fTuple_lst, fTuple_tup, fList_lst, fList_tup, isNon_non, isNon_int, isNon_tup, isNon_str, Bool.not_true, Bool.not_false, check_heights_ok G T Hf])), mSeq_nx (mExpr_ok (d := .non) (by simp only [mBin_eq, mB_eq, mC_eq, mV_eq, mCall_eq, mIter_eq, mCons_eq, mNil_eq, mFn_eq, mT_eq, mTru_eq, mNot_eq, mNotT_eq, mTest_eq, mIsN_eq, mNotN_eq, mIsi_eq, mSl_eq, mNoPart_eq, mPart_eq, partOf_int, mYes_eq, mL_eq, mLst_eq, mTup_eq, neg1, List.getElem?_cons_succ, List.getElem?_cons_zero, List.set_cons_zero, List.set_cons_succ, vw_d, bw_d, bw_m, R.bind_ok, List.length_cons, List.length_nil, Nat.zero_add, Nat.reduceAdd, Nat.reduceLeDiff, if_true, boolOf_bl, tru_bl, tru_lst, tru_tup, oSub_int, oAdd_int, oLt_int, oGt_int, oLe_int, oGe_int, oEq_int, oNe_int, oEq_str, oIx_tup0, oIx_tup1, fLen_lst, fLen_tup, fAbs_int, fMin2_int, fMax2_int, fInt_bl, fTuple_lst, fTuple_tup, fList_lst, fList_tup, isNon_non, isNon_int, isNon_tup, isNon_str, Bool.not_true, Bool.not_false, check_vertex_ok E hv]))]
  rw [mSeq_nx (ρ' := [.d (gD n E), .d (tD n t), .d (hR n f), .d (nD v), .d d, .d (.int (bot_ n dist t v)), .d (.int (top_ n dist t v)), .un, .un, .un]) (by
    unfold mUnpack
    simp only [mBin_eq, mB_eq, mC_eq, mV_eq, mCall_eq, mIter_eq, mCons_eq, mNil_eq, mFn_eq, mT_eq, mTru_eq, mNot_eq, mNotT_eq, mTest_eq, mIsN_eq, mNotN_eq, mIsi_eq, mSl_eq, mNoPart_eq, mPart_eq, partOf_int, mYes_eq, mL_eq, mLst_eq, mTup_eq, neg1, List.getElem?_cons_succ, List.getElem?_cons_zero, List.set_cons_zero, List.set_cons_succ, vw_d, bw_d, bw_m, R.bind_ok, List.length_cons, List.length_nil, Nat.zero_add, Nat.reduceAdd, Nat.reduceLeDiff, if_true, boolOf_bl, tru_bl, tru_lst, tru_tup, oSub_int, oAdd_int, oLt_int, oGt_int, oLe_int, oGe_int, oEq_int, oNe_int, oEq_str, oIx_tup0, oIx_tup1, fLen_lst, fLen_tup, fAbs_int, fMin2_int, fMax2_int, fInt_bl, fTuple_lst, fTuple_tup, fList_lst, fList_tup, isNon_non, isNon_int, isNon_tup, isNon_str, Bool.not_true, Bool.not_false, ranges_ok G T hd DD hf, limD_get hv]
    rfl)]
  refine mSeq_ex ?_
  rw [mIfS_t]
  · rfl
  · rcases h with rfl | ⟨x, rfl, h⟩
    · exact mOr_ok (a := true) (b := true) (by simp only [mBin_eq, mB_eq, mC_eq, mV_eq, mCall_eq, mIter_eq, mCons_eq, mNil_eq, mFn_eq, mT_eq, mTru_eq, mNot_eq, mNotT_eq, mTest_eq, mIsN_eq, mNotN_eq, mIsi_eq, mSl_eq, mNoPart_eq, mPart_eq, partOf_int, mYes_eq, mL_eq, mLst_eq, mTup_eq, neg1, List.getElem?_cons_succ, List.getElem?_cons_zero, List.set_cons_zero, List.set_cons_succ, vw_d, bw_d, bw_m, R.bind_ok, List.length_cons, List.length_nil, Nat.zero_add, Nat.reduceAdd, Nat.reduceLeDiff, if_true, boolOf_bl, tru_bl, tru_lst, tru_tup, oSub_int, oAdd_int, oLt_int, oGt_int, oLe_int, oGe_int, oEq_int, oNe_int, oEq_str, oIx_tup0, oIx_tup1, fLen_lst, fLen_tup, fAbs_int, fMin2_int, fMax2_int, fInt_bl, fTuple_lst, fTuple_tup, fList_lst, fList_tup, isNon_non, isNon_int, isNon_tup, isNon_str, Bool.not_true, Bool.not_false, in_range_non]) (fun z => by cases z)
    · have m2 : oMod (.int (x - bot_ n dist t v)) (.int 2) = .ok (.int ((x - bot_ n dist t v) % 2)) := oMod_int (by omega)
      by_cases c : bot_ n dist t v ≤ x ∧ x ≤ top_ n dist t v
      · refine mOr_ok (a := false) (b := true) (by simp only [mBin_eq, mB_eq, mC_eq, mV_eq, mCall_eq, mIter_eq, mCons_eq, mNil_eq, mFn_eq, mT_eq, mTru_eq, mNot_eq, mNotT_eq, mTest_eq, mIsN_eq, mNotN_eq, mIsi_eq, mSl_eq, mNoPart_eq, mPart_eq, partOf_int, mYes_eq, mL_eq, mLst_eq, mTup_eq, neg1, List.getElem?_cons_succ, List.getElem?_cons_zero, List.set_cons_zero, List.set_cons_succ, vw_d, bw_d, bw_m, R.bind_ok, List.length_cons, List.length_nil, Nat.zero_add, Nat.reduceAdd, Nat.reduceLeDiff, if_true, boolOf_bl, tru_bl, tru_lst, tru_tup, oSub_int, oAdd_int, oLt_int, oGt_int, oLe_int, oGe_int, oEq_int, oNe_int, oEq_str, oIx_tup0, oIx_tup1, fLen_lst, fLen_tup, fAbs_int, fMin2_int, fMax2_int, fInt_bl, fTuple_lst, fTuple_tup, fList_lst, fList_tup, isNon_non, isNon_int, isNon_tup, isNon_str, Bool.not_true, Bool.not_false, in_range_int, decide_eq_true c]) fun _ => ?_
        have : (x - bot_ n dist t v) % 2 ≠ 0 := fun z => h ⟨c.1, c.2, z⟩
        simp only [mBin_eq, mB_eq, mC_eq, mV_eq, mCall_eq, mIter_eq, mCons_eq, mNil_eq, mFn_eq, mT_eq, mTru_eq, mNot_eq, mNotT_eq, mTest_eq, mIsN_eq, mNotN_eq, mIsi_eq, mSl_eq, mNoPart_eq, mPart_eq, partOf_int, mYes_eq, mL_eq, mLst_eq, mTup_eq, neg1, List.getElem?_cons_succ, List.getElem?_cons_zero, List.set_cons_zero, List.set_cons_succ, vw_d, bw_d, bw_m, R.bind_ok, List.length_cons, List.length_nil, Nat.zero_add, Nat.reduceAdd, Nat.reduceLeDiff, if_true, boolOf_bl, tru_bl, tru_lst, tru_tup, oSub_int, oAdd_int, oLt_int, oGt_int, oLe_int, oGe_int, oEq_int, oNe_int, oEq_str, oIx_tup0, oIx_tup1, fLen_lst, fLen_tup, fAbs_int, fMin2_int, fMax2_int, fInt_bl, fTuple_lst, fTuple_tup, fList_lst, fList_tup, isNon_non, isNon_int, isNon_tup, isNon_str, Bool.not_true, Bool.not_false, m2, decide_eq_true this]
      · exact mOr_ok (a := true) (b := true) (by simp only [mBin_eq, mB_eq, mC_eq, mV_eq, mCall_eq, mIter_eq, mCons_eq, mNil_eq, mFn_eq, mT_eq, mTru_eq, mNot_eq, mNotT_eq, mTest_eq, mIsN_eq, mNotN_eq, mIsi_eq, mSl_eq, mNoPart_eq, mPart_eq, partOf_int, mYes_eq, mL_eq, mLst_eq, mTup_eq, neg1, List.getElem?_cons_succ, List.getElem?_cons_zero, List.set_cons_zero, List.set_cons_succ, vw_d, bw_d, bw_m, R.bind_ok, List.length_cons, List.length_nil, Nat.zero_add, Nat.reduceAdd, Nat.reduceLeDiff, if_true, boolOf_bl, tru_bl, tru_lst, tru_tup, oSub_int, oAdd_int, oLt_int, oGt_int, oLe_int, oGe_int, oEq_int, oNe_int, oEq_str, oIx_tup0, oIx_tup1, fLen_lst, fLen_tup, fAbs_int, fMin2_int, fMax2_int, fInt_bl, fTuple_lst, fTuple_tup, fList_lst, fList_tup, isNon_non, isNon_int, isNon_tup, isNon_str, Bool.not_true, Bool.not_false, in_range_int, decide_eq_false c]) (fun z => by cases z)
theorem filter_one {α : Type} {p : α → Bool} {a : α} : ∀ {l : List α}, l.Nodup → a ∈ l → p a = true → (∀ b ∈ l, p b = true → b = a) → l.filter p = [a]
  | [], _, h, _, _ => by cases h
  | x :: l, nd, h, pa, hu => by
    obtain ⟨n1, n2⟩ := List.nodup_cons.mp nd
    by_cases c : x = a
    · subst c
      rw [List.filter_cons_of_pos pa]
      congr 1
      rw [List.filter_eq_nil_iff]
      intro b hb hp
      have := hu b (List.mem_cons_of_mem _ hb) hp
      exact n1 (this ▸ hb)
    · have hx : ¬ p x = true := fun z => c (hu x List.mem_cons_self z)
      rw [List.filter_cons_of_neg hx]
      rcases List.mem_cons.mp h with e | e
      · exact absurd e.symm c
      · exact filter_one n2 e pa fun b hb hp => hu b (List.mem_cons_of_mem _ hb) hp
end
end VL

namespace VL
open PySem PySem.Spec PyProof.Rows L2
local macro_rules | `(tactic| walk_at "go") => `(tactic| simp only [List.map, List.length_cons, List.length_nil, List.replicate, List.cons_append, List.nil_append, Nat.reduceAdd, Nat.reduceSub, Nat.add_zero, Nat.zero_add])
local macro_rules | `(tactic| walk_at "st") => `(tactic| simp only [List.set_cons_zero, List.set_cons_succ])
/-! M31: answers, candidates, the best question. -/
section
variable {n : Nat} {E : List Ed} {t : Nat → Option Int} {f : Nat → Int} {hs : List (List Int)}
theorem prD_eq (p : Nat × Int) : prD p = .tup [nD p.1, .int p.2] := rfl
def ansD (as : List (Nat × Int)) : D := .tup (as.map prD)
def AnsOk (n : Nat) (as : List (Nat × Int)) : Prop := ∀ p ∈ as, p.1 < n ∧ -99 ≤ p.2 ∧ p.2 ≤ 99
def agr (as : List (Nat × Int)) (h : List Int) : Bool := as.all fun p => decide (fnH h p.1 = p.2)
/-- what is no answer -/
def BadA (n : Nat) (w : D) : Prop := isT "tuple" w = .ok (.bl false) ∨ (∃ xs, w = .tup xs ∧ xs.length ≠ 2) ∨ (∃ a b, w = .tup [a, b] ∧ g_in_range [a, .int 0, .int ((n : Int) - 1)] = .ok (.bl false)) ∨ ∃ a b, w = .tup [a, b] ∧ g_in_range [a, .int 0, .int ((n : Int) - 1)] = .ok (.bl true) ∧ g_in_range [b, .int (-99), .int 99] = .ok (.bl false)
theorem answers_loop (E : List Ed) {as : List (Nat × Int)} (ha : AnsOk n as) (hl : as.length ≤ 100) {ws : List D} (hw : ws = [] ∨ ∃ w, ws = [w] ∧ BadA n w) : g_are_answers [gD n E, .tup (as.map prD ++ ws)] = .ok (.bl (ws.isEmpty)) := by
  have g0 := gD0 n E
  have m99 : ∀ ρ : Rho, mNeg (mC (.int 99)) ρ = .ok (.int (-99)) := fun _ => rfl
  refine run_of fun Q hQ => ?_
  walk_at "go"
  unfold m_are_answers
  refine wp_seq_if (b := false) (by simp only [mBin_eq, mB_eq, mC_eq, mV_eq, mCall_eq, mIter_eq, mCons_eq, mNil_eq, mFn_eq, mT_eq, mTru_eq, mNot_eq, mNotT_eq, mTest_eq, mIsN_eq, mNotN_eq, mIsi_eq, mSl_eq, mNoPart_eq, mPart_eq, partOf_int, mYes_eq, mL_eq, mLst_eq, mTup_eq, neg1, List.getElem?_cons_succ, List.getElem?_cons_zero, List.set_cons_zero, List.set_cons_succ, vw_d, bw_d, bw_m, R.bind_ok, List.length_cons, List.length_nil, Nat.zero_add, Nat.reduceAdd, Nat.reduceLeDiff, if_true, boolOf_bl, tru_bl, tru_lst, tru_tup, oSub_int, oAdd_int, oLt_int, oGt_int, oLe_int, oGe_int, oEq_int, oNe_int, oEq_str, oIx_tup0, oIx_tup1, fLen_lst, fLen_tup, fAbs_int, fMin2_int, fMax2_int, fInt_bl, fTuple_lst, fTuple_tup, fList_lst, fList_tup, isNon_non, isNon_int, isNon_tup, isNon_str, Bool.not_true, Bool.not_false, isT_tup_tup]) (fun z => by cases z) (fun _ => ?_)
  rw [mSkip_eq, wp_ok, thn_nx, wp_seq]
  refine wp_forR (ds := as.map prD ++ ws) (fun pre ρ => (∃ a2 : A, ρ = [A.d (gD n E), A.d (.tup (as.map prD ++ ws)), a2]) ∧ pre.length ≤ as.length) (items_tup rfl) ⟨⟨_, rfl⟩, by simp⟩ ?_ ?_
  · rintro pre d r ρ e ⟨⟨a2, rfl⟩, hp⟩
    refine ⟨_, rfl, fun Q' hQ' hR' => ?_⟩
    walk_at "st"
    have hd : (as.map prD ++ ws)[pre.length]? = some d := by rw [e]; simp
    by_cases c : pre.length < as.length
    · rw [List.getElem?_append_left (by simpa using c), List.getElem?_map, List.getElem?_eq_getElem c] at hd
      simp at hd
      have hm := ha _ (List.getElem_mem c)
      generalize as[pre.length] = p at hd hm
      subst hd
      refine wp_seq_if (b := false || (false || false)) (mOr_ok (by simp only [mBin_eq, mB_eq, mC_eq, mV_eq, mCall_eq, mIter_eq, mCons_eq, mNil_eq, mFn_eq, mT_eq, mTru_eq, mNot_eq, mNotT_eq, mTest_eq, mIsN_eq, mNotN_eq, mIsi_eq, mSl_eq, mNoPart_eq, mPart_eq, partOf_int, mYes_eq, mL_eq, mLst_eq, mTup_eq, neg1, List.getElem?_cons_succ, List.getElem?_cons_zero, List.set_cons_zero, List.set_cons_succ, vw_d, bw_d, bw_m, R.bind_ok, List.length_cons, List.length_nil, Nat.zero_add, Nat.reduceAdd, Nat.reduceLeDiff, if_true, boolOf_bl, tru_bl, tru_lst, tru_tup, oSub_int, oAdd_int, oLt_int, oGt_int, oLe_int, oGe_int, oEq_int, oNe_int, oEq_str, oIx_tup0, oIx_tup1, fLen_lst, fLen_tup, fAbs_int, fMin2_int, fMax2_int, fInt_bl, fTuple_lst, fTuple_tup, fList_lst, fList_tup, isNon_non, isNon_int, isNon_tup, isNon_str, Bool.not_true, Bool.not_false, prD_eq, isT_tup_tup]) fun _ => mOr_ok (by simp only [mBin_eq, mB_eq, mC_eq, mV_eq, mCall_eq, mIter_eq, mCons_eq, mNil_eq, mFn_eq, mT_eq, mTru_eq, mNot_eq, mNotT_eq, mTest_eq, mIsN_eq, mNotN_eq, mIsi_eq, mSl_eq, mNoPart_eq, mPart_eq, partOf_int, mYes_eq, mL_eq, mLst_eq, mTup_eq, neg1, List.getElem?_cons_succ, List.getElem?_cons_zero, List.set_cons_zero, List.set_cons_succ, vw_d, bw_d, bw_m, R.bind_ok, List.length_cons, List.length_nil, Nat.zero_add, Nat.reduceAdd, Nat.reduceLeDiff, if_true, boolOf_bl, tru_bl, tru_lst, tru_tup, oSub_int, oAdd_int, oLt_int, oGt_int, oLe_int, oGe_int, oEq_int, oNe_int, oEq_str, oIx_tup0, oIx_tup1, fLen_lst, fLen_tup, fAbs_int, fMin2_int, fMax2_int, fInt_bl, fTuple_lst, fTuple_tup, fList_lst, fList_tup, isNon_non, isNon_int, isNon_tup, isNon_str, Bool.not_true, Bool.not_false, prD_eq]; rfl) fun _ => ?_) (fun z => by cases z) (fun _ => ?_)
      · simp only [mBin_eq, mB_eq, mC_eq, mV_eq, mCall_eq, mIter_eq, mCons_eq, mNil_eq, mFn_eq, mT_eq, mTru_eq, mNot_eq, mNotT_eq, mTest_eq, mIsN_eq, mNotN_eq, mIsi_eq, mSl_eq, mNoPart_eq, mPart_eq, partOf_int, mYes_eq, mL_eq, mLst_eq, mTup_eq, neg1, List.getElem?_cons_succ, List.getElem?_cons_zero, List.set_cons_zero, List.set_cons_succ, vw_d, bw_d, bw_m, R.bind_ok, List.length_cons, List.length_nil, Nat.zero_add, Nat.reduceAdd, Nat.reduceLeDiff, if_true, boolOf_bl, tru_bl, tru_lst, tru_tup, oSub_int, oAdd_int, oLt_int, oGt_int, oLe_int, oGe_int, oEq_int, oNe_int, oEq_str, oIx_tup0, oIx_tup1, fLen_lst, fLen_tup, fAbs_int, fMin2_int, fMax2_int, fInt_bl, fTuple_lst, fTuple_tup, fList_lst, fList_tup, isNon_non, isNon_int, isNon_tup, isNon_str, Bool.not_true, Bool.not_false, prD_eq, g0, in_range_int]
        rw [decide_eq_true (by omega)]
        rfl
      rw [mSkip_eq, wp_ok, thn_nx]
      refine wp_if (b := false) (by simp only [mBin_eq, mB_eq, mC_eq, mV_eq, mCall_eq, mIter_eq, mCons_eq, mNil_eq, mFn_eq, mT_eq, mTru_eq, mNot_eq, mNotT_eq, mTest_eq, mIsN_eq, mNotN_eq, mIsi_eq, mSl_eq, mNoPart_eq, mPart_eq, partOf_int, mYes_eq, mL_eq, mLst_eq, mTup_eq, neg1, List.getElem?_cons_succ, List.getElem?_cons_zero, List.set_cons_zero, List.set_cons_succ, vw_d, bw_d, bw_m, R.bind_ok, List.length_cons, List.length_nil, Nat.zero_add, Nat.reduceAdd, Nat.reduceLeDiff, if_true, boolOf_bl, tru_bl, tru_lst, tru_tup, oSub_int, oAdd_int, oLt_int, oGt_int, oLe_int, oGe_int, oEq_int, oNe_int, oEq_str, oIx_tup0, oIx_tup1, fLen_lst, fLen_tup, fAbs_int, fMin2_int, fMax2_int, fInt_bl, fTuple_lst, fTuple_tup, fList_lst, fList_tup, isNon_non, isNon_int, isNon_tup, isNon_str, Bool.not_true, Bool.not_false, prD_eq, m99, in_range_int, decide_eq_true hm.2]) (fun z => by cases z) (fun _ => ?_)
      rw [mSkip_eq, wp_ok]
      exact hQ' _ ⟨⟨_, rfl⟩, by simp; omega⟩
    · have hpe : pre.length = as.length := by omega
      rw [List.getElem?_append_right (by simp; omega)] at hd
      rcases hw with rfl | ⟨w, rfl, hb⟩
      · simp at hd
      · simp [hpe] at hd
        subst hd
        have fin : Q' (.rt (.bl false)) := hR' _ hQ
        rcases hb with h | ⟨xs, rfl, h⟩ | ⟨a, b, rfl, h⟩ | ⟨a, b, rfl, h1, h2⟩
        · refine wp_seq_if (b := true) (mOr_ok (a := true) (b := true) (by simp only [mBin_eq, mB_eq, mC_eq, mV_eq, mCall_eq, mIter_eq, mCons_eq, mNil_eq, mFn_eq, mT_eq, mTru_eq, mNot_eq, mNotT_eq, mTest_eq, mIsN_eq, mNotN_eq, mIsi_eq, mSl_eq, mNoPart_eq, mPart_eq, partOf_int, mYes_eq, mL_eq, mLst_eq, mTup_eq, neg1, List.getElem?_cons_succ, List.getElem?_cons_zero, List.set_cons_zero, List.set_cons_succ, vw_d, bw_d, bw_m, R.bind_ok, List.length_cons, List.length_nil, Nat.zero_add, Nat.reduceAdd, Nat.reduceLeDiff, if_true, boolOf_bl, tru_bl, tru_lst, tru_tup, oSub_int, oAdd_int, oLt_int, oGt_int, oLe_int, oGe_int, oEq_int, oNe_int, oEq_str, oIx_tup0, oIx_tup1, fLen_lst, fLen_tup, fAbs_int, fMin2_int, fMax2_int, fInt_bl, fTuple_lst, fTuple_tup, fList_lst, fList_tup, isNon_non, isNon_int, isNon_tup, isNon_str, Bool.not_true, Bool.not_false, h]) (fun z => by cases z)) (fun _ => ?_) (fun z => by cases z)
          exact wp_end (mRet_ok (d := .bl false) rfl) fin
        · refine wp_seq_if (b := true) (mOr_ok (a := false) (b := true) (by simp only [mBin_eq, mB_eq, mC_eq, mV_eq, mCall_eq, mIter_eq, mCons_eq, mNil_eq, mFn_eq, mT_eq, mTru_eq, mNot_eq, mNotT_eq, mTest_eq, mIsN_eq, mNotN_eq, mIsi_eq, mSl_eq, mNoPart_eq, mPart_eq, partOf_int, mYes_eq, mL_eq, mLst_eq, mTup_eq, neg1, List.getElem?_cons_succ, List.getElem?_cons_zero, List.set_cons_zero, List.set_cons_succ, vw_d, bw_d, bw_m, R.bind_ok, List.length_cons, List.length_nil, Nat.zero_add, Nat.reduceAdd, Nat.reduceLeDiff, if_true, boolOf_bl, tru_bl, tru_lst, tru_tup, oSub_int, oAdd_int, oLt_int, oGt_int, oLe_int, oGe_int, oEq_int, oNe_int, oEq_str, oIx_tup0, oIx_tup1, fLen_lst, fLen_tup, fAbs_int, fMin2_int, fMax2_int, fInt_bl, fTuple_lst, fTuple_tup, fList_lst, fList_tup, isNon_non, isNon_int, isNon_tup, isNon_str, Bool.not_true, Bool.not_false, isT_tup_tup]) fun _ => mOr_ok (a := true) (b := true) (by simp only [mBin_eq, mB_eq, mC_eq, mV_eq, mCall_eq, mIter_eq, mCons_eq, mNil_eq, mFn_eq, mT_eq, mTru_eq, mNot_eq, mNotT_eq, mTest_eq, mIsN_eq, mNotN_eq, mIsi_eq, mSl_eq, mNoPart_eq, mPart_eq, partOf_int, mYes_eq, mL_eq, mLst_eq, mTup_eq, neg1, List.getElem?_cons_succ, List.getElem?_cons_zero, List.set_cons_zero, List.set_cons_succ, vw_d, bw_d, bw_m, R.bind_ok, List.length_cons, List.length_nil, Nat.zero_add, Nat.reduceAdd, Nat.reduceLeDiff, if_true, boolOf_bl, tru_bl, tru_lst, tru_tup, oSub_int, oAdd_int, oLt_int, oGt_int, oLe_int, oGe_int, oEq_int, oNe_int, oEq_str, oIx_tup0, oIx_tup1, fLen_lst, fLen_tup, fAbs_int, fMin2_int, fMax2_int, fInt_bl, fTuple_lst, fTuple_tup, fList_lst, fList_tup, isNon_non, isNon_int, isNon_tup, isNon_str, Bool.not_true, Bool.not_false]; simp; omega) (fun z => by cases z)) (fun _ => ?_) (fun z => by cases z)
          exact wp_end (mRet_ok (d := .bl false) rfl) fin
        · refine wp_seq_if (b := true) (mOr_ok (a := false) (b := true) (by simp only [mBin_eq, mB_eq, mC_eq, mV_eq, mCall_eq, mIter_eq, mCons_eq, mNil_eq, mFn_eq, mT_eq, mTru_eq, mNot_eq, mNotT_eq, mTest_eq, mIsN_eq, mNotN_eq, mIsi_eq, mSl_eq, mNoPart_eq, mPart_eq, partOf_int, mYes_eq, mL_eq, mLst_eq, mTup_eq, neg1, List.getElem?_cons_succ, List.getElem?_cons_zero, List.set_cons_zero, List.set_cons_succ, vw_d, bw_d, bw_m, R.bind_ok, List.length_cons, List.length_nil, Nat.zero_add, Nat.reduceAdd, Nat.reduceLeDiff, if_true, boolOf_bl, tru_bl, tru_lst, tru_tup, oSub_int, oAdd_int, oLt_int, oGt_int, oLe_int, oGe_int, oEq_int, oNe_int, oEq_str, oIx_tup0, oIx_tup1, fLen_lst, fLen_tup, fAbs_int, fMin2_int, fMax2_int, fInt_bl, fTuple_lst, fTuple_tup, fList_lst, fList_tup, isNon_non, isNon_int, isNon_tup, isNon_str, Bool.not_true, Bool.not_false, isT_tup_tup]) fun _ => mOr_ok (a := false) (b := true) (by simp only [mBin_eq, mB_eq, mC_eq, mV_eq, mCall_eq, mIter_eq, mCons_eq, mNil_eq, mFn_eq, mT_eq, mTru_eq, mNot_eq, mNotT_eq, mTest_eq, mIsN_eq, mNotN_eq, mIsi_eq, mSl_eq, mNoPart_eq, mPart_eq, partOf_int, mYes_eq, mL_eq, mLst_eq, mTup_eq, neg1, List.getElem?_cons_succ, List.getElem?_cons_zero, List.set_cons_zero, List.set_cons_succ, vw_d, bw_d, bw_m, R.bind_ok, List.length_cons, List.length_nil, Nat.zero_add, Nat.reduceAdd, Nat.reduceLeDiff, if_true, boolOf_bl, tru_bl, tru_lst, tru_tup, oSub_int, oAdd_int, oLt_int, oGt_int, oLe_int, oGe_int, oEq_int, oNe_int, oEq_str, oIx_tup0, oIx_tup1, fLen_lst, fLen_tup, fAbs_int, fMin2_int, fMax2_int, fInt_bl, fTuple_lst, fTuple_tup, fList_lst, fList_tup, isNon_non, isNon_int, isNon_tup, isNon_str, Bool.not_true, Bool.not_false]; rfl) fun _ => by simp only [mBin_eq, mB_eq, mC_eq, mV_eq, mCall_eq, mIter_eq, mCons_eq, mNil_eq, mFn_eq, mT_eq, mTru_eq, mNot_eq, mNotT_eq, mTest_eq, mIsN_eq, mNotN_eq, mIsi_eq, mSl_eq, mNoPart_eq, mPart_eq, partOf_int, mYes_eq, mL_eq, mLst_eq, mTup_eq, neg1, List.getElem?_cons_succ, List.getElem?_cons_zero, List.set_cons_zero, List.set_cons_succ, vw_d, bw_d, bw_m, R.bind_ok, List.length_cons, List.length_nil, Nat.zero_add, Nat.reduceAdd, Nat.reduceLeDiff, if_true, boolOf_bl, tru_bl, tru_lst, tru_tup, oSub_int, oAdd_int, oLt_int, oGt_int, oLe_int, oGe_int, oEq_int, oNe_int, oEq_str, oIx_tup0, oIx_tup1, fLen_lst, fLen_tup, fAbs_int, fMin2_int, fMax2_int, fInt_bl, fTuple_lst, fTuple_tup, fList_lst, fList_tup, isNon_non, isNon_int, isNon_tup, isNon_str, Bool.not_true, Bool.not_false, g0, h]) (fun _ => ?_) (fun z => by cases z)
          exact wp_end (mRet_ok (d := .bl false) rfl) fin
        · refine wp_seq_if (b := false) (mOr_ok (a := false) (b := false) (by simp only [mBin_eq, mB_eq, mC_eq, mV_eq, mCall_eq, mIter_eq, mCons_eq, mNil_eq, mFn_eq, mT_eq, mTru_eq, mNot_eq, mNotT_eq, mTest_eq, mIsN_eq, mNotN_eq, mIsi_eq, mSl_eq, mNoPart_eq, mPart_eq, partOf_int, mYes_eq, mL_eq, mLst_eq, mTup_eq, neg1, List.getElem?_cons_succ, List.getElem?_cons_zero, List.set_cons_zero, List.set_cons_succ, vw_d, bw_d, bw_m, R.bind_ok, List.length_cons, List.length_nil, Nat.zero_add, Nat.reduceAdd, Nat.reduceLeDiff, if_true, boolOf_bl, tru_bl, tru_lst, tru_tup, oSub_int, oAdd_int, oLt_int, oGt_int, oLe_int, oGe_int, oEq_int, oNe_int, oEq_str, oIx_tup0, oIx_tup1, fLen_lst, fLen_tup, fAbs_int, fMin2_int, fMax2_int, fInt_bl, fTuple_lst, fTuple_tup, fList_lst, fList_tup, isNon_non, isNon_int, isNon_tup, isNon_str, Bool.not_true, Bool.not_false, isT_tup_tup]) fun _ => mOr_ok (a := false) (b := false) (by simp only [mBin_eq, mB_eq, mC_eq, mV_eq, mCall_eq, mIter_eq, mCons_eq, mNil_eq, mFn_eq, mT_eq, mTru_eq, mNot_eq, mNotT_eq, mTest_eq, mIsN_eq, mNotN_eq, mIsi_eq, mSl_eq, mNoPart_eq, mPart_eq, partOf_int, mYes_eq, mL_eq, mLst_eq, mTup_eq, neg1, List.getElem?_cons_succ, List.getElem?_cons_zero, List.set_cons_zero, List.set_cons_succ, vw_d, bw_d, bw_m, R.bind_ok, List.length_cons, List.length_nil, Nat.zero_add, Nat.reduceAdd, Nat.reduceLeDiff, if_true, boolOf_bl, tru_bl, tru_lst, tru_tup, oSub_int, oAdd_int, oLt_int, oGt_int, oLe_int, oGe_int, oEq_int, oNe_int, oEq_str, oIx_tup0, oIx_tup1, fLen_lst, fLen_tup, fAbs_int, fMin2_int, fMax2_int, fInt_bl, fTuple_lst, fTuple_tup, fList_lst, fList_tup, isNon_non, isNon_int, isNon_tup, isNon_str, Bool.not_true, Bool.not_false]; rfl) fun _ => by simp only [mBin_eq, mB_eq, mC_eq, mV_eq, mCall_eq, mIter_eq, mCons_eq, mNil_eq, mFn_eq, mT_eq, mTru_eq, mNot_eq, mNotT_eq, mTest_eq, mIsN_eq, mNotN_eq, mIsi_eq, mSl_eq, mNoPart_eq, mPart_eq, partOf_int, mYes_eq, mL_eq, mLst_eq, mTup_eq, neg1, List.getElem?_cons_succ, List.getElem?_cons_zero, List.set_cons_zero, List.set_cons_succ, vw_d, bw_d, bw_m, R.bind_ok, List.length_cons, List.length_nil, Nat.zero_add, Nat.reduceAdd, Nat.reduceLeDiff, if_true, boolOf_bl, tru_bl, tru_lst, tru_tup, oSub_int, oAdd_int, oLt_int, oGt_int, oLe_int, oGe_int, oEq_int, oNe_int, oEq_str, oIx_tup0, oIx_tup1, fLen_lst, fLen_tup, fAbs_int, fMin2_int, fMax2_int, fInt_bl, fTuple_lst, fTuple_tup, fList_lst, fList_tup, isNon_non, isNon_int, isNon_tup, isNon_str, Bool.not_true, Bool.not_false, g0, h1]) (fun z => by cases z) (fun _ => ?_)
          rw [mSkip_eq, wp_ok, thn_nx]
          refine wp_if (b := true) (by simp only [mBin_eq, mB_eq, mC_eq, mV_eq, mCall_eq, mIter_eq, mCons_eq, mNil_eq, mFn_eq, mT_eq, mTru_eq, mNot_eq, mNotT_eq, mTest_eq, mIsN_eq, mNotN_eq, mIsi_eq, mSl_eq, mNoPart_eq, mPart_eq, partOf_int, mYes_eq, mL_eq, mLst_eq, mTup_eq, neg1, List.getElem?_cons_succ, List.getElem?_cons_zero, List.set_cons_zero, List.set_cons_succ, vw_d, bw_d, bw_m, R.bind_ok, List.length_cons, List.length_nil, Nat.zero_add, Nat.reduceAdd, Nat.reduceLeDiff, if_true, boolOf_bl, tru_bl, tru_lst, tru_tup, oSub_int, oAdd_int, oLt_int, oGt_int, oLe_int, oGe_int, oEq_int, oNe_int, oEq_str, oIx_tup0, oIx_tup1, fLen_lst, fLen_tup, fAbs_int, fMin2_int, fMax2_int, fInt_bl, fTuple_lst, fTuple_tup, fList_lst, fList_tup, isNon_non, isNon_int, isNon_tup, isNon_str, Bool.not_true, Bool.not_false, m99, h2]) (fun _ => ?_) (fun z => by cases z)
          exact wp_end (mRet_ok (d := .bl false) rfl) fin
  · rintro ρ ⟨⟨a2, rfl⟩, hp⟩
    rw [thn_nx]
    rcases hw with rfl | ⟨w, rfl, hb⟩
    · exact wp_end (mRet_ok (d := .bl true) rfl) hQ
    · simp at hp
      omega
theorem are_answers_ok (E : List Ed) {as : List (Nat × Int)} (ha : AnsOk n as) (hl : as.length ≤ 100) : g_are_answers [gD n E, ansD as] = .ok (.bl true) := by
  have := answers_loop E ha hl (ws := []) (.inl rfl)
  rw [List.append_nil] at this
  exact this
theorem are_answers_type (a : D) {d : D} (h : isT "tuple" d = .ok (.bl false)) : g_are_answers [a, d] = .ok (.bl false) := by
  refine run_of fun Q hQ => ?_
  walk_at "go"
  unfold m_are_answers
  refine wp_seq_if (b := true) (by simp only [mBin_eq, mB_eq, mC_eq, mV_eq, mCall_eq, mIter_eq, mCons_eq, mNil_eq, mFn_eq, mT_eq, mTru_eq, mNot_eq, mNotT_eq, mTest_eq, mIsN_eq, mNotN_eq, mIsi_eq, mSl_eq, mNoPart_eq, mPart_eq, partOf_int, mYes_eq, mL_eq, mLst_eq, mTup_eq, neg1, List.getElem?_cons_succ, List.getElem?_cons_zero, List.set_cons_zero, List.set_cons_succ, vw_d, bw_d, bw_m, R.bind_ok, List.length_cons, List.length_nil, Nat.zero_add, Nat.reduceAdd, Nat.reduceLeDiff, if_true, boolOf_bl, tru_bl, tru_lst, tru_tup, oSub_int, oAdd_int, oLt_int, oGt_int, oLe_int, oGe_int, oEq_int, oNe_int, oEq_str, oIx_tup0, oIx_tup1, fLen_lst, fLen_tup, fAbs_int, fMin2_int, fMax2_int, fInt_bl, fTuple_lst, fTuple_tup, fList_lst, fList_tup, isNon_non, isNon_int, isNon_tup, isNon_str, Bool.not_true, Bool.not_false, h]) (fun _ => ?_) (fun z => by cases z)
  exact wp_end (mRet_ok (d := .bl false) rfl) hQ
theorem cand_ok (G : GOk n E) (hl : g_listed_heights [gD n E, tD n t] = .ok (.lst (hs.map hD))) (h128 : hs.length ≤ 128) (hlen : ∀ h ∈ hs, h.length = n) {as : List (Nat × Int)} (ha : AnsOk n as) (hal : as.length ≤ 100) :
    g_candidates [gD n E, tD n t, ansD as] = .ok (.lst ((hs.filter (agr as)).map hD)) := by
  refine run_of fun Q hQ => ?_
  walk_at "go"
  unfold m_candidates
  refine wp_stp (mSet_ok (d := .lst (hs.map hD)) (by simp only [mBin_eq, mB_eq, mC_eq, mV_eq, mCall_eq, mIter_eq, mCons_eq, mNil_eq, mFn_eq, mT_eq, mTru_eq, mNot_eq, mNotT_eq, mTest_eq, mIsN_eq, mNotN_eq, mIsi_eq, mSl_eq, mNoPart_eq, mPart_eq, partOf_int, mYes_eq, mL_eq, mLst_eq, mTup_eq, neg1, List.getElem?_cons_succ, List.getElem?_cons_zero, List.set_cons_zero, List.set_cons_succ, vw_d, bw_d, bw_m, R.bind_ok, List.length_cons, List.length_nil, Nat.zero_add, Nat.reduceAdd, Nat.reduceLeDiff, if_true, boolOf_bl, tru_bl, tru_lst, tru_tup, oSub_int, oAdd_int, oLt_int, oGt_int, oLe_int, oGe_int, oEq_int, oNe_int, oEq_str, oIx_tup0, oIx_tup1, fLen_lst, fLen_tup, fAbs_int, fMin2_int, fMax2_int, fInt_bl, fTuple_lst, fTuple_tup, fList_lst, fList_tup, isNon_non, isNon_int, isNon_tup, isNon_str, Bool.not_true, Bool.not_false, hl])) ?_
  walk_at "st"
  refine wp_seq_if (b := false) (by simp only [mBin_eq, mB_eq, mC_eq, mV_eq, mCall_eq, mIter_eq, mCons_eq, mNil_eq, mFn_eq, mT_eq, mTru_eq, mNot_eq, mNotT_eq, mTest_eq, mIsN_eq, mNotN_eq, mIsi_eq, mSl_eq, mNoPart_eq, mPart_eq, partOf_int, mYes_eq, mL_eq, mLst_eq, mTup_eq, neg1, List.getElem?_cons_succ, List.getElem?_cons_zero, List.set_cons_zero, List.set_cons_succ, vw_d, bw_d, bw_m, R.bind_ok, List.length_cons, List.length_nil, Nat.zero_add, Nat.reduceAdd, Nat.reduceLeDiff, if_true, boolOf_bl, tru_bl, tru_lst, tru_tup, oSub_int, oAdd_int, oLt_int, oGt_int, oLe_int, oGe_int, oEq_int, oNe_int, oEq_str, oIx_tup0, oIx_tup1, fLen_lst, fLen_tup, fAbs_int, fMin2_int, fMax2_int, fInt_bl, fTuple_lst, fTuple_tup, fList_lst, fList_tup, isNon_non, isNon_int, isNon_tup, isNon_str, Bool.not_true, Bool.not_false, are_answers_ok E ha hal]) (fun z => by cases z) (fun _ => ?_)
  rw [mSkip_eq, wp_ok, thn_nx]
  refine wp_end (mRet_ok (d := .lst ((hs.filter (agr as)).map hD)) ?_) hQ
  refine lc_hs_if (items_lst rfl) (by omega) (fun h hh => ?_) fun h hh => ?_
  · have lc : mLc [5, 6] (mItemsA (mV 2)) (tTuple 2 (tsCons (tName 5) (tsCons (tName 6) tsNil))) (mT (mBin oNe (mBin oIx (mB 4) (mB 5)) (mB 6))) (mV 5) ((wipeR [A.d (gD n E), A.d (tD n t), A.d (ansD as), A.d (.lst (hs.map hD)), A.un, A.un, A.un] [4]).set 4 (A.d (hD h))) = .ok (.lst (as.filterMap fun p => if decide (fnH h p.1 ≠ p.2) = true then some (nD p.1) else none)) := by
      refine mLc_of as prD _ (items_tup (by simp only [mBin_eq, mB_eq, mC_eq, mV_eq, mCall_eq, mIter_eq, mCons_eq, mNil_eq, mFn_eq, mT_eq, mTru_eq, mNot_eq, mNotT_eq, mTest_eq, mIsN_eq, mNotN_eq, mIsi_eq, mSl_eq, mNoPart_eq, mPart_eq, partOf_int, mYes_eq, mL_eq, mLst_eq, mTup_eq, neg1, List.getElem?_cons_succ, List.getElem?_cons_zero, List.set_cons_zero, List.set_cons_succ, vw_d, bw_d, bw_m, R.bind_ok, List.length_cons, List.length_nil, Nat.zero_add, Nat.reduceAdd, Nat.reduceLeDiff, if_true, boolOf_bl, tru_bl, tru_lst, tru_tup, oSub_int, oAdd_int, oLt_int, oGt_int, oLe_int, oGe_int, oEq_int, oNe_int, oEq_str, oIx_tup0, oIx_tup1, fLen_lst, fLen_tup, fAbs_int, fMin2_int, fMax2_int, fInt_bl, fTuple_lst, fTuple_tup, fList_lst, fList_tup, isNon_non, isNon_int, isNon_tup, isNon_str, Bool.not_true, Bool.not_false, wipeR]; rfl)) (by omega) fun p hp => ?_
      have hpn := (ha p hp).1
      refine lcf_ok tTuple2_eq ?_ fun _ => ?_
      · simp only [mBin_eq, mB_eq, mC_eq, mV_eq, mCall_eq, mIter_eq, mCons_eq, mNil_eq, mFn_eq, mT_eq, mTru_eq, mNot_eq, mNotT_eq, mTest_eq, mIsN_eq, mNotN_eq, mIsi_eq, mSl_eq, mNoPart_eq, mPart_eq, partOf_int, mYes_eq, mL_eq, mLst_eq, mTup_eq, neg1, List.getElem?_cons_succ, List.getElem?_cons_zero, List.set_cons_zero, List.set_cons_succ, vw_d, bw_d, bw_m, R.bind_ok, List.length_cons, List.length_nil, Nat.zero_add, Nat.reduceAdd, Nat.reduceLeDiff, if_true, boolOf_bl, tru_bl, tru_lst, tru_tup, oSub_int, oAdd_int, oLt_int, oGt_int, oLe_int, oGe_int, oEq_int, oNe_int, oEq_str, oIx_tup0, oIx_tup1, fLen_lst, fLen_tup, fAbs_int, fMin2_int, fMax2_int, fInt_bl, fTuple_lst, fTuple_tup, fList_lst, fList_tup, isNon_non, isNon_int, isNon_tup, isNon_str, Bool.not_true, Bool.not_false, wipeR, hD_hR (hlen h hh), hR_get hpn]
      · simp only [mBin_eq, mB_eq, mC_eq, mV_eq, mCall_eq, mIter_eq, mCons_eq, mNil_eq, mFn_eq, mT_eq, mTru_eq, mNot_eq, mNotT_eq, mTest_eq, mIsN_eq, mNotN_eq, mIsi_eq, mSl_eq, mNoPart_eq, mPart_eq, partOf_int, mYes_eq, mL_eq, mLst_eq, mTup_eq, neg1, List.getElem?_cons_succ, List.getElem?_cons_zero, List.set_cons_zero, List.set_cons_succ, vw_d, bw_d, bw_m, R.bind_ok, List.length_cons, List.length_nil, Nat.zero_add, Nat.reduceAdd, Nat.reduceLeDiff, if_true, boolOf_bl, tru_bl, tru_lst, tru_tup, oSub_int, oAdd_int, oLt_int, oGt_int, oLe_int, oGe_int, oEq_int, oNe_int, oEq_str, oIx_tup0, oIx_tup1, fLen_lst, fLen_tup, fAbs_int, fMin2_int, fMax2_int, fInt_bl, fTuple_lst, fTuple_tup, fList_lst, fList_tup, isNon_non, isNon_int, isNon_tup, isNon_str, Bool.not_true, Bool.not_false, wipeR]
    rw [mNot_eq, mTru_eq, lc]
    simp only [mBin_eq, mB_eq, mC_eq, mV_eq, mCall_eq, mIter_eq, mCons_eq, mNil_eq, mFn_eq, mT_eq, mTru_eq, mNot_eq, mNotT_eq, mTest_eq, mIsN_eq, mNotN_eq, mIsi_eq, mSl_eq, mNoPart_eq, mPart_eq, partOf_int, mYes_eq, mL_eq, mLst_eq, mTup_eq, neg1, List.getElem?_cons_succ, List.getElem?_cons_zero, List.set_cons_zero, List.set_cons_succ, vw_d, bw_d, bw_m, R.bind_ok, List.length_cons, List.length_nil, Nat.zero_add, Nat.reduceAdd, Nat.reduceLeDiff, if_true, boolOf_bl, tru_bl, tru_lst, tru_tup, oSub_int, oAdd_int, oLt_int, oGt_int, oLe_int, oGe_int, oEq_int, oNe_int, oEq_str, oIx_tup0, oIx_tup1, fLen_lst, fLen_tup, fAbs_int, fMin2_int, fMax2_int, fInt_bl, fTuple_lst, fTuple_tup, fList_lst, fList_tup, isNon_non, isNon_int, isNon_tup, isNon_str, Bool.not_true, Bool.not_false]
    congr 1
    rw [Bool.not_not, Bool.eq_iff_iff, List.isEmpty_iff, List.filterMap_eq_nil_iff]
    unfold agr
    rw [List.all_eq_true]
    constructor
    · intro h1 p hp
      have := h1 p hp
      by_cases c : fnH h p.1 = p.2
      · exact decide_eq_true c
      · rw [if_pos (decide_eq_true c)] at this
        cases this
    · intro h1 p hp
      have := of_decide_eq_true (h1 p hp)
      rw [if_neg (by simpa using this)]
  · simp only [mBin_eq, mB_eq, mC_eq, mV_eq, mCall_eq, mIter_eq, mCons_eq, mNil_eq, mFn_eq, mT_eq, mTru_eq, mNot_eq, mNotT_eq, mTest_eq, mIsN_eq, mNotN_eq, mIsi_eq, mSl_eq, mNoPart_eq, mPart_eq, partOf_int, mYes_eq, mL_eq, mLst_eq, mTup_eq, neg1, List.getElem?_cons_succ, List.getElem?_cons_zero, List.set_cons_zero, List.set_cons_succ, vw_d, bw_d, bw_m, R.bind_ok, List.length_cons, List.length_nil, Nat.zero_add, Nat.reduceAdd, Nat.reduceLeDiff, if_true, boolOf_bl, tru_bl, tru_lst, tru_tup, oSub_int, oAdd_int, oLt_int, oGt_int, oLe_int, oGe_int, oEq_int, oNe_int, oEq_str, oIx_tup0, oIx_tup1, fLen_lst, fLen_tup, fAbs_int, fMin2_int, fMax2_int, fInt_bl, fTuple_lst, fTuple_tup, fList_lst, fList_tup, isNon_non, isNon_int, isNon_tup, isNon_str, Bool.not_true, Bool.not_false, wipeR]
theorem cand_bad {d0 d : D} {a b : D} (hl : g_listed_heights [a, b] = .ok d0) (h : g_are_answers [a, d] = .ok (.bl false)) : g_candidates [a, b, d] = .ex "InvalidAnswers" := by
  refine run_raise ?_
  walk_at "go"
  unfold m_candidates
  rw [mSeq_nx (mSet_ok (d := d0) (by simp only [mBin_eq, mB_eq, mC_eq, mV_eq, mCall_eq, mIter_eq, mCons_eq, mNil_eq, mFn_eq, mT_eq, mTru_eq, mNot_eq, mNotT_eq, mTest_eq, mIsN_eq, mNotN_eq, mIsi_eq, mSl_eq, mNoPart_eq, mPart_eq, partOf_int, mYes_eq, mL_eq, mLst_eq, mTup_eq, neg1, List.getElem?_cons_succ, List.getElem?_cons_zero, List.set_cons_zero, List.set_cons_succ, vw_d, bw_d, bw_m, R.bind_ok, List.length_cons, List.length_nil, Nat.zero_add, Nat.reduceAdd, Nat.reduceLeDiff, if_true, boolOf_bl, tru_bl, tru_lst, tru_tup, oSub_int, oAdd_int, oLt_int, oGt_int, oLe_int, oGe_int, oEq_int, oNe_int, oEq_str, oIx_tup0, oIx_tup1, fLen_lst, fLen_tup, fAbs_int, fMin2_int, fMax2_int, fInt_bl, fTuple_lst, fTuple_tup, fList_lst, fList_tup, isNon_non, isNon_int, isNon_tup, isNon_str, Bool.not_true, Bool.not_false, hl]))]
  walk_at "st"
  refine mSeq_ex ?_
  rw [mIfS_t (by simp only [mBin_eq, mB_eq, mC_eq, mV_eq, mCall_eq, mIter_eq, mCons_eq, mNil_eq, mFn_eq, mT_eq, mTru_eq, mNot_eq, mNotT_eq, mTest_eq, mIsN_eq, mNotN_eq, mIsi_eq, mSl_eq, mNoPart_eq, mPart_eq, partOf_int, mYes_eq, mL_eq, mLst_eq, mTup_eq, neg1, List.getElem?_cons_succ, List.getElem?_cons_zero, List.set_cons_zero, List.set_cons_succ, vw_d, bw_d, bw_m, R.bind_ok, List.length_cons, List.length_nil, Nat.zero_add, Nat.reduceAdd, Nat.reduceLeDiff, if_true, boolOf_bl, tru_bl, tru_lst, tru_tup, oSub_int, oAdd_int, oLt_int, oGt_int, oLe_int, oGe_int, oEq_int, oNe_int, oEq_str, oIx_tup0, oIx_tup1, fLen_lst, fLen_tup, fAbs_int, fMin2_int, fMax2_int, fInt_bl, fTuple_lst, fTuple_tup, fList_lst, fList_tup, isNon_non, isNon_int, isNon_tup, isNon_str, Bool.not_true, Bool.not_false, h])]
  rfl
theorem cand_ex {c : Str} {a b d : D} (h : g_listed_heights [a, b] = .ex c) : g_candidates [a, b, d] = .ex c := by
  refine run_raise ?_
  walk_at "go"
  unfold m_candidates
  refine mSeq_ex ?_
  rw [mSet_eq]
  simp only [mBin_eq, mB_eq, mC_eq, mV_eq, mCall_eq, mIter_eq, mCons_eq, mNil_eq, mFn_eq, mT_eq, mTru_eq, mNot_eq, mNotT_eq, mTest_eq, mIsN_eq, mNotN_eq, mIsi_eq, mSl_eq, mNoPart_eq, mPart_eq, partOf_int, mYes_eq, mL_eq, mLst_eq, mTup_eq, neg1, List.getElem?_cons_succ, List.getElem?_cons_zero, List.set_cons_zero, List.set_cons_succ, vw_d, bw_d, bw_m, R.bind_ok, List.length_cons, List.length_nil, Nat.zero_add, Nat.reduceAdd, Nat.reduceLeDiff, if_true, boolOf_bl, tru_bl, tru_lst, tru_tup, oSub_int, oAdd_int, oLt_int, oGt_int, oLe_int, oGe_int, oEq_int, oNe_int, oEq_str, oIx_tup0, oIx_tup1, fLen_lst, fLen_tup, fAbs_int, fMin2_int, fMax2_int, fInt_bl, fTuple_lst, fTuple_tup, fList_lst, fList_tup, isNon_non, isNon_int, isNon_tup, isNon_str, Bool.not_true, Bool.not_false, h, R.bind_ex]
theorem best_ex {c : Str} {a b d : D} (h : g_candidates [a, b, d] = .ex c) : g_best_question [a, b, d] = .ex c := by
  refine run_raise ?_
  walk_at "go"
  unfold m_best_question
  refine mSeq_ex ?_
  rw [mSet_eq]
  simp only [mBin_eq, mB_eq, mC_eq, mV_eq, mCall_eq, mIter_eq, mCons_eq, mNil_eq, mFn_eq, mT_eq, mTru_eq, mNot_eq, mNotT_eq, mTest_eq, mIsN_eq, mNotN_eq, mIsi_eq, mSl_eq, mNoPart_eq, mPart_eq, partOf_int, mYes_eq, mL_eq, mLst_eq, mTup_eq, neg1, List.getElem?_cons_succ, List.getElem?_cons_zero, List.set_cons_zero, List.set_cons_succ, vw_d, bw_d, bw_m, R.bind_ok, List.length_cons, List.length_nil, Nat.zero_add, Nat.reduceAdd, Nat.reduceLeDiff, if_true, boolOf_bl, tru_bl, tru_lst, tru_tup, oSub_int, oAdd_int, oLt_int, oGt_int, oLe_int, oGe_int, oEq_int, oNe_int, oEq_str, oIx_tup0, oIx_tup1, fLen_lst, fLen_tup, fAbs_int, fMin2_int, fMax2_int, fInt_bl, fTuple_lst, fTuple_tup, fList_lst, fList_tup, isNon_non, isNon_int, isNon_tup, isNon_str, Bool.not_true, Bool.not_false, h, R.bind_ex]
theorem best_empty {a b d : D} (h : g_candidates [a, b, d] = .ok (.lst [])) : g_best_question [a, b, d] = .ex "InvalidAnswers" := by
  refine run_raise ?_
  walk_at "go"
  unfold m_best_question
  rw [mSeq_nx (mSet_ok (d := .lst []) (by simp only [mBin_eq, mB_eq, mC_eq, mV_eq, mCall_eq, mIter_eq, mCons_eq, mNil_eq, mFn_eq, mT_eq, mTru_eq, mNot_eq, mNotT_eq, mTest_eq, mIsN_eq, mNotN_eq, mIsi_eq, mSl_eq, mNoPart_eq, mPart_eq, partOf_int, mYes_eq, mL_eq, mLst_eq, mTup_eq, neg1, List.getElem?_cons_succ, List.getElem?_cons_zero, List.set_cons_zero, List.set_cons_succ, vw_d, bw_d, bw_m, R.bind_ok, List.length_cons, List.length_nil, Nat.zero_add, Nat.reduceAdd, Nat.reduceLeDiff, if_true, boolOf_bl, tru_bl, tru_lst, tru_tup, oSub_int, oAdd_int, oLt_int, oGt_int, oLe_int, oGe_int, oEq_int, oNe_int, oEq_str, oIx_tup0, oIx_tup1, fLen_lst, fLen_tup, fAbs_int, fMin2_int, fMax2_int, fInt_bl, fTuple_lst, fTuple_tup, fList_lst, fList_tup, isNon_non, isNon_int, isNon_tup, isNon_str, Bool.not_true, Bool.not_false, h]))]
  walk_at "st"
  refine mSeq_ex ?_
  rw [mIfS_t (by simp only [mBin_eq, mB_eq, mC_eq, mV_eq, mCall_eq, mIter_eq, mCons_eq, mNil_eq, mFn_eq, mT_eq, mTru_eq, mNot_eq, mNotT_eq, mTest_eq, mIsN_eq, mNotN_eq, mIsi_eq, mSl_eq, mNoPart_eq, mPart_eq, partOf_int, mYes_eq, mL_eq, mLst_eq, mTup_eq, neg1, List.getElem?_cons_succ, List.getElem?_cons_zero, List.set_cons_zero, List.set_cons_succ, vw_d, bw_d, bw_m, R.bind_ok, List.length_cons, List.length_nil, Nat.zero_add, Nat.reduceAdd, Nat.reduceLeDiff, if_true, boolOf_bl, tru_bl, tru_lst, tru_tup, oSub_int, oAdd_int, oLt_int, oGt_int, oLe_int, oGe_int, oEq_int, oNe_int, oEq_str, oIx_tup0, oIx_tup1, fLen_lst, fLen_tup, fAbs_int, fMin2_int, fMax2_int, fInt_bl, fTuple_lst, fTuple_tup, fList_lst, fList_tup, isNon_non, isNon_int, isNon_tup, isNon_str, Bool.not_true, Bool.not_false]; rfl)]
  rfl
/-! ### the best question -/
def wor (due : List (List Int)) (v : Nat) : Int := maxI ((due.map fun h => fnH h v).map fun x => (((due.map fun h => fnH h v).count x : Nat) : Int))
def stepB (due : List (List Int)) (b : Option (Int × Nat)) (v : Nat) : Option (Int × Nat) :=
  if (decide (wor due v < (due.length : Int)) && (b.isNone || decide (wor due v < (b.getD (0, 0)).1))) = true then some (wor due v, v) else b
def bestB (due : List (List Int)) (n : Nat) : Option (Int × Nat) := (List.range n).foldl (stepB due) none
def bD : Option (Int × Nat) → D
  | none => .non
  | some p => .tup [.int p.1, nD p.2]
theorem fCount_ints {ns : List Int} {k : Int} : fCount (.lst (ns.map D.int)) [.int k] = .ok (.int ((ns.count k : Nat) : Int)) := by
  show intsOk _ _ = _
  rw [intsOk_ints]
theorem bestB_succ {due : List (List Int)} {k : Nat} : bestB due (k + 1) = stepB due (bestB due k) k := by unfold bestB; rw [List.range_succ, List.foldl_append]; rfl
theorem isNon_bD {b : Option (Int × Nat)} : isNon (bD b) = b.isNone := by cases b <;> rfl
theorem best_ok (G : GOk n E) {due : List (List Int)} {d : D} (hc : g_candidates [gD n E, tD n t, d] = .ok (.lst (due.map hD))) (hne : due ≠ []) (h128 : due.length ≤ 128) (hlen : ∀ h ∈ due, h.length = n) :
    g_best_question [gD n E, tD n t, d] = .ok (match bestB due n with
      | none => .non
      | some p => nD p.2) := by
  have g0 := gD0 n E
  have hle := G.le
  refine run_of fun Q hQ => ?_
  walk_at "go"
  unfold m_best_question
  refine wp_stp (mSet_ok (d := .lst (due.map hD)) (by simp only [mBin_eq, mB_eq, mC_eq, mV_eq, mCall_eq, mIter_eq, mCons_eq, mNil_eq, mFn_eq, mT_eq, mTru_eq, mNot_eq, mNotT_eq, mTest_eq, mIsN_eq, mNotN_eq, mIsi_eq, mSl_eq, mNoPart_eq, mPart_eq, partOf_int, mYes_eq, mL_eq, mLst_eq, mTup_eq, neg1, List.getElem?_cons_succ, List.getElem?_cons_zero, List.set_cons_zero, List.set_cons_succ, vw_d, bw_d, bw_m, R.bind_ok, List.length_cons, List.length_nil, Nat.zero_add, Nat.reduceAdd, Nat.reduceLeDiff, if_true, boolOf_bl, tru_bl, tru_lst, tru_tup, oSub_int, oAdd_int, oLt_int, oGt_int, oLe_int, oGe_int, oEq_int, oNe_int, oEq_str, oIx_tup0, oIx_tup1, fLen_lst, fLen_tup, fAbs_int, fMin2_int, fMax2_int, fInt_bl, fTuple_lst, fTuple_tup, fList_lst, fList_tup, isNon_non, isNon_int, isNon_tup, isNon_str, Bool.not_true, Bool.not_false, hc])) ?_
  walk_at "st"
  have hi : (due.map hD).isEmpty = false := by simpa using hne
  refine wp_seq_if (b := false) (by simp only [mBin_eq, mB_eq, mC_eq, mV_eq, mCall_eq, mIter_eq, mCons_eq, mNil_eq, mFn_eq, mT_eq, mTru_eq, mNot_eq, mNotT_eq, mTest_eq, mIsN_eq, mNotN_eq, mIsi_eq, mSl_eq, mNoPart_eq, mPart_eq, partOf_int, mYes_eq, mL_eq, mLst_eq, mTup_eq, neg1, List.getElem?_cons_succ, List.getElem?_cons_zero, List.set_cons_zero, List.set_cons_succ, vw_d, bw_d, bw_m, R.bind_ok, List.length_cons, List.length_nil, Nat.zero_add, Nat.reduceAdd, Nat.reduceLeDiff, if_true, boolOf_bl, tru_bl, tru_lst, tru_tup, oSub_int, oAdd_int, oLt_int, oGt_int, oLe_int, oGe_int, oEq_int, oNe_int, oEq_str, oIx_tup0, oIx_tup1, fLen_lst, fLen_tup, fAbs_int, fMin2_int, fMax2_int, fInt_bl, fTuple_lst, fTuple_tup, fList_lst, fList_tup, isNon_non, isNon_int, isNon_tup, isNon_str, Bool.not_true, Bool.not_false, hi]) (fun z => by cases z) (fun _ => ?_)
  rw [mSkip_eq, wp_ok, thn_nx]
  refine wp_stp (mSet_ok (d := .non) (by simp only [mBin_eq, mB_eq, mC_eq, mV_eq, mCall_eq, mIter_eq, mCons_eq, mNil_eq, mFn_eq, mT_eq, mTru_eq, mNot_eq, mNotT_eq, mTest_eq, mIsN_eq, mNotN_eq, mIsi_eq, mSl_eq, mNoPart_eq, mPart_eq, partOf_int, mYes_eq, mL_eq, mLst_eq, mTup_eq, neg1, List.getElem?_cons_succ, List.getElem?_cons_zero, List.set_cons_zero, List.set_cons_succ, vw_d, bw_d, bw_m, R.bind_ok, List.length_cons, List.length_nil, Nat.zero_add, Nat.reduceAdd, Nat.reduceLeDiff, if_true, boolOf_bl, tru_bl, tru_lst, tru_tup, oSub_int, oAdd_int, oLt_int, oGt_int, oLe_int, oGe_int, oEq_int, oNe_int, oEq_str, oIx_tup0, oIx_tup1, fLen_lst, fLen_tup, fAbs_int, fMin2_int, fMax2_int, fInt_bl, fTuple_lst, fTuple_tup, fList_lst, fList_tup, isNon_non, isNon_int, isNon_tup, isNon_str, Bool.not_true, Bool.not_false])) ?_
  walk_at "st"
  rw [wp_seq]
  refine wp_for (ds := (List.range n).map fun i => nD i) (fun pre ρ => ∃ a5 a6 a7 a8 a9 : A, ρ = [A.d (gD n E), A.d (tD n t), A.d d, A.d (.lst (due.map hD)), A.d (bD (bestB due pre.length)), a5, a6, a7, a8, a9]) ?_ ⟨_, _, _, _, _, rfl⟩ ?_ ?_
  · simp only [mBin_eq, mB_eq, mC_eq, mV_eq, mCall_eq, mIter_eq, mCons_eq, mNil_eq, mFn_eq, mT_eq, mTru_eq, mNot_eq, mNotT_eq, mTest_eq, mIsN_eq, mNotN_eq, mIsi_eq, mSl_eq, mNoPart_eq, mPart_eq, partOf_int, mYes_eq, mL_eq, mLst_eq, mTup_eq, neg1, List.getElem?_cons_succ, List.getElem?_cons_zero, List.set_cons_zero, List.set_cons_succ, vw_d, bw_d, bw_m, R.bind_ok, List.length_cons, List.length_nil, Nat.zero_add, Nat.reduceAdd, Nat.reduceLeDiff, if_true, boolOf_bl, tru_bl, tru_lst, tru_tup, oSub_int, oAdd_int, oLt_int, oGt_int, oLe_int, oGe_int, oEq_int, oNe_int, oEq_str, oIx_tup0, oIx_tup1, fLen_lst, fLen_tup, fAbs_int, fMin2_int, fMax2_int, fInt_bl, fTuple_lst, fTuple_tup, fList_lst, fList_tup, isNon_non, isNon_int, isNon_tup, isNon_str, Bool.not_true, Bool.not_false, g0]
    exact fRange1_nat (k := n) (by omega)
  · rintro pre x r ρ e ⟨a5, a6, a7, a8, a9, rfl⟩
    obtain ⟨rfl, hv⟩ := split_range e
    refine ⟨_, rfl, fun Q' hQ' => ?_⟩
    walk_at "st"
    generalize hj : pre.length = v at *
    have lc1 : ∀ x4 x6 x7 x8 x9 : A, mLc [8] (mItemsA (mV 3)) (tName 8) mYes (mBin oIx (mB 8) (mB 5)) [A.d (gD n E), A.d (tD n t), A.d d, A.d (.lst (due.map hD)), x4, A.d (nD v), x6, x7, x8, x9] = .ok (.lst ((due.map fun h => fnH h v).map D.int)) := fun x4 x6 x7 x8 x9 => by
      rw [lc_hs (F := fun h => .int (fnH h v)) (items_lst rfl) (by omega) fun h hh => ?_]
      · rw [List.map_map]; rfl
      · simp only [mBin_eq, mB_eq, mC_eq, mV_eq, mCall_eq, mIter_eq, mCons_eq, mNil_eq, mFn_eq, mT_eq, mTru_eq, mNot_eq, mNotT_eq, mTest_eq, mIsN_eq, mNotN_eq, mIsi_eq, mSl_eq, mNoPart_eq, mPart_eq, partOf_int, mYes_eq, mL_eq, mLst_eq, mTup_eq, neg1, List.getElem?_cons_succ, List.getElem?_cons_zero, List.set_cons_zero, List.set_cons_succ, vw_d, bw_d, bw_m, R.bind_ok, List.length_cons, List.length_nil, Nat.zero_add, Nat.reduceAdd, Nat.reduceLeDiff, if_true, boolOf_bl, tru_bl, tru_lst, tru_tup, oSub_int, oAdd_int, oLt_int, oGt_int, oLe_int, oGe_int, oEq_int, oNe_int, oEq_str, oIx_tup0, oIx_tup1, fLen_lst, fLen_tup, fAbs_int, fMin2_int, fMax2_int, fInt_bl, fTuple_lst, fTuple_tup, fList_lst, fList_tup, isNon_non, isNon_int, isNon_tup, isNon_str, Bool.not_true, Bool.not_false, wipeR, hD_hR (hlen h hh), hR_get hv]
    refine wp_stp (mSet_ok (lc1 _ _ _ _ _)) ?_
    walk_at "st"
    have wne : ((due.map fun h => fnH h v).map fun x => (((due.map fun h => fnH h v).count x : Nat) : Int)) ≠ [] := by simpa using hne
    have lc2 : ∀ x4 x7 x8 x9 : A, mLc [9] (mItemsA (mV 6)) (tName 9) mYes (mMeth "list" fCount (mB 6) (mCons (mB 9) mNil)) [A.d (gD n E), A.d (tD n t), A.d d, A.d (.lst (due.map hD)), x4, A.d (nD v), A.d (.lst ((due.map fun h => fnH h v).map D.int)), x7, x8, x9] = .ok (.lst (((due.map fun h => fnH h v).map fun x => (((due.map fun h => fnH h v).count x : Nat) : Int)).map D.int)) := fun x4 x7 x8 x9 => by
      rw [mLc_of (due.map fun h => fnH h v) D.int (fun x => some (.int (((due.map fun h => fnH h v).count x : Nat) : Int))) (items_lst rfl) (by simp; omega) fun x hx => lcf_t tName_eq rfl ?_]
      · rw [List.filterMap_eq_map', List.map_map (g := D.int)]; rfl
      · unfold mMeth
        simp only [mBin_eq, mB_eq, mC_eq, mV_eq, mCall_eq, mIter_eq, mCons_eq, mNil_eq, mFn_eq, mT_eq, mTru_eq, mNot_eq, mNotT_eq, mTest_eq, mIsN_eq, mNotN_eq, mIsi_eq, mSl_eq, mNoPart_eq, mPart_eq, partOf_int, mYes_eq, mL_eq, mLst_eq, mTup_eq, neg1, List.getElem?_cons_succ, List.getElem?_cons_zero, List.set_cons_zero, List.set_cons_succ, vw_d, bw_d, bw_m, R.bind_ok, List.length_cons, List.length_nil, Nat.zero_add, Nat.reduceAdd, Nat.reduceLeDiff, if_true, boolOf_bl, tru_bl, tru_lst, tru_tup, oSub_int, oAdd_int, oLt_int, oGt_int, oLe_int, oGe_int, oEq_int, oNe_int, oEq_str, oIx_tup0, oIx_tup1, fLen_lst, fLen_tup, fAbs_int, fMin2_int, fMax2_int, fInt_bl, fTuple_lst, fTuple_tup, fList_lst, fList_tup, isNon_non, isNon_int, isNon_tup, isNon_str, Bool.not_true, Bool.not_false, wipeR, tyName, fCount_ints]
    refine wp_stp (mSet_ok (d := .int (wor due v)) (by simp only [mBin_eq, mB_eq, mC_eq, mV_eq, mCall_eq, mIter_eq, mCons_eq, mNil_eq, mFn_eq, mT_eq, mTru_eq, mNot_eq, mNotT_eq, mTest_eq, mIsN_eq, mNotN_eq, mIsi_eq, mSl_eq, mNoPart_eq, mPart_eq, partOf_int, mYes_eq, mL_eq, mLst_eq, mTup_eq, neg1, List.getElem?_cons_succ, List.getElem?_cons_zero, List.set_cons_zero, List.set_cons_succ, vw_d, bw_d, bw_m, R.bind_ok, List.length_cons, List.length_nil, Nat.zero_add, Nat.reduceAdd, Nat.reduceLeDiff, if_true, boolOf_bl, tru_bl, tru_lst, tru_tup, oSub_int, oAdd_int, oLt_int, oGt_int, oLe_int, oGe_int, oEq_int, oNe_int, oEq_str, oIx_tup0, oIx_tup1, fLen_lst, fLen_tup, fAbs_int, fMin2_int, fMax2_int, fInt_bl, fTuple_lst, fTuple_tup, fList_lst, fList_tup, isNon_non, isNon_int, isNon_tup, isNon_str, Bool.not_true, Bool.not_false, lc2, fMax1_ok wne, wor])) ?_
    walk_at "st"
    generalize hb : bestB due v = b
    have hps : (pre ++ [nD v]).length = v + 1 := by simp [hj]
    have hnx : bestB due (v + 1) = stepB due b v := by rw [bestB_succ, hb]
    refine wp_if (b := decide (wor due v < (due.length : Int)) && (b.isNone || decide (wor due v < (b.getD (0, 0)).1))) (mAnd_ok (by simp only [mBin_eq, mB_eq, mC_eq, mV_eq, mCall_eq, mIter_eq, mCons_eq, mNil_eq, mFn_eq, mT_eq, mTru_eq, mNot_eq, mNotT_eq, mTest_eq, mIsN_eq, mNotN_eq, mIsi_eq, mSl_eq, mNoPart_eq, mPart_eq, partOf_int, mYes_eq, mL_eq, mLst_eq, mTup_eq, neg1, List.getElem?_cons_succ, List.getElem?_cons_zero, List.set_cons_zero, List.set_cons_succ, vw_d, bw_d, bw_m, R.bind_ok, List.length_cons, List.length_nil, Nat.zero_add, Nat.reduceAdd, Nat.reduceLeDiff, if_true, boolOf_bl, tru_bl, tru_lst, tru_tup, oSub_int, oAdd_int, oLt_int, oGt_int, oLe_int, oGe_int, oEq_int, oNe_int, oEq_str, oIx_tup0, oIx_tup1, fLen_lst, fLen_tup, fAbs_int, fMin2_int, fMax2_int, fInt_bl, fTuple_lst, fTuple_tup, fList_lst, fList_tup, isNon_non, isNon_int, isNon_tup, isNon_str, Bool.not_true, Bool.not_false, List.length_map]) fun _ => mOr_ok (by simp only [mBin_eq, mB_eq, mC_eq, mV_eq, mCall_eq, mIter_eq, mCons_eq, mNil_eq, mFn_eq, mT_eq, mTru_eq, mNot_eq, mNotT_eq, mTest_eq, mIsN_eq, mNotN_eq, mIsi_eq, mSl_eq, mNoPart_eq, mPart_eq, partOf_int, mYes_eq, mL_eq, mLst_eq, mTup_eq, neg1, List.getElem?_cons_succ, List.getElem?_cons_zero, List.set_cons_zero, List.set_cons_succ, vw_d, bw_d, bw_m, R.bind_ok, List.length_cons, List.length_nil, Nat.zero_add, Nat.reduceAdd, Nat.reduceLeDiff, if_true, boolOf_bl, tru_bl, tru_lst, tru_tup, oSub_int, oAdd_int, oLt_int, oGt_int, oLe_int, oGe_int, oEq_int, oNe_int, oEq_str, oIx_tup0, oIx_tup1, fLen_lst, fLen_tup, fAbs_int, fMin2_int, fMax2_int, fInt_bl, fTuple_lst, fTuple_tup, fList_lst, fList_tup, isNon_non, isNon_int, isNon_tup, isNon_str, Bool.not_true, Bool.not_false, isNon_bD]) fun hz => ?_) (fun c => ?_) (fun c => ?_)
    · cases b with
      | none => cases hz
      | some p => simp only [mBin_eq, mB_eq, mC_eq, mV_eq, mCall_eq, mIter_eq, mCons_eq, mNil_eq, mFn_eq, mT_eq, mTru_eq, mNot_eq, mNotT_eq, mTest_eq, mIsN_eq, mNotN_eq, mIsi_eq, mSl_eq, mNoPart_eq, mPart_eq, partOf_int, mYes_eq, mL_eq, mLst_eq, mTup_eq, neg1, List.getElem?_cons_succ, List.getElem?_cons_zero, List.set_cons_zero, List.set_cons_succ, vw_d, bw_d, bw_m, R.bind_ok, List.length_cons, List.length_nil, Nat.zero_add, Nat.reduceAdd, Nat.reduceLeDiff, if_true, boolOf_bl, tru_bl, tru_lst, tru_tup, oSub_int, oAdd_int, oLt_int, oGt_int, oLe_int, oGe_int, oEq_int, oNe_int, oEq_str, oIx_tup0, oIx_tup1, fLen_lst, fLen_tup, fAbs_int, fMin2_int, fMax2_int, fInt_bl, fTuple_lst, fTuple_tup, fList_lst, fList_tup, isNon_non, isNon_int, isNon_tup, isNon_str, Bool.not_true, Bool.not_false, bD]; rfl
    · refine wp_end (mSet_ok (d := bD (stepB due b v)) (by unfold stepB; rw [if_pos c]; simp only [mBin_eq, mB_eq, mC_eq, mV_eq, mCall_eq, mIter_eq, mCons_eq, mNil_eq, mFn_eq, mT_eq, mTru_eq, mNot_eq, mNotT_eq, mTest_eq, mIsN_eq, mNotN_eq, mIsi_eq, mSl_eq, mNoPart_eq, mPart_eq, partOf_int, mYes_eq, mL_eq, mLst_eq, mTup_eq, neg1, List.getElem?_cons_succ, List.getElem?_cons_zero, List.set_cons_zero, List.set_cons_succ, vw_d, bw_d, bw_m, R.bind_ok, List.length_cons, List.length_nil, Nat.zero_add, Nat.reduceAdd, Nat.reduceLeDiff, if_true, boolOf_bl, tru_bl, tru_lst, tru_tup, oSub_int, oAdd_int, oLt_int, oGt_int, oLe_int, oGe_int, oEq_int, oNe_int, oEq_str, oIx_tup0, oIx_tup1, fLen_lst, fLen_tup, fAbs_int, fMin2_int, fMax2_int, fInt_bl, fTuple_lst, fTuple_tup, fList_lst, fList_tup, isNon_non, isNon_int, isNon_tup, isNon_str, Bool.not_true, Bool.not_false, bD])) ?_
      refine hQ' _ ?_
      rw [hps, hnx]
      exact ⟨_, _, _, _, _, rfl⟩
    · rw [mSkip_eq, wp_ok]
      refine hQ' _ ?_
      have es : stepB due b v = b := by unfold stepB; rw [if_neg (by rw [c]; exact Bool.false_ne_true)]
      rw [hps, hnx, es]
      exact ⟨_, _, _, _, _, rfl⟩
  · rintro ρ ⟨a5, a6, a7, a8, a9, rfl⟩
    rw [thn_nx, List.length_map, List.length_range]
    refine wp_end (mRet_ok ?_) hQ
    cases hb : bestB due n with
    | none => rw [mIf_t (by simp only [mBin_eq, mB_eq, mC_eq, mV_eq, mCall_eq, mIter_eq, mCons_eq, mNil_eq, mFn_eq, mT_eq, mTru_eq, mNot_eq, mNotT_eq, mTest_eq, mIsN_eq, mNotN_eq, mIsi_eq, mSl_eq, mNoPart_eq, mPart_eq, partOf_int, mYes_eq, mL_eq, mLst_eq, mTup_eq, neg1, List.getElem?_cons_succ, List.getElem?_cons_zero, List.set_cons_zero, List.set_cons_succ, vw_d, bw_d, bw_m, R.bind_ok, List.length_cons, List.length_nil, Nat.zero_add, Nat.reduceAdd, Nat.reduceLeDiff, if_true, boolOf_bl, tru_bl, tru_lst, tru_tup, oSub_int, oAdd_int, oLt_int, oGt_int, oLe_int, oGe_int, oEq_int, oNe_int, oEq_str, oIx_tup0, oIx_tup1, fLen_lst, fLen_tup, fAbs_int, fMin2_int, fMax2_int, fInt_bl, fTuple_lst, fTuple_tup, fList_lst, fList_tup, isNon_non, isNon_int, isNon_tup, isNon_str, Bool.not_true, Bool.not_false, bD])]; simp only [mBin_eq, mB_eq, mC_eq, mV_eq, mCall_eq, mIter_eq, mCons_eq, mNil_eq, mFn_eq, mT_eq, mTru_eq, mNot_eq, mNotT_eq, mTest_eq, mIsN_eq, mNotN_eq, mIsi_eq, mSl_eq, mNoPart_eq, mPart_eq, partOf_int, mYes_eq, mL_eq, mLst_eq, mTup_eq, neg1, List.getElem?_cons_succ, List.getElem?_cons_zero, List.set_cons_zero, List.set_cons_succ, vw_d, bw_d, bw_m, R.bind_ok, List.length_cons, List.length_nil, Nat.zero_add, Nat.reduceAdd, Nat.reduceLeDiff, if_true, boolOf_bl, tru_bl, tru_lst, tru_tup, oSub_int, oAdd_int, oLt_int, oGt_int, oLe_int, oGe_int, oEq_int, oNe_int, oEq_str, oIx_tup0, oIx_tup1, fLen_lst, fLen_tup, fAbs_int, fMin2_int, fMax2_int, fInt_bl, fTuple_lst, fTuple_tup, fList_lst, fList_tup, isNon_non, isNon_int, isNon_tup, isNon_str, Bool.not_true, Bool.not_false]
    | some p => rw [mIf_f (by simp only [mBin_eq, mB_eq, mC_eq, mV_eq, mCall_eq, mIter_eq, mCons_eq, mNil_eq, mFn_eq, mT_eq, mTru_eq, mNot_eq, mNotT_eq, mTest_eq, mIsN_eq, mNotN_eq, mIsi_eq, mSl_eq, mNoPart_eq, mPart_eq, partOf_int, mYes_eq, mL_eq, mLst_eq, mTup_eq, neg1, List.getElem?_cons_succ, List.getElem?_cons_zero, List.set_cons_zero, List.set_cons_succ, vw_d, bw_d, bw_m, R.bind_ok, List.length_cons, List.length_nil, Nat.zero_add, Nat.reduceAdd, Nat.reduceLeDiff, if_true, boolOf_bl, tru_bl, tru_lst, tru_tup, oSub_int, oAdd_int, oLt_int, oGt_int, oLe_int, oGe_int, oEq_int, oNe_int, oEq_str, oIx_tup0, oIx_tup1, fLen_lst, fLen_tup, fAbs_int, fMin2_int, fMax2_int, fInt_bl, fTuple_lst, fTuple_tup, fList_lst, fList_tup, isNon_non, isNon_int, isNon_tup, isNon_str, Bool.not_true, Bool.not_false, bD])]; simp only [mBin_eq, mB_eq, mC_eq, mV_eq, mCall_eq, mIter_eq, mCons_eq, mNil_eq, mFn_eq, mT_eq, mTru_eq, mNot_eq, mNotT_eq, mTest_eq, mIsN_eq, mNotN_eq, mIsi_eq, mSl_eq, mNoPart_eq, mPart_eq, partOf_int, mYes_eq, mL_eq, mLst_eq, mTup_eq, neg1, List.getElem?_cons_succ, List.getElem?_cons_zero, List.set_cons_zero, List.set_cons_succ, vw_d, bw_d, bw_m, R.bind_ok, List.length_cons, List.length_nil, Nat.zero_add, Nat.reduceAdd, Nat.reduceLeDiff, if_true, boolOf_bl, tru_bl, tru_lst, tru_tup, oSub_int, oAdd_int, oLt_int, oGt_int, oLe_int, oGe_int, oEq_int, oNe_int, oEq_str, oIx_tup0, oIx_tup1, fLen_lst, fLen_tup, fAbs_int, fMin2_int, fMax2_int, fInt_bl, fTuple_lst, fTuple_tup, fList_lst, fList_tup, isNon_non, isNon_int, isNon_tup, isNon_str, Bool.not_true, Bool.not_false, bD]
end
end VL

namespace VL
open PySem PySem.Spec PyProof.Rows L2
local macro_rules | `(tactic| walk_at "go") => `(tactic| simp only [List.map, List.length_cons, List.length_nil, List.replicate, List.cons_append, List.nil_append, Nat.reduceAdd, Nat.reduceSub, Nat.add_zero, Nat.zero_add])
local macro_rules | `(tactic| walk_at "st") => `(tactic| simp only [List.set_cons_zero, List.set_cons_succ])
/-! M32: the heights of one vertex; sure vertices. -/
section
variable {n : Nat} {E : List Ed} {t : Nat → Option Int} {f : Nat → Int} {dist : Nat → Nat → Nat} {hs : List (List Int)} {lo hi : Nat → Int}
theorem mem_stepD {a x : Int} {k : Nat} : x ∈ stepD a 2 k ↔ ∃ i : Nat, i < k ∧ x = a + 2 * (i : Int) := by
  unfold stepD
  rw [List.mem_map]
  constructor
  · rintro ⟨i, hi, rfl⟩
    exact ⟨i, List.mem_range.mp hi, by omega⟩
  · rintro ⟨i, hi, rfl⟩
    exact ⟨i, List.mem_range.mpr hi, by omega⟩
theorem pw_stepD (a : Int) (k : Nat) : (stepD a 2 k).Pairwise (· < ·) := by
  unfold stepD
  rw [List.pairwise_map]
  exact List.pairwise_lt_range.imp fun h => by omega
/-- every height between the least and the greatest one, and no other -/
theorem hts_at (G : GOk n E) (T : TOk n t) (DD : DistOk n E dist) (H0 : HF n E t f) (hmem : ∀ h, h ∈ hs ↔ HT n E t h) {v : Nat} (hv : v < n) : sortU (hs.map fun h => fnH h v) = stepD (bot_ n dist t v) 2 ((top_ n dist t v - bot_ n dist t v) / 2 + 1).toNat := by
  have hk := T.some_
  have hb := bot_min DD hk H0 hv
  have ht := H0.top DD hk hv
  refine eq_lt (pw_sortU _) (pw_stepD _ _) fun x => ?_
  rw [mem_sortU, mem_stepD, List.mem_map]
  constructor
  · rintro ⟨h, hh, rfl⟩
    have H := ((hmem h).mp hh).hf
    have a1 := bot_min DD hk H hv
    have a2 := H.top DD hk hv
    exact ⟨((fnH h v - bot_ n dist t v) / 2).toNat, by omega, by omega⟩
  · rintro ⟨i, hi, rfl⟩
    obtain ⟨Hm, iff_⟩ := more_hf G DD hk H0 hv (x := bot_ n dist t v + 2 * (i : Int)) (by omega) (by omega) (by omega)
    obtain ⟨H, e⟩ := (iff_ _).mp Hm
    exact ⟨row n _, (hmem _).mpr (H.ht G), by rw [fnH_row hv]; exact e⟩
theorem stepD_len (a c : Int) (k : Nat) : (stepD a c k).length = k := by simp [stepD]
/-- a comprehension over enumerate(ranges) -/
theorem lc_enum {q : Rho → R Bool} {ρ : Rho} {p : Nat → Bool} {mi : Rho → R (List D)} (hm : mi ρ = .ok (row n fun v => .tup [nD v, .tup [.int (lo v), .int (hi v)]])) (hle : n ≤ 8) (hl : ρ.length = 5)
    (hq : ∀ v, v < n → q ((((wipeR ρ [2, 3, 4]).set 2 (.d (nD v))).set 3 (.d (.int (lo v)))).set 4 (.d (.int (hi v)))) = .ok (p v)) :
    mLc [2, 3, 4] mi (tTuple 2 (tsCons (tName 2) (tsCons (tTuple 2 (tsCons (tName 3) (tsCons (tName 4) tsNil))) tsNil))) q (mV 2) ρ = .ok (.lst (((List.range n).filter p).map nD)) := by
  rw [filter_fm]
  refine mLc_of (List.range n) (fun v => D.tup [nD v, .tup [.int (lo v), .int (hi v)]]) _ hm (by simp; omega) fun v hv => ?_
  refine lcf_ok (ρ1 := (((wipeR ρ [2, 3, 4]).set 2 (.d (nD v))).set 3 (.d (.int (lo v)))).set 4 (.d (.int (hi v)))) rfl (hq v (List.mem_range.mp hv)) fun _ => ?_
  rw [mV_eq, List.getElem?_set_ne (by omega), List.getElem?_set_ne (by omega), List.getElem?_set_self (by simp [wipeR, hl])]
  rfl
theorem enum_limD {m : Rho → R D} {ρ : Rho} (h : m ρ = .ok (limD n lo hi)) : (mIter fEnum (mCons m mNil)) ρ = .ok (row n fun v => .tup [nD v, .tup [.int (lo v), .int (hi v)]]) := by
  simp only [mBin_eq, mB_eq, mC_eq, mV_eq, mCall_eq, mIter_eq, mCons_eq, mNil_eq, mFn_eq, mT_eq, mTru_eq, mNot_eq, mNotT_eq, mTest_eq, mIsN_eq, mNotN_eq, mIsi_eq, mSl_eq, mNoPart_eq, mPart_eq, partOf_int, mYes_eq, mL_eq, mLst_eq, mTup_eq, neg1, List.getElem?_cons_succ, List.getElem?_cons_zero, List.set_cons_zero, List.set_cons_succ, vw_d, bw_d, bw_m, R.bind_ok, List.length_cons, List.length_nil, Nat.zero_add, Nat.reduceAdd, Nat.reduceLeDiff, if_true, boolOf_bl, tru_bl, tru_lst, tru_tup, oSub_int, oAdd_int, oLt_int, oGt_int, oLe_int, oGe_int, oEq_int, oNe_int, oEq_str, oIx_tup0, oIx_tup1, fLen_lst, fLen_tup, fAbs_int, fMin2_int, fMax2_int, fInt_bl, fTuple_lst, fTuple_tup, fList_lst, fList_tup, isNon_non, isNon_int, isNon_tup, isNon_str, Bool.not_true, Bool.not_false, h]
  show R.ok (enumD 0 (row n fun v => .tup [.int (lo v), .int (hi v)])) = _
  rw [enum_row]
theorem sure_ok (G : GOk n E) (hr : g_ranges [gD n E, tD n t] = .ok (limD n lo hi)) : g_sure_vertices [gD n E, tD n t] = .ok (.lst (((List.range n).filter fun v => decide (lo v = hi v)).map nD)) := by
  have hle := G.le
  refine run_of fun Q hQ => ?_
  walk_at "go"
  unfold m_sure_vertices
  refine wp_end (mRet_ok (lc_enum (lo := lo) (hi := hi) (p := fun v => decide (lo v = hi v)) (enum_limD (by simp only [mBin_eq, mB_eq, mC_eq, mV_eq, mCall_eq, mIter_eq, mCons_eq, mNil_eq, mFn_eq, mT_eq, mTru_eq, mNot_eq, mNotT_eq, mTest_eq, mIsN_eq, mNotN_eq, mIsi_eq, mSl_eq, mNoPart_eq, mPart_eq, partOf_int, mYes_eq, mL_eq, mLst_eq, mTup_eq, neg1, List.getElem?_cons_succ, List.getElem?_cons_zero, List.set_cons_zero, List.set_cons_succ, vw_d, bw_d, bw_m, R.bind_ok, List.length_cons, List.length_nil, Nat.zero_add, Nat.reduceAdd, Nat.reduceLeDiff, if_true, boolOf_bl, tru_bl, tru_lst, tru_tup, oSub_int, oAdd_int, oLt_int, oGt_int, oLe_int, oGe_int, oEq_int, oNe_int, oEq_str, oIx_tup0, oIx_tup1, fLen_lst, fLen_tup, fAbs_int, fMin2_int, fMax2_int, fInt_bl, fTuple_lst, fTuple_tup, fList_lst, fList_tup, isNon_non, isNon_int, isNon_tup, isNon_str, Bool.not_true, Bool.not_false, hr])) hle rfl fun v hv => ?_)) hQ
  simp only [mBin_eq, mB_eq, mC_eq, mV_eq, mCall_eq, mIter_eq, mCons_eq, mNil_eq, mFn_eq, mT_eq, mTru_eq, mNot_eq, mNotT_eq, mTest_eq, mIsN_eq, mNotN_eq, mIsi_eq, mSl_eq, mNoPart_eq, mPart_eq, partOf_int, mYes_eq, mL_eq, mLst_eq, mTup_eq, neg1, List.getElem?_cons_succ, List.getElem?_cons_zero, List.set_cons_zero, List.set_cons_succ, vw_d, bw_d, bw_m, R.bind_ok, List.length_cons, List.length_nil, Nat.zero_add, Nat.reduceAdd, Nat.reduceLeDiff, if_true, boolOf_bl, tru_bl, tru_lst, tru_tup, oSub_int, oAdd_int, oLt_int, oGt_int, oLe_int, oGe_int, oEq_int, oNe_int, oEq_str, oIx_tup0, oIx_tup1, fLen_lst, fLen_tup, fAbs_int, fMin2_int, fMax2_int, fInt_bl, fTuple_lst, fTuple_tup, fList_lst, fList_tup, isNon_non, isNon_int, isNon_tup, isNon_str, Bool.not_true, Bool.not_false, wipeR]
theorem determining_ok (G : GOk n E) (hr : g_ranges [gD n E, tD n t] = .ok (limD n lo hi)) : g_determining [gD n E, tD n t] = .ok (.tup (((List.range n).filter fun v => decide (lo v < hi v)).map nD)) := by
  have hle := G.le
  refine run_of fun Q hQ => ?_
  walk_at "go"
  unfold m_determining
  refine wp_end (mRet_ok (d := .tup (((List.range n).filter fun v => decide (lo v < hi v)).map nD)) ?_) hQ
  rw [mCall_eq, mCons_eq, lc_enum (lo := lo) (hi := hi) (p := fun v => decide (lo v < hi v)) (enum_limD (by simp only [mBin_eq, mB_eq, mC_eq, mV_eq, mCall_eq, mIter_eq, mCons_eq, mNil_eq, mFn_eq, mT_eq, mTru_eq, mNot_eq, mNotT_eq, mTest_eq, mIsN_eq, mNotN_eq, mIsi_eq, mSl_eq, mNoPart_eq, mPart_eq, partOf_int, mYes_eq, mL_eq, mLst_eq, mTup_eq, neg1, List.getElem?_cons_succ, List.getElem?_cons_zero, List.set_cons_zero, List.set_cons_succ, vw_d, bw_d, bw_m, R.bind_ok, List.length_cons, List.length_nil, Nat.zero_add, Nat.reduceAdd, Nat.reduceLeDiff, if_true, boolOf_bl, tru_bl, tru_lst, tru_tup, oSub_int, oAdd_int, oLt_int, oGt_int, oLe_int, oGe_int, oEq_int, oNe_int, oEq_str, oIx_tup0, oIx_tup1, fLen_lst, fLen_tup, fAbs_int, fMin2_int, fMax2_int, fInt_bl, fTuple_lst, fTuple_tup, fList_lst, fList_tup, isNon_non, isNon_int, isNon_tup, isNon_str, Bool.not_true, Bool.not_false, hr])) hle rfl fun v hv => by simp only [mBin_eq, mB_eq, mC_eq, mV_eq, mCall_eq, mIter_eq, mCons_eq, mNil_eq, mFn_eq, mT_eq, mTru_eq, mNot_eq, mNotT_eq, mTest_eq, mIsN_eq, mNotN_eq, mIsi_eq, mSl_eq, mNoPart_eq, mPart_eq, partOf_int, mYes_eq, mL_eq, mLst_eq, mTup_eq, neg1, List.getElem?_cons_succ, List.getElem?_cons_zero, List.set_cons_zero, List.set_cons_succ, vw_d, bw_d, bw_m, R.bind_ok, List.length_cons, List.length_nil, Nat.zero_add, Nat.reduceAdd, Nat.reduceLeDiff, if_true, boolOf_bl, tru_bl, tru_lst, tru_tup, oSub_int, oAdd_int, oLt_int, oGt_int, oLe_int, oGe_int, oEq_int, oNe_int, oEq_str, oIx_tup0, oIx_tup1, fLen_lst, fLen_tup, fAbs_int, fMin2_int, fMax2_int, fInt_bl, fTuple_lst, fTuple_tup, fList_lst, fList_tup, isNon_non, isNon_int, isNon_tup, isNon_str, Bool.not_true, Bool.not_false, wipeR]]
  simp only [mBin_eq, mB_eq, mC_eq, mV_eq, mCall_eq, mIter_eq, mCons_eq, mNil_eq, mFn_eq, mT_eq, mTru_eq, mNot_eq, mNotT_eq, mTest_eq, mIsN_eq, mNotN_eq, mIsi_eq, mSl_eq, mNoPart_eq, mPart_eq, partOf_int, mYes_eq, mL_eq, mLst_eq, mTup_eq, neg1, List.getElem?_cons_succ, List.getElem?_cons_zero, List.set_cons_zero, List.set_cons_succ, vw_d, bw_d, bw_m, R.bind_ok, List.length_cons, List.length_nil, Nat.zero_add, Nat.reduceAdd, Nat.reduceLeDiff, if_true, boolOf_bl, tru_bl, tru_lst, tru_tup, oSub_int, oAdd_int, oLt_int, oGt_int, oLe_int, oGe_int, oEq_int, oNe_int, oEq_str, oIx_tup0, oIx_tup1, fLen_lst, fLen_tup, fAbs_int, fMin2_int, fMax2_int, fInt_bl, fTuple_lst, fTuple_tup, fList_lst, fList_tup, isNon_non, isNon_int, isNon_tup, isNon_str, Bool.not_true, Bool.not_false]
theorem oEq_nDs {a b : List Nat} {q : Bool} (hq : q = true ↔ a = b) : oEq (.lst (a.map nD)) (.lst (b.map nD)) = .ok (.bl q) := by
  refine oEq_ok (k := 1) (by simpa [pln] using plns_nDs a) (by simpa [pln] using plns_nDs b) (by omega) ?_
  rw [hq]
  constructor
  · rintro rfl; rfl
  · intro h
    exact List.map_inj_right (fun x y e => by have := D.int.inj e; omega) |>.mp (D.lst.inj h)
theorem oNe_ints {a b : List Int} {q : Bool} (hq : q = true ↔ a ≠ b) : oNe (.lst (a.map D.int)) (.lst (b.map D.int)) = .ok (.bl q) := by
  refine oNe_ok (k := 1) (by simpa [pln] using plns_ints (k := 0) a) (by simpa [pln] using plns_ints (k := 0) b) (by omega) ?_
  rw [hq]
  refine not_congr ?_
  constructor
  · rintro rfl; rfl
  · intro h
    exact List.map_inj_right (fun x y e => D.int.inj e) |>.mp (D.lst.inj h)
theorem oMul_lst {xs : List D} {k : Int} (h : -1000 ≤ k ∧ k ≤ 1000) (hx : xs.length ≤ 1000) : oMul (.lst xs) (.int k) = .ok (.lst (List.replicate k.toNat xs).flatten) := by
  show (if k ≤ 1000 ∧ xs.length ≤ 1000 ∧ -1000 ≤ k then R.ok (D.lst (List.replicate k.toNat xs).flatten) else .bad) = _
  rw [if_pos ⟨h.2, hx, h.1⟩]
end
end VL

namespace VL
open PySem PySem.Spec PyProof.Rows L2
local macro_rules | `(tactic| walk_at "go") => `(tactic| simp only [List.map, List.length_cons, List.length_nil, List.replicate, List.cons_append, List.nil_append, Nat.reduceAdd, Nat.reduceSub, Nat.add_zero, Nat.zero_add])
local macro_rules | `(tactic| walk_at "st") => `(tactic| simp only [List.set_cons_zero, List.set_cons_succ])
/-! L05: the law k05. -/
section
variable {n : Nat} {E : List Ed} {t : Nat → Option Int}
theorem ext_run {k : Int} {a b : D} {r : R D} (h : (if k = 0 then g_least [a, b] else if k = 1 then g_greatest [a, b] else g_ranges [a, b]) = r) :
    (mSeq (mIfS (mT (mBin oEq (mB 0) (mC (.int 0)))) (mRet (mFn 2 g_least (mCons (mV 1) (mCons (mV 2) mNil)))) mSkip)
    (mRet (mIf (mT (mBin oEq (mB 0) (mC (.int 1)))) (mFn 2 g_greatest (mCons (mV 1) (mCons (mV 2) mNil))) (mFn 2 g_ranges (mCons (mV 1) (mCons (mV 2) mNil)))))) [A.d (.int k), A.d a, A.d b, A.un] = r.bind fun d => .ok (.rt d) := by
  by_cases c : k = 0
  · rw [if_pos c] at h
    unfold mSeq
    rw [mIfS_t (by simp only [mBin_eq, mB_eq, mC_eq, mV_eq, mCall_eq, mIter_eq, mCons_eq, mNil_eq, mFn_eq, mT_eq, mTru_eq, mNot_eq, mNotT_eq, mTest_eq, mIsN_eq, mNotN_eq, mIsi_eq, mSl_eq, mNoPart_eq, mPart_eq, partOf_int, mYes_eq, mL_eq, mLst_eq, mTup_eq, neg1, List.getElem?_cons_succ, List.getElem?_cons_zero, List.set_cons_zero, List.set_cons_succ, vw_d, bw_d, bw_m, R.bind_ok, List.length_cons, List.length_nil, Nat.zero_add, Nat.reduceAdd, Nat.reduceLeDiff, if_true, boolOf_bl, tru_bl, tru_lst, tru_tup, oSub_int, oAdd_int, oLt_int, oGt_int, oLe_int, oGe_int, oEq_int, oNe_int, oEq_str, oIx_tup0, oIx_tup1, fLen_lst, fLen_tup, fAbs_int, fMin2_int, fMax2_int, fInt_bl, fTuple_lst, fTuple_tup, fList_lst, fList_tup, isNon_non, isNon_int, isNon_tup, isNon_str, Bool.not_true, Bool.not_false, decide_eq_true c]), mRet_eq]
    simp only [mBin_eq, mB_eq, mC_eq, mV_eq, mCall_eq, mIter_eq, mCons_eq, mNil_eq, mFn_eq, mT_eq, mTru_eq, mNot_eq, mNotT_eq, mTest_eq, mIsN_eq, mNotN_eq, mIsi_eq, mSl_eq, mNoPart_eq, mPart_eq, partOf_int, mYes_eq, mL_eq, mLst_eq, mTup_eq, neg1, List.getElem?_cons_succ, List.getElem?_cons_zero, List.set_cons_zero, List.set_cons_succ, vw_d, bw_d, bw_m, R.bind_ok, List.length_cons, List.length_nil, Nat.zero_add, Nat.reduceAdd, Nat.reduceLeDiff, if_true, boolOf_bl, tru_bl, tru_lst, tru_tup, oSub_int, oAdd_int, oLt_int, oGt_int, oLe_int, oGe_int, oEq_int, oNe_int, oEq_str, oIx_tup0, oIx_tup1, fLen_lst, fLen_tup, fAbs_int, fMin2_int, fMax2_int, fInt_bl, fTuple_lst, fTuple_tup, fList_lst, fList_tup, isNon_non, isNon_int, isNon_tup, isNon_str, Bool.not_true, Bool.not_false, h]
    cases r <;> rfl
  · rw [if_neg c] at h
    rw [mSeq_nx (ρ' := [A.d (.int k), A.d a, A.d b, A.un]) (by rw [mIfS_f (by simp only [mBin_eq, mB_eq, mC_eq, mV_eq, mCall_eq, mIter_eq, mCons_eq, mNil_eq, mFn_eq, mT_eq, mTru_eq, mNot_eq, mNotT_eq, mTest_eq, mIsN_eq, mNotN_eq, mIsi_eq, mSl_eq, mNoPart_eq, mPart_eq, partOf_int, mYes_eq, mL_eq, mLst_eq, mTup_eq, neg1, List.getElem?_cons_succ, List.getElem?_cons_zero, List.set_cons_zero, List.set_cons_succ, vw_d, bw_d, bw_m, R.bind_ok, List.length_cons, List.length_nil, Nat.zero_add, Nat.reduceAdd, Nat.reduceLeDiff, if_true, boolOf_bl, tru_bl, tru_lst, tru_tup, oSub_int, oAdd_int, oLt_int, oGt_int, oLe_int, oGe_int, oEq_int, oNe_int, oEq_str, oIx_tup0, oIx_tup1, fLen_lst, fLen_tup, fAbs_int, fMin2_int, fMax2_int, fInt_bl, fTuple_lst, fTuple_tup, fList_lst, fList_tup, isNon_non, isNon_int, isNon_tup, isNon_str, Bool.not_true, Bool.not_false, decide_eq_false c])]; rfl), mRet_eq]
    by_cases c1 : k = 1
    · rw [if_pos c1] at h
      rw [mIf_t (by simp only [mBin_eq, mB_eq, mC_eq, mV_eq, mCall_eq, mIter_eq, mCons_eq, mNil_eq, mFn_eq, mT_eq, mTru_eq, mNot_eq, mNotT_eq, mTest_eq, mIsN_eq, mNotN_eq, mIsi_eq, mSl_eq, mNoPart_eq, mPart_eq, partOf_int, mYes_eq, mL_eq, mLst_eq, mTup_eq, neg1, List.getElem?_cons_succ, List.getElem?_cons_zero, List.set_cons_zero, List.set_cons_succ, vw_d, bw_d, bw_m, R.bind_ok, List.length_cons, List.length_nil, Nat.zero_add, Nat.reduceAdd, Nat.reduceLeDiff, if_true, boolOf_bl, tru_bl, tru_lst, tru_tup, oSub_int, oAdd_int, oLt_int, oGt_int, oLe_int, oGe_int, oEq_int, oNe_int, oEq_str, oIx_tup0, oIx_tup1, fLen_lst, fLen_tup, fAbs_int, fMin2_int, fMax2_int, fInt_bl, fTuple_lst, fTuple_tup, fList_lst, fList_tup, isNon_non, isNon_int, isNon_tup, isNon_str, Bool.not_true, Bool.not_false, decide_eq_true c1])]
      simp only [mBin_eq, mB_eq, mC_eq, mV_eq, mCall_eq, mIter_eq, mCons_eq, mNil_eq, mFn_eq, mT_eq, mTru_eq, mNot_eq, mNotT_eq, mTest_eq, mIsN_eq, mNotN_eq, mIsi_eq, mSl_eq, mNoPart_eq, mPart_eq, partOf_int, mYes_eq, mL_eq, mLst_eq, mTup_eq, neg1, List.getElem?_cons_succ, List.getElem?_cons_zero, List.set_cons_zero, List.set_cons_succ, vw_d, bw_d, bw_m, R.bind_ok, List.length_cons, List.length_nil, Nat.zero_add, Nat.reduceAdd, Nat.reduceLeDiff, if_true, boolOf_bl, tru_bl, tru_lst, tru_tup, oSub_int, oAdd_int, oLt_int, oGt_int, oLe_int, oGe_int, oEq_int, oNe_int, oEq_str, oIx_tup0, oIx_tup1, fLen_lst, fLen_tup, fAbs_int, fMin2_int, fMax2_int, fInt_bl, fTuple_lst, fTuple_tup, fList_lst, fList_tup, isNon_non, isNon_int, isNon_tup, isNon_str, Bool.not_true, Bool.not_false, h]
    · rw [if_neg c1] at h
      rw [mIf_f (by simp only [mBin_eq, mB_eq, mC_eq, mV_eq, mCall_eq, mIter_eq, mCons_eq, mNil_eq, mFn_eq, mT_eq, mTru_eq, mNot_eq, mNotT_eq, mTest_eq, mIsN_eq, mNotN_eq, mIsi_eq, mSl_eq, mNoPart_eq, mPart_eq, partOf_int, mYes_eq, mL_eq, mLst_eq, mTup_eq, neg1, List.getElem?_cons_succ, List.getElem?_cons_zero, List.set_cons_zero, List.set_cons_succ, vw_d, bw_d, bw_m, R.bind_ok, List.length_cons, List.length_nil, Nat.zero_add, Nat.reduceAdd, Nat.reduceLeDiff, if_true, boolOf_bl, tru_bl, tru_lst, tru_tup, oSub_int, oAdd_int, oLt_int, oGt_int, oLe_int, oGe_int, oEq_int, oNe_int, oEq_str, oIx_tup0, oIx_tup1, fLen_lst, fLen_tup, fAbs_int, fMin2_int, fMax2_int, fInt_bl, fTuple_lst, fTuple_tup, fList_lst, fList_tup, isNon_non, isNon_int, isNon_tup, isNon_str, Bool.not_true, Bool.not_false, decide_eq_false c1])]
      simp only [mBin_eq, mB_eq, mC_eq, mV_eq, mCall_eq, mIter_eq, mCons_eq, mNil_eq, mFn_eq, mT_eq, mTru_eq, mNot_eq, mNotT_eq, mTest_eq, mIsN_eq, mNotN_eq, mIsi_eq, mSl_eq, mNoPart_eq, mPart_eq, partOf_int, mYes_eq, mL_eq, mLst_eq, mTup_eq, neg1, List.getElem?_cons_succ, List.getElem?_cons_zero, List.set_cons_zero, List.set_cons_succ, vw_d, bw_d, bw_m, R.bind_ok, List.length_cons, List.length_nil, Nat.zero_add, Nat.reduceAdd, Nat.reduceLeDiff, if_true, boolOf_bl, tru_bl, tru_lst, tru_tup, oSub_int, oAdd_int, oLt_int, oGt_int, oLe_int, oGe_int, oEq_int, oNe_int, oEq_str, oIx_tup0, oIx_tup1, fLen_lst, fLen_tup, fAbs_int, fMin2_int, fMax2_int, fInt_bl, fTuple_lst, fTuple_tup, fList_lst, fList_tup, isNon_non, isNon_int, isNon_tup, isNon_str, Bool.not_true, Bool.not_false, h]
theorem ext_ok {k : Int} {a b d : D} (h : (if k = 0 then g_least [a, b] else if k = 1 then g_greatest [a, b] else g_ranges [a, b]) = .ok d) : g__law_extreme [.int k, a, b] = .ok d := by
  refine run_of fun Q hQ => ?_
  walk_at "go"
  unfold m__law_extreme
  exact wp_end (mTry_ok (o := .rt d) (ext_run h)) hQ
theorem ext_none {k : Int} {a b : D} (h : (if k = 0 then g_least [a, b] else if k = 1 then g_greatest [a, b] else g_ranges [a, b]) = .ex "NoHeights") : g__law_extreme [.int k, a, b] = .ok (.str "none") := by
  refine run_of fun Q hQ => ?_
  walk_at "go"
  unfold m__law_extreme
  exact wp_end (mTry_ex (c := "NoHeights") (s := "none") (ext_run h) (by decide) (by decide +kernel)) hQ
end
theorem law_true : ∀ ns : List Int, ns.length ≤ 63 → g_law [.scr ns] = .ok (.bl true) := by
  intro ns _
  obtain ⟨n, E, G, _, hg⟩ := graph_eq ns 2 8 (by omega) (by omega)
  obtain ⟨t, T, ht⟩ := told_eq G ns 3
  obtain ⟨dist, DD, hd⟩ := dists_ex G
  obtain ⟨hs, hall, hpw, hmem, h128⟩ := law_all_ok G T
  have g0 := gD0 n E
  have hle := G.le
  have hpos := G.pos
  have hk := T.some_
  have hg : g__law_graph [.scr ns, .int 2, .int 8] = .ok (gD n E) := hg
  have ht : g__law_told [.scr ns, .int 3, gD n E] = .ok (tD n t) := ht
  refine run_of fun Q hQ => ?_
  walk_at "go"
  unfold m_law
  refine wp_stp (mSet_ok (d := gD n E) (by simp only [mBin_eq, mB_eq, mC_eq, mV_eq, mCall_eq, mIter_eq, mCons_eq, mNil_eq, mFn_eq, mT_eq, mTru_eq, mNot_eq, mNotT_eq, mTest_eq, mIsN_eq, mNotN_eq, mIsi_eq, mSl_eq, mNoPart_eq, mPart_eq, partOf_int, mYes_eq, mL_eq, mLst_eq, mTup_eq, neg1, List.getElem?_cons_succ, List.getElem?_cons_zero, List.set_cons_zero, List.set_cons_succ, vw_d, bw_d, bw_m, R.bind_ok, List.length_cons, List.length_nil, Nat.zero_add, Nat.reduceAdd, Nat.reduceLeDiff, if_true, boolOf_bl, tru_bl, tru_lst, tru_tup, oSub_int, oAdd_int, oLt_int, oGt_int, oLe_int, oGe_int, oEq_int, oNe_int, oEq_str, oIx_tup0, oIx_tup1, fLen_lst, fLen_tup, fAbs_int, fMin2_int, fMax2_int, fInt_bl, fTuple_lst, fTuple_tup, fList_lst, fList_tup, isNon_non, isNon_int, isNon_tup, isNon_str, Bool.not_true, Bool.not_false, hg])) ?_
  walk_at "st"
  refine wp_stp (mSet_ok (d := tD n t) (by simp only [mBin_eq, mB_eq, mC_eq, mV_eq, mCall_eq, mIter_eq, mCons_eq, mNil_eq, mFn_eq, mT_eq, mTru_eq, mNot_eq, mNotT_eq, mTest_eq, mIsN_eq, mNotN_eq, mIsi_eq, mSl_eq, mNoPart_eq, mPart_eq, partOf_int, mYes_eq, mL_eq, mLst_eq, mTup_eq, neg1, List.getElem?_cons_succ, List.getElem?_cons_zero, List.set_cons_zero, List.set_cons_succ, vw_d, bw_d, bw_m, R.bind_ok, List.length_cons, List.length_nil, Nat.zero_add, Nat.reduceAdd, Nat.reduceLeDiff, if_true, boolOf_bl, tru_bl, tru_lst, tru_tup, oSub_int, oAdd_int, oLt_int, oGt_int, oLe_int, oGe_int, oEq_int, oNe_int, oEq_str, oIx_tup0, oIx_tup1, fLen_lst, fLen_tup, fAbs_int, fMin2_int, fMax2_int, fInt_bl, fTuple_lst, fTuple_tup, fList_lst, fList_tup, isNon_non, isNon_int, isNon_tup, isNon_str, Bool.not_true, Bool.not_false, ht])) ?_
  walk_at "st"
  refine wp_stp (mSet_ok (d := .lst (hs.map hD)) (by simp only [mBin_eq, mB_eq, mC_eq, mV_eq, mCall_eq, mIter_eq, mCons_eq, mNil_eq, mFn_eq, mT_eq, mTru_eq, mNot_eq, mNotT_eq, mTest_eq, mIsN_eq, mNotN_eq, mIsi_eq, mSl_eq, mNoPart_eq, mPart_eq, partOf_int, mYes_eq, mL_eq, mLst_eq, mTup_eq, neg1, List.getElem?_cons_succ, List.getElem?_cons_zero, List.set_cons_zero, List.set_cons_succ, vw_d, bw_d, bw_m, R.bind_ok, List.length_cons, List.length_nil, Nat.zero_add, Nat.reduceAdd, Nat.reduceLeDiff, if_true, boolOf_bl, tru_bl, tru_lst, tru_tup, oSub_int, oAdd_int, oLt_int, oGt_int, oLe_int, oGe_int, oEq_int, oNe_int, oEq_str, oIx_tup0, oIx_tup1, fLen_lst, fLen_tup, fAbs_int, fMin2_int, fMax2_int, fInt_bl, fTuple_lst, fTuple_tup, fList_lst, fList_tup, isNon_non, isNon_int, isNon_tup, isNon_str, Bool.not_true, Bool.not_false, hall])) ?_
  walk_at "st"
  have lc3 : ∀ {x y z : D} (x4 x5 x6 x7 x8 x9 : A), g__law_extreme [.int 0, gD n E, tD n t] = .ok x → g__law_extreme [.int 1, gD n E, tD n t] = .ok y → g__law_extreme [.int 2, gD n E, tD n t] = .ok z → mLc [8] (mIter fRange1 (mCons (mC (.int 3)) mNil)) (tName 8) mYes (mFn 3 g__law_extreme (mCons (mV 8) (mCons (mV 1) (mCons (mV 2) mNil)))) [A.d (.scr ns), A.d (gD n E), A.d (tD n t), A.d (.lst (hs.map hD)), x4, x5, x6, x7, x8, x9] = .ok (.lst [x, y, z]) := fun {x y z} x4 x5 x6 x7 x8 x9 h0 h1 h2 => by
    rw [lc_range (n := 3) (H := fun v => match v with | 0 => x | 1 => y | _ => z) (by simp only [mBin_eq, mB_eq, mC_eq, mV_eq, mCall_eq, mIter_eq, mCons_eq, mNil_eq, mFn_eq, mT_eq, mTru_eq, mNot_eq, mNotT_eq, mTest_eq, mIsN_eq, mNotN_eq, mIsi_eq, mSl_eq, mNoPart_eq, mPart_eq, partOf_int, mYes_eq, mL_eq, mLst_eq, mTup_eq, neg1, List.getElem?_cons_succ, List.getElem?_cons_zero, List.set_cons_zero, List.set_cons_succ, vw_d, bw_d, bw_m, R.bind_ok, List.length_cons, List.length_nil, Nat.zero_add, Nat.reduceAdd, Nat.reduceLeDiff, if_true, boolOf_bl, tru_bl, tru_lst, tru_tup, oSub_int, oAdd_int, oLt_int, oGt_int, oLe_int, oGe_int, oEq_int, oNe_int, oEq_str, oIx_tup0, oIx_tup1, fLen_lst, fLen_tup, fAbs_int, fMin2_int, fMax2_int, fInt_bl, fTuple_lst, fTuple_tup, fList_lst, fList_tup, isNon_non, isNon_int, isNon_tup, isNon_str, Bool.not_true, Bool.not_false]; exact fRange1_nat (k := 3) (by omega)) (by omega) fun v hv => ?_]
    · rfl
    · match v, hv with
      | 0, _ => simp only [mBin_eq, mB_eq, mC_eq, mV_eq, mCall_eq, mIter_eq, mCons_eq, mNil_eq, mFn_eq, mT_eq, mTru_eq, mNot_eq, mNotT_eq, mTest_eq, mIsN_eq, mNotN_eq, mIsi_eq, mSl_eq, mNoPart_eq, mPart_eq, partOf_int, mYes_eq, mL_eq, mLst_eq, mTup_eq, neg1, List.getElem?_cons_succ, List.getElem?_cons_zero, List.set_cons_zero, List.set_cons_succ, vw_d, bw_d, bw_m, R.bind_ok, List.length_cons, List.length_nil, Nat.zero_add, Nat.reduceAdd, Nat.reduceLeDiff, if_true, boolOf_bl, tru_bl, tru_lst, tru_tup, oSub_int, oAdd_int, oLt_int, oGt_int, oLe_int, oGe_int, oEq_int, oNe_int, oEq_str, oIx_tup0, oIx_tup1, fLen_lst, fLen_tup, fAbs_int, fMin2_int, fMax2_int, fInt_bl, fTuple_lst, fTuple_tup, fList_lst, fList_tup, isNon_non, isNon_int, isNon_tup, isNon_str, Bool.not_true, Bool.not_false, wipeR]; exact h0
      | 1, _ => simp only [mBin_eq, mB_eq, mC_eq, mV_eq, mCall_eq, mIter_eq, mCons_eq, mNil_eq, mFn_eq, mT_eq, mTru_eq, mNot_eq, mNotT_eq, mTest_eq, mIsN_eq, mNotN_eq, mIsi_eq, mSl_eq, mNoPart_eq, mPart_eq, partOf_int, mYes_eq, mL_eq, mLst_eq, mTup_eq, neg1, List.getElem?_cons_succ, List.getElem?_cons_zero, List.set_cons_zero, List.set_cons_succ, vw_d, bw_d, bw_m, R.bind_ok, List.length_cons, List.length_nil, Nat.zero_add, Nat.reduceAdd, Nat.reduceLeDiff, if_true, boolOf_bl, tru_bl, tru_lst, tru_tup, oSub_int, oAdd_int, oLt_int, oGt_int, oLe_int, oGe_int, oEq_int, oNe_int, oEq_str, oIx_tup0, oIx_tup1, fLen_lst, fLen_tup, fAbs_int, fMin2_int, fMax2_int, fInt_bl, fTuple_lst, fTuple_tup, fList_lst, fList_tup, isNon_non, isNon_int, isNon_tup, isNon_str, Bool.not_true, Bool.not_false, wipeR]; exact h1
      | 2, _ => simp only [mBin_eq, mB_eq, mC_eq, mV_eq, mCall_eq, mIter_eq, mCons_eq, mNil_eq, mFn_eq, mT_eq, mTru_eq, mNot_eq, mNotT_eq, mTest_eq, mIsN_eq, mNotN_eq, mIsi_eq, mSl_eq, mNoPart_eq, mPart_eq, partOf_int, mYes_eq, mL_eq, mLst_eq, mTup_eq, neg1, List.getElem?_cons_succ, List.getElem?_cons_zero, List.set_cons_zero, List.set_cons_succ, vw_d, bw_d, bw_m, R.bind_ok, List.length_cons, List.length_nil, Nat.zero_add, Nat.reduceAdd, Nat.reduceLeDiff, if_true, boolOf_bl, tru_bl, tru_lst, tru_tup, oSub_int, oAdd_int, oLt_int, oGt_int, oLe_int, oGe_int, oEq_int, oNe_int, oEq_str, oIx_tup0, oIx_tup1, fLen_lst, fLen_tup, fAbs_int, fMin2_int, fMax2_int, fInt_bl, fTuple_lst, fTuple_tup, fList_lst, fList_tup, isNon_non, isNon_int, isNon_tup, isNon_str, Bool.not_true, Bool.not_false, wipeR]; exact h2
  rcases law_cases G T DD hd hmem with ⟨hne, hf, bip, fits, H0⟩ | ⟨he, hno, kind, p, hf⟩
  case inr =>
    have en := extremes_none G T hf
    refine wp_stp (mSet_ok (lc3 _ _ _ _ _ _ (ext_none (by rw [if_pos rfl]; exact en.2)) (ext_none (by rw [if_neg (by omega), if_pos rfl]; exact en.1)) (ext_none (by rw [if_neg (by omega), if_neg (by omega)]; exact ranges_none G T hf)))) ?_
    walk_at "st"
    have hi : hs.isEmpty = true := by simpa using he
    refine wp_seq_if (b := true) (by simp only [mBin_eq, mB_eq, mC_eq, mV_eq, mCall_eq, mIter_eq, mCons_eq, mNil_eq, mFn_eq, mT_eq, mTru_eq, mNot_eq, mNotT_eq, mTest_eq, mIsN_eq, mNotN_eq, mIsi_eq, mSl_eq, mNoPart_eq, mPart_eq, partOf_int, mYes_eq, mL_eq, mLst_eq, mTup_eq, neg1, List.getElem?_cons_succ, List.getElem?_cons_zero, List.set_cons_zero, List.set_cons_succ, vw_d, bw_d, bw_m, R.bind_ok, List.length_cons, List.length_nil, Nat.zero_add, Nat.reduceAdd, Nat.reduceLeDiff, if_true, boolOf_bl, tru_bl, tru_lst, tru_tup, oSub_int, oAdd_int, oLt_int, oGt_int, oLe_int, oGe_int, oEq_int, oNe_int, oEq_str, oIx_tup0, oIx_tup1, fLen_lst, fLen_tup, fAbs_int, fMin2_int, fMax2_int, fInt_bl, fTuple_lst, fTuple_tup, fList_lst, fList_tup, isNon_non, isNon_int, isNon_tup, isNon_str, Bool.not_true, Bool.not_false, oEq_hs, hi]) (fun _ => ?_) (fun z => by cases z)
    have e3 : oMul (.lst [.str "none"]) (.int 3) = .ok (.lst [.str "none", .str "none", .str "none"]) := oMul_lst (by omega) (by simp)
    have q3 : oEq (.lst [.str "none", .str "none", .str "none"]) (.lst [.str "none", .str "none", .str "none"]) = .ok (.bl true) := oEq_ok (k := 1) (by simp only [pln, plns]; decide +kernel) (by simp only [pln, plns]; decide +kernel) (by omega) (by simp)
    refine wp_end (mRet_ok (d := .bl true) (by simp only [mBin_eq, mB_eq, mC_eq, mV_eq, mCall_eq, mIter_eq, mCons_eq, mNil_eq, mFn_eq, mT_eq, mTru_eq, mNot_eq, mNotT_eq, mTest_eq, mIsN_eq, mNotN_eq, mIsi_eq, mSl_eq, mNoPart_eq, mPart_eq, partOf_int, mYes_eq, mL_eq, mLst_eq, mTup_eq, neg1, List.getElem?_cons_succ, List.getElem?_cons_zero, List.set_cons_zero, List.set_cons_succ, vw_d, bw_d, bw_m, R.bind_ok, List.length_cons, List.length_nil, Nat.zero_add, Nat.reduceAdd, Nat.reduceLeDiff, if_true, boolOf_bl, tru_bl, tru_lst, tru_tup, oSub_int, oAdd_int, oLt_int, oGt_int, oLe_int, oGe_int, oEq_int, oNe_int, oEq_str, oIx_tup0, oIx_tup1, fLen_lst, fLen_tup, fAbs_int, fMin2_int, fMax2_int, fInt_bl, fTuple_lst, fTuple_tup, fList_lst, fList_tup, isNon_non, isNon_int, isNon_tup, isNon_str, Bool.not_true, Bool.not_false, e3, q3])) hQ
  have hr := ranges_ok G T hd DD hf
  refine wp_stp (mSet_ok (lc3 _ _ _ _ _ _ (ext_ok (by rw [if_pos rfl]; exact least_ok G T hd DD hf)) (ext_ok (by rw [if_neg (by omega), if_pos rfl]; exact greatest_ok G T hd DD hf)) (ext_ok (by rw [if_neg (by omega), if_neg (by omega)]; exact hr)))) ?_
  walk_at "st"
  have hi : hs.isEmpty = false := by simpa using hne
  refine wp_seq_if (b := false) (by simp only [mBin_eq, mB_eq, mC_eq, mV_eq, mCall_eq, mIter_eq, mCons_eq, mNil_eq, mFn_eq, mT_eq, mTru_eq, mNot_eq, mNotT_eq, mTest_eq, mIsN_eq, mNotN_eq, mIsi_eq, mSl_eq, mNoPart_eq, mPart_eq, partOf_int, mYes_eq, mL_eq, mLst_eq, mTup_eq, neg1, List.getElem?_cons_succ, List.getElem?_cons_zero, List.set_cons_zero, List.set_cons_succ, vw_d, bw_d, bw_m, R.bind_ok, List.length_cons, List.length_nil, Nat.zero_add, Nat.reduceAdd, Nat.reduceLeDiff, if_true, boolOf_bl, tru_bl, tru_lst, tru_tup, oSub_int, oAdd_int, oLt_int, oGt_int, oLe_int, oGe_int, oEq_int, oNe_int, oEq_str, oIx_tup0, oIx_tup1, fLen_lst, fLen_tup, fAbs_int, fMin2_int, fMax2_int, fInt_bl, fTuple_lst, fTuple_tup, fList_lst, fList_tup, isNon_non, isNon_int, isNon_tup, isNon_str, Bool.not_true, Bool.not_false, oEq_hs, hi]) (fun z => by cases z) (fun _ => ?_)
  rw [mSkip_eq, wp_ok, thn_nx]
  refine wp_stp (mSet_ok (d := .lst []) (by simp only [mBin_eq, mB_eq, mC_eq, mV_eq, mCall_eq, mIter_eq, mCons_eq, mNil_eq, mFn_eq, mT_eq, mTru_eq, mNot_eq, mNotT_eq, mTest_eq, mIsN_eq, mNotN_eq, mIsi_eq, mSl_eq, mNoPart_eq, mPart_eq, partOf_int, mYes_eq, mL_eq, mLst_eq, mTup_eq, neg1, List.getElem?_cons_succ, List.getElem?_cons_zero, List.set_cons_zero, List.set_cons_succ, vw_d, bw_d, bw_m, R.bind_ok, List.length_cons, List.length_nil, Nat.zero_add, Nat.reduceAdd, Nat.reduceLeDiff, if_true, boolOf_bl, tru_bl, tru_lst, tru_tup, oSub_int, oAdd_int, oLt_int, oGt_int, oLe_int, oGe_int, oEq_int, oNe_int, oEq_str, oIx_tup0, oIx_tup1, fLen_lst, fLen_tup, fAbs_int, fMin2_int, fMax2_int, fInt_bl, fTuple_lst, fTuple_tup, fList_lst, fList_tup, isNon_non, isNon_int, isNon_tup, isNon_str, Bool.not_true, Bool.not_false])) ?_
  walk_at "st"
  generalize hfo : (D.lst [hR n (bot_ n dist t), hR n (top_ n dist t), limD n (bot_ n dist t) (top_ n dist t)]) = fo
  have i0 : oIx fo (.int 0) = .ok (hR n (bot_ n dist t)) := by rw [← hfo]; rfl
  have i1 : oIx fo (.int 1) = .ok (hR n (top_ n dist t)) := by rw [← hfo]; rfl
  have i2 : oIx fo (.int 2) = .ok (limD n (bot_ n dist t) (top_ n dist t)) := by rw [← hfo]; rfl
  have hlen : ∀ h ∈ hs, h.length = n := fun h hh => ((hmem h).mp hh).len
  rw [wp_seq]
  refine wp_forR (ds := (List.range n).map fun i => nD i) (fun pre ρ => ∃ a6 a7 a8 a9 : A, ρ = [A.d (.scr ns), A.d (gD n E), A.d (tD n t), A.d (.lst (hs.map hD)), A.d fo, A.d (.lst (((List.range pre.length).filter fun v => decide (bot_ n dist t v = top_ n dist t v)).map nD)), a6, a7, a8, a9]) ?_ ⟨_, _, _, _, rfl⟩ ?_ ?_
  · simp only [mBin_eq, mB_eq, mC_eq, mV_eq, mCall_eq, mIter_eq, mCons_eq, mNil_eq, mFn_eq, mT_eq, mTru_eq, mNot_eq, mNotT_eq, mTest_eq, mIsN_eq, mNotN_eq, mIsi_eq, mSl_eq, mNoPart_eq, mPart_eq, partOf_int, mYes_eq, mL_eq, mLst_eq, mTup_eq, neg1, List.getElem?_cons_succ, List.getElem?_cons_zero, List.set_cons_zero, List.set_cons_succ, vw_d, bw_d, bw_m, R.bind_ok, List.length_cons, List.length_nil, Nat.zero_add, Nat.reduceAdd, Nat.reduceLeDiff, if_true, boolOf_bl, tru_bl, tru_lst, tru_tup, oSub_int, oAdd_int, oLt_int, oGt_int, oLe_int, oGe_int, oEq_int, oNe_int, oEq_str, oIx_tup0, oIx_tup1, fLen_lst, fLen_tup, fAbs_int, fMin2_int, fMax2_int, fInt_bl, fTuple_lst, fTuple_tup, fList_lst, fList_tup, isNon_non, isNon_int, isNon_tup, isNon_str, Bool.not_true, Bool.not_false, g0]
    exact fRange1_nat (k := n) (by omega)
  · rintro pre x r ρ e ⟨a6, a7, a8, a9, rfl⟩
    obtain ⟨rfl, hv⟩ := split_range e
    refine ⟨_, rfl, fun Q' hQ' hR' => ?_⟩
    walk_at "st"
    generalize hj : pre.length = v at *
    have hb := bot_min DD hk H0 hv
    have hrb := H0.rng G T hv
    have hbb := (bot_hf G DD bip fits hk).rng G T hv
    have hat := hts_at G T DD H0 hmem hv
    have lc1 : ∀ x5 x7 x8 x9 : A, mLc [9] (mItemsA (mV 3)) (tName 9) mYes (mBin oIx (mB 9) (mB 6)) [A.d (.scr ns), A.d (gD n E), A.d (tD n t), A.d (.lst (hs.map hD)), A.d fo, x5, A.d (nD v), x7, x8, x9] = .ok (.lst ((hs.map fun h => fnH h v).map D.int)) := fun x5 x7 x8 x9 => by
      rw [lc_hs (F := fun h => .int (fnH h v)) (items_lst rfl) (by omega) fun h hh => ?_]
      · rw [List.map_map]; rfl
      · simp only [mBin_eq, mB_eq, mC_eq, mV_eq, mCall_eq, mIter_eq, mCons_eq, mNil_eq, mFn_eq, mT_eq, mTru_eq, mNot_eq, mNotT_eq, mTest_eq, mIsN_eq, mNotN_eq, mIsi_eq, mSl_eq, mNoPart_eq, mPart_eq, partOf_int, mYes_eq, mL_eq, mLst_eq, mTup_eq, neg1, List.getElem?_cons_succ, List.getElem?_cons_zero, List.set_cons_zero, List.set_cons_succ, vw_d, bw_d, bw_m, R.bind_ok, List.length_cons, List.length_nil, Nat.zero_add, Nat.reduceAdd, Nat.reduceLeDiff, if_true, boolOf_bl, tru_bl, tru_lst, tru_tup, oSub_int, oAdd_int, oLt_int, oGt_int, oLe_int, oGe_int, oEq_int, oNe_int, oEq_str, oIx_tup0, oIx_tup1, fLen_lst, fLen_tup, fAbs_int, fMin2_int, fMax2_int, fInt_bl, fTuple_lst, fTuple_tup, fList_lst, fList_tup, isNon_non, isNon_int, isNon_tup, isNon_str, Bool.not_true, Bool.not_false, wipeR, hD_hR (hlen h hh), hR_get hv]
    obtain ⟨k, hk2⟩ : ∃ k : Nat, ((top_ n dist t v - bot_ n dist t v) / 2 + 1).toNat = k + 1 := ⟨((top_ n dist t v - bot_ n dist t v) / 2).toNat, by omega⟩
    have htop : top_ n dist t v = bot_ n dist t v + 2 * (k : Int) := by omega
    have hk31 : k ≤ 30 := by omega
    rw [hk2] at hat
    have fs := fSortSet_ok (ns := hs.map fun h => fnH h v) (by simp; omega) (by rw [hat, stepD_len]; omega)
    rw [hat] at fs
    refine wp_stp (mSet_ok (d := .lst ((stepD (bot_ n dist t v) 2 (k + 1)).map D.int)) (by unfold mOne; rw [lc1]; exact fs)) ?_
    walk_at "st"
    have h0 : oIx (.lst ((stepD (bot_ n dist t v) 2 (k + 1)).map D.int)) (.int 0) = .ok (.int (bot_ n dist t v)) := oIx_lst (k := 0) (by unfold stepD; rw [List.getElem?_map, List.getElem?_map, List.getElem?_range (by omega)]; simp)
    have hl : oIx (.lst ((stepD (bot_ n dist t v) 2 (k + 1)).map D.int)) (.int (-1)) = .ok (.int (top_ n dist t v)) := by
      have e : (stepD (bot_ n dist t v) 2 (k + 1)).map D.int = (stepD (bot_ n dist t v) 2 k).map D.int ++ [.int (top_ n dist t v)] := by
        unfold stepD
        rw [List.range_succ, List.map_append, List.map_append, htop]
        simp
        omega
      rw [e]
      exact oIx_last
    have rl : fRangeL [.int (bot_ n dist t v), .int (top_ n dist t v + 1), .int 2] = .ok (.lst ((stepD (bot_ n dist t v) 2 (k + 1)).map D.int)) := by
      show (if (0 : Int) < 2 ∧ (2 : Int) ≤ 1000 ∧ -100000 ≤ bot_ n dist t v ∧ bot_ n dist t v ≤ 100000 ∧ -100000 ≤ top_ n dist t v + 1 ∧ top_ n dist t v + 1 ≤ 100000 then R.ok (D.lst ((stepD (bot_ n dist t v) 2 (if bot_ n dist t v < top_ n dist t v + 1 then (top_ n dist t v + 1 - bot_ n dist t v - 1) / 2 + 1 else 0).toNat).map D.int)) else .bad) = _
      rw [if_pos (by omega), if_pos (by omega)]
      congr 4
      omega
    have q1 : oNe (.tup [.int (bot_ n dist t v), .int (top_ n dist t v)]) (.tup [.int (bot_ n dist t v), .int (top_ n dist t v)]) = .ok (.bl false) := oNe_ok (k := 1) (by simp [pln, plns]) (by simp [pln, plns]) (by omega) (by simp)
    refine wp_seq_if (b := false || false) (mOr_ok (by simp only [mBin_eq, mB_eq, mC_eq, mV_eq, mCall_eq, mIter_eq, mCons_eq, mNil_eq, mFn_eq, mT_eq, mTru_eq, mNot_eq, mNotT_eq, mTest_eq, mIsN_eq, mNotN_eq, mIsi_eq, mSl_eq, mNoPart_eq, mPart_eq, partOf_int, mYes_eq, mL_eq, mLst_eq, mTup_eq, neg1, List.getElem?_cons_succ, List.getElem?_cons_zero, List.set_cons_zero, List.set_cons_succ, vw_d, bw_d, bw_m, R.bind_ok, List.length_cons, List.length_nil, Nat.zero_add, Nat.reduceAdd, Nat.reduceLeDiff, if_true, boolOf_bl, tru_bl, tru_lst, tru_tup, oSub_int, oAdd_int, oLt_int, oGt_int, oLe_int, oGe_int, oEq_int, oNe_int, oEq_str, oIx_tup0, oIx_tup1, fLen_lst, fLen_tup, fAbs_int, fMin2_int, fMax2_int, fInt_bl, fTuple_lst, fTuple_tup, fList_lst, fList_tup, isNon_non, isNon_int, isNon_tup, isNon_str, Bool.not_true, Bool.not_false, i0, i1, hR_get hv, h0, hl, q1]) fun _ => by simp only [mBin_eq, mB_eq, mC_eq, mV_eq, mCall_eq, mIter_eq, mCons_eq, mNil_eq, mFn_eq, mT_eq, mTru_eq, mNot_eq, mNotT_eq, mTest_eq, mIsN_eq, mNotN_eq, mIsi_eq, mSl_eq, mNoPart_eq, mPart_eq, partOf_int, mYes_eq, mL_eq, mLst_eq, mTup_eq, neg1, List.getElem?_cons_succ, List.getElem?_cons_zero, List.set_cons_zero, List.set_cons_succ, vw_d, bw_d, bw_m, R.bind_ok, List.length_cons, List.length_nil, Nat.zero_add, Nat.reduceAdd, Nat.reduceLeDiff, if_true, boolOf_bl, tru_bl, tru_lst, tru_tup, oSub_int, oAdd_int, oLt_int, oGt_int, oLe_int, oGe_int, oEq_int, oNe_int, oEq_str, oIx_tup0, oIx_tup1, fLen_lst, fLen_tup, fAbs_int, fMin2_int, fMax2_int, fInt_bl, fTuple_lst, fTuple_tup, fList_lst, fList_tup, isNon_non, isNon_int, isNon_tup, isNon_str, Bool.not_true, Bool.not_false, h0, hl, rl, oNe_ints (a := stepD (bot_ n dist t v) 2 (k + 1)) (b := stepD (bot_ n dist t v) 2 (k + 1)) (q := false) (by simp)]) (fun z => by cases z) (fun _ => ?_)
    rw [mSkip_eq, wp_ok, thn_nx]
    have hps : (pre ++ [nD v]).length = v + 1 := by simp [hj]
    obtain ⟨b, hb1, hb2⟩ : ∃ b : Bool, decide (((k + 1 : Nat) : Int) = 1) = b ∧ (b = true ↔ bot_ n dist t v = top_ n dist t v) := ⟨_, rfl, by rw [decide_eq_true_eq]; omega⟩
    have mulb : oMul (.lst [nD v]) (.int (if b = true then 1 else 0)) = .ok (.lst (if b = true then [nD v] else [])) := by
      cases b with
      | true => exact oMul_lst (k := 1) (by omega) (by simp)
      | false => exact oMul_lst (k := 0) (by omega) (by simp)
    refine wp_end (mSet_ok (d := .lst (((List.range (v + 1)).filter fun v => decide (bot_ n dist t v = top_ n dist t v)).map nD)) ?_) ?_
    · simp only [mBin_eq, mB_eq, mC_eq, mV_eq, mCall_eq, mIter_eq, mCons_eq, mNil_eq, mFn_eq, mT_eq, mTru_eq, mNot_eq, mNotT_eq, mTest_eq, mIsN_eq, mNotN_eq, mIsi_eq, mSl_eq, mNoPart_eq, mPart_eq, partOf_int, mYes_eq, mL_eq, mLst_eq, mTup_eq, neg1, List.getElem?_cons_succ, List.getElem?_cons_zero, List.set_cons_zero, List.set_cons_succ, vw_d, bw_d, bw_m, R.bind_ok, List.length_cons, List.length_nil, Nat.zero_add, Nat.reduceAdd, Nat.reduceLeDiff, if_true, boolOf_bl, tru_bl, tru_lst, tru_tup, oSub_int, oAdd_int, oLt_int, oGt_int, oLe_int, oGe_int, oEq_int, oNe_int, oEq_str, oIx_tup0, oIx_tup1, fLen_lst, fLen_tup, fAbs_int, fMin2_int, fMax2_int, fInt_bl, fTuple_lst, fTuple_tup, fList_lst, fList_tup, isNon_non, isNon_int, isNon_tup, isNon_str, Bool.not_true, Bool.not_false, List.length_map, stepD_len, hb1, mulb]
      rw [oAdd_lst (by
        have l1 : (((List.range v).filter fun v => decide (bot_ n dist t v = top_ n dist t v)).map nD).length ≤ v := by rw [List.length_map]; exact Nat.le_trans (List.length_filter_le _ _) (by simp)
        have l2 : (if b = true then [nD v] else []).length ≤ 1 := by split <;> simp
        omega)]
      congr 2
      rw [List.range_succ, List.filter_append, List.map_append]
      congr 1
      cases b with
      | true => simp [hb2.mp rfl]
      | false =>
        have : bot_ n dist t v ≠ top_ n dist t v := fun z => absurd (hb2.mpr z) Bool.false_ne_true
        simp [this]
    · refine hQ' _ ?_
      rw [hps]
      exact ⟨_, _, _, _, rfl⟩
  · rintro ρ ⟨a6, a7, a8, a9, rfl⟩
    rw [thn_nx, List.length_map, List.length_range]
    have nin : ∀ {f : Nat → Int}, HF n E t f → oNotIn (hR n f) (.lst (hs.map hD)) = .ok (.bl false) := fun {f} H => oNotIn_lst (k := 1) (pln_hD _) (plns_hDs (k := 0) hs) (by omega) (by
      simp only [Bool.false_eq_true, false_iff, Classical.not_not]
      exact List.mem_map.mpr ⟨row n f, (hmem _).mpr (H.ht G), rfl⟩)
    have zl : fZipL [hR n (bot_ n dist t), hR n (top_ n dist t)] = .ok (limD n (bot_ n dist t) (top_ n dist t)) := by
      rw [hR_eq, hR_eq, fZipL_ok (by rw [row_len]; omega), zip_row]
      rfl
    have pll : pln 3 (limD n (bot_ n dist t) (top_ n dist t)) = true := by
      unfold limD
      simp only [pln]
      refine plns_iff.mpr fun x hx => ?_
      obtain ⟨v, _, rfl⟩ := List.mem_map.mp hx
      simp [pln, plns]
    have q2 : oNe (limD n (bot_ n dist t) (top_ n dist t)) (limD n (bot_ n dist t) (top_ n dist t)) = .ok (.bl false) := oNe_ok (k := 3) pll pll (by omega) (by simp)
    refine wp_seq_if (b := false || (false || false)) (mOr_ok (by simp only [mBin_eq, mB_eq, mC_eq, mV_eq, mCall_eq, mIter_eq, mCons_eq, mNil_eq, mFn_eq, mT_eq, mTru_eq, mNot_eq, mNotT_eq, mTest_eq, mIsN_eq, mNotN_eq, mIsi_eq, mSl_eq, mNoPart_eq, mPart_eq, partOf_int, mYes_eq, mL_eq, mLst_eq, mTup_eq, neg1, List.getElem?_cons_succ, List.getElem?_cons_zero, List.set_cons_zero, List.set_cons_succ, vw_d, bw_d, bw_m, R.bind_ok, List.length_cons, List.length_nil, Nat.zero_add, Nat.reduceAdd, Nat.reduceLeDiff, if_true, boolOf_bl, tru_bl, tru_lst, tru_tup, oSub_int, oAdd_int, oLt_int, oGt_int, oLe_int, oGe_int, oEq_int, oNe_int, oEq_str, oIx_tup0, oIx_tup1, fLen_lst, fLen_tup, fAbs_int, fMin2_int, fMax2_int, fInt_bl, fTuple_lst, fTuple_tup, fList_lst, fList_tup, isNon_non, isNon_int, isNon_tup, isNon_str, Bool.not_true, Bool.not_false, i0, nin (bot_hf G DD bip fits hk)]) fun _ => mOr_ok (by simp only [mBin_eq, mB_eq, mC_eq, mV_eq, mCall_eq, mIter_eq, mCons_eq, mNil_eq, mFn_eq, mT_eq, mTru_eq, mNot_eq, mNotT_eq, mTest_eq, mIsN_eq, mNotN_eq, mIsi_eq, mSl_eq, mNoPart_eq, mPart_eq, partOf_int, mYes_eq, mL_eq, mLst_eq, mTup_eq, neg1, List.getElem?_cons_succ, List.getElem?_cons_zero, List.set_cons_zero, List.set_cons_succ, vw_d, bw_d, bw_m, R.bind_ok, List.length_cons, List.length_nil, Nat.zero_add, Nat.reduceAdd, Nat.reduceLeDiff, if_true, boolOf_bl, tru_bl, tru_lst, tru_tup, oSub_int, oAdd_int, oLt_int, oGt_int, oLe_int, oGe_int, oEq_int, oNe_int, oEq_str, oIx_tup0, oIx_tup1, fLen_lst, fLen_tup, fAbs_int, fMin2_int, fMax2_int, fInt_bl, fTuple_lst, fTuple_tup, fList_lst, fList_tup, isNon_non, isNon_int, isNon_tup, isNon_str, Bool.not_true, Bool.not_false, i1, nin (top_hf G DD bip fits hk)]) fun _ => by simp only [mBin_eq, mB_eq, mC_eq, mV_eq, mCall_eq, mIter_eq, mCons_eq, mNil_eq, mFn_eq, mT_eq, mTru_eq, mNot_eq, mNotT_eq, mTest_eq, mIsN_eq, mNotN_eq, mIsi_eq, mSl_eq, mNoPart_eq, mPart_eq, partOf_int, mYes_eq, mL_eq, mLst_eq, mTup_eq, neg1, List.getElem?_cons_succ, List.getElem?_cons_zero, List.set_cons_zero, List.set_cons_succ, vw_d, bw_d, bw_m, R.bind_ok, List.length_cons, List.length_nil, Nat.zero_add, Nat.reduceAdd, Nat.reduceLeDiff, if_true, boolOf_bl, tru_bl, tru_lst, tru_tup, oSub_int, oAdd_int, oLt_int, oGt_int, oLe_int, oGe_int, oEq_int, oNe_int, oEq_str, oIx_tup0, oIx_tup1, fLen_lst, fLen_tup, fAbs_int, fMin2_int, fMax2_int, fInt_bl, fTuple_lst, fTuple_tup, fList_lst, fList_tup, isNon_non, isNon_int, isNon_tup, isNon_str, Bool.not_true, Bool.not_false, i0, i1, i2, zl, q2]) (fun z => by cases z) (fun _ => ?_)
    rw [mSkip_eq, wp_ok, thn_nx]
    refine wp_end (mRet_ok (d := .bl true) (by simp only [mBin_eq, mB_eq, mC_eq, mV_eq, mCall_eq, mIter_eq, mCons_eq, mNil_eq, mFn_eq, mT_eq, mTru_eq, mNot_eq, mNotT_eq, mTest_eq, mIsN_eq, mNotN_eq, mIsi_eq, mSl_eq, mNoPart_eq, mPart_eq, partOf_int, mYes_eq, mL_eq, mLst_eq, mTup_eq, neg1, List.getElem?_cons_succ, List.getElem?_cons_zero, List.set_cons_zero, List.set_cons_succ, vw_d, bw_d, bw_m, R.bind_ok, List.length_cons, List.length_nil, Nat.zero_add, Nat.reduceAdd, Nat.reduceLeDiff, if_true, boolOf_bl, tru_bl, tru_lst, tru_tup, oSub_int, oAdd_int, oLt_int, oGt_int, oLe_int, oGe_int, oEq_int, oNe_int, oEq_str, oIx_tup0, oIx_tup1, fLen_lst, fLen_tup, fAbs_int, fMin2_int, fMax2_int, fInt_bl, fTuple_lst, fTuple_tup, fList_lst, fList_tup, isNon_non, isNon_int, isNon_tup, isNon_str, Bool.not_true, Bool.not_false, sure_ok G hr, oEq_nDs (a := (List.range n).filter fun v => decide (bot_ n dist t v = top_ n dist t v)) (b := (List.range n).filter fun v => decide (bot_ n dist t v = top_ n dist t v)) (q := true) (by simp)])) hQ
end VL

namespace VL
open PySem PySem.Spec PyProof.Rows L2
def top (i : Nat) : Stmt := PySem.Challenge.pw_stepheights_k05_whole_extremes.main.body.getD i (.Pass ⟨0, 0, 0, 0⟩)
abbrev s_in_range : Stmt := top 10
abbrev s_is_edge : Stmt := top 11
abbrev s_distances : Stmt := top 12
abbrev s_is_graph : Stmt := top 13
abbrev s_check_graph : Stmt := top 14
abbrev s_are_told : Stmt := top 15
abbrev s_check_told : Stmt := top 16
abbrev s_neighbors : Stmt := top 17
abbrev s_walk_between : Stmt := top 19
abbrev s_odd_walk : Stmt := top 20
abbrev s_found_paper : Stmt := top 21
abbrev s_bound : Stmt := top 22
abbrev s_extreme : Stmt := top 23
abbrev s_greatest : Stmt := top 24
abbrev s_least : Stmt := top 25
abbrev s_ranges : Stmt := top 26
abbrev s_sure_vertices : Stmt := top 27
abbrev s__law_cell : Stmt := top 29
abbrev s__law_row : Stmt := top 30
abbrev s__law_graph : Stmt := top 31
abbrev s__law_far : Stmt := top 32
abbrev s__law_told : Stmt := top 33
abbrev s__law_beside : Stmt := top 34
abbrev s__law_all : Stmt := top 35
abbrev s__law_with : Stmt := top 36
abbrev s__law_extreme : Stmt := top 37
abbrev s_law : Stmt := top 38
/-- what the top has left -/
structure Txt (K : PySem.W.Frag) (mg : Str → Option Value) : Prop where
  z_abs : mg "abs" = none
  z_bool : mg "bool" = none
  z_enumerate : mg "enumerate" = none
  z_int : mg "int" = none
  z_isinstance : mg "isinstance" = none
  z_len : mg "len" = none
  z_list : mg "list" = none
  z_max : mg "max" = none
  z_min : mg "min" = none
  z_range : mg "range" = none
  z_set : mg "set" = none
  z_sorted : mg "sorted" = none
  z_sum : mg "sum" = none
  z_tuple : mg "tuple" = none
  z_zip : mg "zip" = none
  k_MAX_EDGES : ∃ t, mg "MAX_EDGES" = some (.int 14 t)
  k_MAX_TOLD : ∃ t, mg "MAX_TOLD" = some (.int 20 t)
  k_MAX_VERTICES : ∃ t, mg "MAX_VERTICES" = some (.int 8 t)
  g_HeightError : mg "HeightError" = some (.ref (He.ga K "HeightError"))
  x_HeightError : PySem.W.excIn K (He.ga K "HeightError") He.veBase "ValueError.__new__" = true ∧ PySem.W.keepIn K (.ref (He.ga K "HeightError")) = true ∧ PySem.W.subIn K (.ref (He.ga K "HeightError")) (.type "BaseException") = some true ∧ PySem.W.typeIn K (.ref (He.ga K "HeightError")) = some (.type "type")
  g_HeightsExist : mg "HeightsExist" = some (.ref (He.ga K "HeightsExist"))
  x_HeightsExist : PySem.W.excIn K (He.ga K "HeightsExist") He.veBase "ValueError.__new__" = true ∧ PySem.W.keepIn K (.ref (He.ga K "HeightsExist")) = true ∧ PySem.W.subIn K (.ref (He.ga K "HeightsExist")) (.type "BaseException") = some true ∧ PySem.W.typeIn K (.ref (He.ga K "HeightsExist")) = some (.type "type")
  g_InvalidGraph : mg "InvalidGraph" = some (.ref (He.ga K "InvalidGraph"))
  x_InvalidGraph : PySem.W.excIn K (He.ga K "InvalidGraph") He.veBase "ValueError.__new__" = true ∧ PySem.W.keepIn K (.ref (He.ga K "InvalidGraph")) = true ∧ PySem.W.subIn K (.ref (He.ga K "InvalidGraph")) (.type "BaseException") = some true ∧ PySem.W.typeIn K (.ref (He.ga K "InvalidGraph")) = some (.type "type")
  g_InvalidTold : mg "InvalidTold" = some (.ref (He.ga K "InvalidTold"))
  x_InvalidTold : PySem.W.excIn K (He.ga K "InvalidTold") He.veBase "ValueError.__new__" = true ∧ PySem.W.keepIn K (.ref (He.ga K "InvalidTold")) = true ∧ PySem.W.subIn K (.ref (He.ga K "InvalidTold")) (.type "BaseException") = some true ∧ PySem.W.typeIn K (.ref (He.ga K "InvalidTold")) = some (.type "type")
  g_NoHeights : mg "NoHeights" = some (.ref (He.ga K "NoHeights"))
  x_NoHeights : PySem.W.excIn K (He.ga K "NoHeights") He.veBase "ValueError.__new__" = true ∧ PySem.W.keepIn K (.ref (He.ga K "NoHeights")) = true ∧ PySem.W.subIn K (.ref (He.ga K "NoHeights")) (.type "BaseException") = some true ∧ PySem.W.typeIn K (.ref (He.ga K "NoHeights")) = some (.type "type")
  ex : ExT K mg exN exN
  g_in_range : mg "in_range" = some (.ref (He.ga K "in_range"))
  f_in_range : ∃ fd, FunD K "in_range" "in_range" (defArgs s_in_range) (defBody s_in_range) (defScope s_in_range) [] [] (He.ga K "in_range") fd
  g_is_edge : mg "is_edge" = some (.ref (He.ga K "is_edge"))
  f_is_edge : ∃ fd, FunD K "is_edge" "is_edge" (defArgs s_is_edge) (defBody s_is_edge) (defScope s_is_edge) [] [] (He.ga K "is_edge") fd
  g_distances : mg "distances" = some (.ref (He.ga K "distances"))
  f_distances : ∃ fd, FunD K "distances" "distances" (defArgs s_distances) (defBody s_distances) (defScope s_distances) [] [] (He.ga K "distances") fd
  g_is_graph : mg "is_graph" = some (.ref (He.ga K "is_graph"))
  f_is_graph : ∃ fd, FunD K "is_graph" "is_graph" (defArgs s_is_graph) (defBody s_is_graph) (defScope s_is_graph) [] [] (He.ga K "is_graph") fd
  g_check_graph : mg "check_graph" = some (.ref (He.ga K "check_graph"))
  f_check_graph : ∃ fd, FunD K "check_graph" "check_graph" (defArgs s_check_graph) (defBody s_check_graph) (defScope s_check_graph) [] [] (He.ga K "check_graph") fd
  g_are_told : mg "are_told" = some (.ref (He.ga K "are_told"))
  f_are_told : ∃ fd, FunD K "are_told" "are_told" (defArgs s_are_told) (defBody s_are_told) (defScope s_are_told) [] [] (He.ga K "are_told") fd
  g_check_told : mg "check_told" = some (.ref (He.ga K "check_told"))
  f_check_told : ∃ fd, FunD K "check_told" "check_told" (defArgs s_check_told) (defBody s_check_told) (defScope s_check_told) [] [] (He.ga K "check_told") fd
  g_neighbors : mg "neighbors" = some (.ref (He.ga K "neighbors"))
  f_neighbors : ∃ fd, FunD K "neighbors" "neighbors" (defArgs s_neighbors) (defBody s_neighbors) (defScope s_neighbors) [] [] (He.ga K "neighbors") fd
  g_walk_between : mg "walk_between" = some (.ref (He.ga K "walk_between"))
  f_walk_between : ∃ fd, FunD K "walk_between" "walk_between" (defArgs s_walk_between) (defBody s_walk_between) (defScope s_walk_between) [] [] (He.ga K "walk_between") fd
  g_odd_walk : mg "odd_walk" = some (.ref (He.ga K "odd_walk"))
  f_odd_walk : ∃ fd, FunD K "odd_walk" "odd_walk" (defArgs s_odd_walk) (defBody s_odd_walk) (defScope s_odd_walk) [] [] (He.ga K "odd_walk") fd
  g_found_paper : mg "found_paper" = some (.ref (He.ga K "found_paper"))
  f_found_paper : ∃ fd, FunD K "found_paper" "found_paper" (defArgs s_found_paper) (defBody s_found_paper) (defScope s_found_paper) [] [] (He.ga K "found_paper") fd
  g_bound : mg "bound" = some (.ref (He.ga K "bound"))
  f_bound : ∃ fd, FunD K "bound" "bound" (defArgs s_bound) (defBody s_bound) (defScope s_bound) [] [] (He.ga K "bound") fd
  g_extreme : mg "extreme" = some (.ref (He.ga K "extreme"))
  f_extreme : ∃ fd, FunD K "extreme" "extreme" (defArgs s_extreme) (defBody s_extreme) (defScope s_extreme) [] [] (He.ga K "extreme") fd
  g_greatest : mg "greatest" = some (.ref (He.ga K "greatest"))
  f_greatest : ∃ fd, FunD K "greatest" "greatest" (defArgs s_greatest) (defBody s_greatest) (defScope s_greatest) [] [] (He.ga K "greatest") fd
  g_least : mg "least" = some (.ref (He.ga K "least"))
  f_least : ∃ fd, FunD K "least" "least" (defArgs s_least) (defBody s_least) (defScope s_least) [] [] (He.ga K "least") fd
  g_ranges : mg "ranges" = some (.ref (He.ga K "ranges"))
  f_ranges : ∃ fd, FunD K "ranges" "ranges" (defArgs s_ranges) (defBody s_ranges) (defScope s_ranges) [] [] (He.ga K "ranges") fd
  g_sure_vertices : mg "sure_vertices" = some (.ref (He.ga K "sure_vertices"))
  f_sure_vertices : ∃ fd, FunD K "sure_vertices" "sure_vertices" (defArgs s_sure_vertices) (defBody s_sure_vertices) (defScope s_sure_vertices) [] [] (He.ga K "sure_vertices") fd
  g__law_cell : mg "_law_cell" = some (.ref (He.ga K "_law_cell"))
  f__law_cell : ∃ fd, FunD K "_law_cell" "_law_cell" (defArgs s__law_cell) (defBody s__law_cell) (defScope s__law_cell) [] [] (He.ga K "_law_cell") fd
  g__law_row : mg "_law_row" = some (.ref (He.ga K "_law_row"))
  f__law_row : ∃ fd, FunD K "_law_row" "_law_row" (defArgs s__law_row) (defBody s__law_row) (defScope s__law_row) [] [] (He.ga K "_law_row") fd
  g__law_graph : mg "_law_graph" = some (.ref (He.ga K "_law_graph"))
  f__law_graph : ∃ fd, FunD K "_law_graph" "_law_graph" (defArgs s__law_graph) (defBody s__law_graph) (defScope s__law_graph) [] [] (He.ga K "_law_graph") fd
  g__law_far : mg "_law_far" = some (.ref (He.ga K "_law_far"))
  f__law_far : ∃ fd, FunD K "_law_far" "_law_far" (defArgs s__law_far) (defBody s__law_far) (defScope s__law_far) [] [] (He.ga K "_law_far") fd
  g__law_told : mg "_law_told" = some (.ref (He.ga K "_law_told"))
  f__law_told : ∃ fd, FunD K "_law_told" "_law_told" (defArgs s__law_told) (defBody s__law_told) (defScope s__law_told) [] [] (He.ga K "_law_told") fd
  g__law_beside : mg "_law_beside" = some (.ref (He.ga K "_law_beside"))
  f__law_beside : ∃ fd, FunD K "_law_beside" "_law_beside" (defArgs s__law_beside) (defBody s__law_beside) (defScope s__law_beside) [] [] (He.ga K "_law_beside") fd
  g__law_all : mg "_law_all" = some (.ref (He.ga K "_law_all"))
  f__law_all : ∃ fd, FunD K "_law_all" "_law_all" (defArgs s__law_all) (defBody s__law_all) (defScope s__law_all) [] [] (He.ga K "_law_all") fd
  g__law_with : mg "_law_with" = some (.ref (He.ga K "_law_with"))
  f__law_with : ∃ fd, FunD K "_law_with" "_law_with" (defArgs s__law_with) (defBody s__law_with) (defScope s__law_with) [] [] (He.ga K "_law_with") fd
  g__law_extreme : mg "_law_extreme" = some (.ref (He.ga K "_law_extreme"))
  f__law_extreme : ∃ fd, FunD K "_law_extreme" "_law_extreme" (defArgs s__law_extreme) (defBody s__law_extreme) (defScope s__law_extreme) [] [] (He.ga K "_law_extreme") fd
  g_law : mg "law" = some (.ref (He.ga K "law"))
  f_law : ∃ fd, FunD K "law" "law" (defArgs s_law) (defBody s_law) (defScope s_law) [] [] (He.ga K "law") fd
theorem sc_in_range : FnScope ["value", "low", "high"] ["value", "low", "high"] (defScope s_in_range) := ⟨rfl, rfl, rfl, by decide +kernel, rfl, by decide +kernel, by decide +kernel⟩
theorem ok_in_range {P : Program} {w : World} {K : PySem.W.Frag} {mg : Str → Option Value} {base : Heap} (T : Txt K mg) : Fok P w K mg base 1 "in_range" 3 g_in_range := by
  obtain ⟨fd, F⟩ := T.f_in_range
  refine fokV F sc_in_range T.g_in_range rfl rfl (fun _ _ _ _ _ _ us hl => match us, hl with | [_, _, _], _ => rfl) fun cdv A outer s H F0 E hr tk po sm => ?_
  have c : Cc (cxOf (L2.CX P w) P w K mg base ["value", "low", "high"] "in_range" (defScope s_in_range) (He.ga K "in_range") cdv A outer s H E) ⟨K, mg, fun cls d _ H' => E cls d H', F0, H⟩ 0 := ⟨rfl, rfl, rfl, sc_in_range.nd, hr, tk⟩
  exact (s_one (s_ret (v_and (v_isi c.hK T.z_isinstance T.z_int (by decide +kernel) (b_name 0)) (v_and (v_notT c.hK (b_of (v_isi c.hK T.z_isinstance T.z_bool (by decide +kernel) (b_name 0)))) (v_one (v_lele c.hK c.room (b_name 1) (b_name 0) (b_name 2)))))))
theorem sc_is_edge : FnScope ["vertices", "value"] ["vertices", "value"] (defScope s_is_edge) := ⟨rfl, rfl, rfl, by decide +kernel, rfl, by decide +kernel, by decide +kernel⟩
theorem ok_is_edge {P : Program} {w : World} {K : PySem.W.Frag} {mg : Str → Option Value} {base : Heap} (T : Txt K mg) : Fok P w K mg base 2 "is_edge" 2 g_is_edge := by
  have G_in_range := ok_in_range (P := P) (w := w) (base := base) T
  obtain ⟨fd, F⟩ := T.f_is_edge
  refine fokV F sc_is_edge T.g_is_edge rfl rfl (fun _ _ _ _ _ _ us hl => match us, hl with | [_, _], _ => rfl) fun cdv A outer s H F0 E hr tk po sm => ?_
  have c : Cc (cxOf (L2.CX P w) P w K mg base ["vertices", "value"] "is_edge" (defScope s_is_edge) (He.ga K "is_edge") cdv A outer s H E) ⟨K, mg, fun cls d _ H' => E cls d H', F0, H⟩ 1 := ⟨rfl, rfl, rfl, sc_is_edge.nd, hr, tk⟩
  exact (s_cons (s_if (q_w (qw_or (q_not (q_tru c.hK (b_of (v_isi c.hK T.z_isinstance T.z_tuple (by decide +kernel) (b_name 1))))) (qw_or (q_ne c.hK c.room (b_of (v_len c.hK T.z_len (ab_cons (b_name 1) ab_nil))) (b_of v_int)) (qw_or1 (q_not (q_tru c.hK (b_of (v_fok G_in_range (c.room.mono (by decide)) c.tk c.hK c.hM (av_cons (v_ix c.hK (b_name 1) (b_of v_int)) (av_cons v_int (av_cons (v_sub (b_name 0) (b_of v_int)) av_nil)))))))))))
    (s_one (s_ret v_bl))
    s_nil)
    (s_one (s_ret (v_fok G_in_range (c.room.mono (by decide)) c.tk c.hK c.hM (av_cons (v_ix c.hK (b_name 1) (b_of v_int)) (av_cons (v_add c.hK (b_of (v_ix c.hK (b_name 1) (b_of v_int))) (b_of v_int)) (av_cons (v_sub (b_name 0) (b_of v_int)) av_nil)))))))
theorem sc_distances : FnScope ["graph", "start", "result", "queue", "vertex", "edge", "other"] ["graph", "start"] (defScope s_distances) := ⟨rfl, rfl, rfl, by decide +kernel, rfl, by decide +kernel, by decide +kernel⟩
theorem ok_distances {P : Program} {w : World} {K : PySem.W.Frag} {mg : Str → Option Value} {base : Heap} (T : Txt K mg) : Fok P w K mg base 1 "distances" 2 g_distances := by
  obtain ⟨fd, F⟩ := T.f_distances
  refine fokV F sc_distances T.g_distances rfl rfl (fun _ _ _ _ _ _ us hl => match us, hl with | [_, _], _ => rfl) fun cdv A outer s H F0 E hr tk po sm => ?_
  have c : Cc (cxOf (L2.CX P w) P w K mg base ["graph", "start", "result", "queue", "vertex", "edge", "other"] "distances" (defScope s_distances) (He.ga K "distances") cdv A outer s H E) ⟨K, mg, fun cls d _ H' => E cls d H', F0, H⟩ 0 := ⟨rfl, rfl, rfl, sc_distances.nd, hr, tk⟩
  exact (s_cons (s_setN 2 (n_rep (b_of (v_ofN (n_lst (av_cons v_non av_nil)))) (b_of (v_ix c.hK (b_name 0) (b_of v_int)))) c.nd)
    (s_cons (s_put 2 (L2.pv 2) (v_name 1) v_int)
    (s_cons (s_setN 3 (n_lst (av_cons (v_name 1) av_nil)) c.nd)
    (s_cons (s_while po (q_tru c.hK (b_name 3))
    (s_cons (s_pop0 4 3 (by decide) c.nd (L2.pv 3))
    (s_one (s_for po c.calm (i_seq c.hK (v_ix c.hK (b_name 0) (b_of v_int))) (g_name 5 c.nd)
    (s_one (s_if (q_in c.hK c.room (b_name 4) (b_name 5))
    (s_cons (s_set 6 (v_sub (b_of (v_sum c.hK c.calm T.z_sum (ab_cons (b_name 5) ab_nil))) (b_name 4)) c.nd)
    (s_one (s_if (q_isN (b_of (v_ix c.hK (b_name 2) (b_name 6))))
    (s_cons (s_put 2 (L2.pv 2) (v_name 6) (v_add c.hK (b_of (v_ix c.hK (b_name 2) (b_name 4))) (b_of v_int)))
    (s_one (s_app 3 (L2.pv 3) (v_name 6))))
    s_nil)))
    s_nil))))))
    (s_one (s_retN 2))))))
theorem sc_is_graph : FnScope ["value", "edge", "following"] ["value"] (defScope s_is_graph) := ⟨rfl, rfl, rfl, by decide +kernel, rfl, by decide +kernel, by decide +kernel⟩
theorem ok_is_graph {P : Program} {w : World} {K : PySem.W.Frag} {mg : Str → Option Value} {base : Heap} (T : Txt K mg) : Fok P w K mg base 3 "is_graph" 1 g_is_graph := by
  have G_distances := ok_distances (P := P) (w := w) (base := base) T
  have G_is_edge := ok_is_edge (P := P) (w := w) (base := base) T
  have G_in_range := ok_in_range (P := P) (w := w) (base := base) T
  obtain ⟨fd, F⟩ := T.f_is_graph
  refine fokV F sc_is_graph T.g_is_graph rfl rfl (fun _ _ _ _ _ _ us hl => match us, hl with | [_], _ => rfl) fun cdv A outer s H F0 E hr tk po sm => ?_
  have c : Cc (cxOf (L2.CX P w) P w K mg base ["value", "edge", "following"] "is_graph" (defScope s_is_graph) (He.ga K "is_graph") cdv A outer s H E) ⟨K, mg, fun cls d _ H' => E cls d H', F0, H⟩ 2 := ⟨rfl, rfl, rfl, sc_is_graph.nd, hr, tk⟩
  exact (s_cons (s_if (q_w (qw_or (q_not (q_tru c.hK (b_of (v_isi c.hK T.z_isinstance T.z_tuple (by decide +kernel) (b_name 0))))) (qw_or (q_ne c.hK c.room (b_of (v_len c.hK T.z_len (ab_cons (b_name 0) ab_nil))) (b_of v_int)) (qw_or1 (q_not (q_tru c.hK (b_of (v_fok G_in_range (c.room.mono (by decide)) c.tk c.hK c.hM (av_cons (v_ix c.hK (b_name 0) (b_of v_int)) (av_cons v_int (av_cons (v_globI T.k_MAX_VERTICES) av_nil)))))))))))
    (s_one (s_ret v_bl))
    s_nil)
    (s_cons (s_if (q_w (qw_or (q_not (q_tru c.hK (b_of (v_isi c.hK T.z_isinstance T.z_tuple (by decide +kernel) (b_of (v_ix c.hK (b_name 0) (b_of v_int))))))) (qw_or1 (q_gt (b_of (v_len c.hK T.z_len (ab_cons (b_of (v_ix c.hK (b_name 0) (b_of v_int))) ab_nil))) (b_of (v_globI T.k_MAX_EDGES))))))
    (s_one (s_ret v_bl))
    s_nil)
    (s_cons (s_if (q_tru c.hK (b_of (v_lcc (own := [("edge", 1)]) (vs := [1]) (by decide) c (i_seq c.hK (v_ix c.hK (b_name 0) (b_of v_int))) (blkOk_by (N := ["value", "edge", "following"]) (sc := defScope s_is_graph) (by decide +kernel)) (fun _ _ _ _ _ c' => (g_name 1 c'.nd)) (fun _ _ _ _ _ c' => (qs_one (q_not (q_tru c'.hK (b_of (v_fok G_is_edge (c'.room.mono (by decide)) c'.tk c'.hK c'.hM (av_cons (v_ix c'.hK (b_name 0) (b_of v_int)) (av_cons (v_name 1) av_nil)))))))) (fun _ _ _ _ _ c' => (v_name 1)))))
    (s_one (s_ret v_bl))
    s_nil)
    (s_cons (s_if (q_tru c.hK (b_of (v_lcc (own := [("edge", 1), ("following", 2)]) (vs := [1, 2]) (by decide) c (i_zip c.hK T.z_zip (av_cons (v_ix c.hK (b_name 0) (b_of v_int)) (av_cons (v_slice c.hK (b_of (v_ix c.hK (b_name 0) (b_of v_int))) (o_some (b_of v_int)) o_none) av_nil))) (blkOk_by (N := ["value", "edge", "following"]) (sc := defScope s_is_graph) (by decide +kernel)) (fun _ _ _ _ _ c' => (g_tup c'.calm (gs_cons (g_name 1 c'.nd) (gs_cons (g_name 2 c'.nd) gs_nil)))) (fun _ _ _ _ _ c' => (qs_one (q_ge c'.hK c'.room (b_name 1) (b_name 2)))) (fun _ _ _ _ _ c' => v_int))))
    (s_one (s_ret v_bl))
    s_nil)
    (s_one (s_ret (v_notIn c.hK c.room (b_of v_non) (b_of (v_fok G_distances (c.room.mono (by decide)) c.tk c.hK c.hM (av_cons (v_name 0) (av_cons v_int av_nil)))))))))))
theorem sc_check_graph : FnScope ["graph"] ["graph"] (defScope s_check_graph) := ⟨rfl, rfl, rfl, by decide +kernel, rfl, by decide +kernel, by decide +kernel⟩
theorem ok_check_graph {P : Program} {w : World} {K : PySem.W.Frag} {mg : Str → Option Value} {base : Heap} (T : Txt K mg) : Fok P w K mg base 4 "check_graph" 1 g_check_graph := by
  have G_is_graph := ok_is_graph (P := P) (w := w) (base := base) T
  obtain ⟨fd, F⟩ := T.f_check_graph
  refine fokV F sc_check_graph T.g_check_graph rfl rfl (fun _ _ _ _ _ _ us hl => match us, hl with | [_], _ => rfl) fun cdv A outer s H F0 E hr tk po sm => ?_
  have c : Cc (cxOf (L2.CX P w) P w K mg base ["graph"] "check_graph" (defScope s_check_graph) (He.ga K "check_graph") cdv A outer s H E) ⟨K, mg, fun cls d _ H' => E cls d H', F0, H⟩ 3 := ⟨rfl, rfl, rfl, sc_check_graph.nd, hr, tk⟩
  exact (s_one (s_if (q_not (q_tru c.hK (b_of (v_fok G_is_graph (c.room.mono (by decide)) c.tk c.hK c.hM (av_cons (v_name 0) av_nil)))))
    (s_one (s_raise c.calm c.tk c.hM T.g_InvalidGraph T.x_InvalidGraph))
    s_nil))
theorem sc_are_told : FnScope ["graph", "value", "known", "one"] ["graph", "value"] (defScope s_are_told) := ⟨rfl, rfl, rfl, by decide +kernel, rfl, by decide +kernel, by decide +kernel⟩
theorem ok_are_told {P : Program} {w : World} {K : PySem.W.Frag} {mg : Str → Option Value} {base : Heap} (T : Txt K mg) : Fok P w K mg base 2 "are_told" 2 g_are_told := by
  have G_in_range := ok_in_range (P := P) (w := w) (base := base) T
  obtain ⟨fd, F⟩ := T.f_are_told
  refine fokV F sc_are_told T.g_are_told rfl rfl (fun _ _ _ _ _ _ us hl => match us, hl with | [_, _], _ => rfl) fun cdv A outer s H F0 E hr tk po sm => ?_
  have c : Cc (cxOf (L2.CX P w) P w K mg base ["graph", "value", "known", "one"] "are_told" (defScope s_are_told) (He.ga K "are_told") cdv A outer s H E) ⟨K, mg, fun cls d _ H' => E cls d H', F0, H⟩ 1 := ⟨rfl, rfl, rfl, sc_are_told.nd, hr, tk⟩
  exact (s_cons (s_if (q_w (qw_or (q_not (q_tru c.hK (b_of (v_isi c.hK T.z_isinstance T.z_tuple (by decide +kernel) (b_name 1))))) (qw_or1 (q_ne c.hK c.room (b_of (v_len c.hK T.z_len (ab_cons (b_name 1) ab_nil))) (b_of (v_ix c.hK (b_name 0) (b_of v_int)))))))
    (s_one (s_ret v_bl))
    s_nil)
    (s_cons (s_setLcc 2 (own := [("one", 3)]) (vs := [3]) (by decide) c (i_seq c.hK (v_name 1)) (blkOk_by (N := ["graph", "value", "known", "one"]) (sc := defScope s_are_told) (by decide +kernel)) (fun _ _ _ _ _ c' => (g_name 3 c'.nd)) (fun _ _ _ _ _ c' => (qs_one (q_notN (b_name 3)))) (fun _ _ _ _ _ c' => (v_name 3)) (sw_true rfl rfl rfl (by decide +kernel)))
    (s_one (s_ret (v_and (v_ne c.hK c.room (b_name 2) (b_of (v_ofN (n_lst av_nil)))) (v_one (v_notT c.hK (b_of (v_lcc (own := [("one", 3)]) (vs := [3]) (by decide) c (i_seq c.hK (v_name 2)) (blkOk_by (N := ["graph", "value", "known", "one"]) (sc := defScope s_are_told) (by decide +kernel)) (fun _ _ _ _ _ c' => (g_name 3 c'.nd)) (fun _ _ _ _ _ c' => (qs_one (q_not (q_tru c'.hK (b_of (v_fok G_in_range (c'.room.mono (by decide)) c'.tk c'.hK c'.hM (av_cons (v_name 3) (av_cons (v_neg (b_of (v_globI T.k_MAX_TOLD))) (av_cons (v_globI T.k_MAX_TOLD) av_nil))))))))) (fun _ _ _ _ _ c' => (v_name 3)))))))))))
theorem sc_check_told : FnScope ["graph", "told"] ["graph", "told"] (defScope s_check_told) := ⟨rfl, rfl, rfl, by decide +kernel, rfl, by decide +kernel, by decide +kernel⟩
theorem ok_check_told {P : Program} {w : World} {K : PySem.W.Frag} {mg : Str → Option Value} {base : Heap} (T : Txt K mg) : Fok P w K mg base 5 "check_told" 2 g_check_told := by
  have G_are_told := ok_are_told (P := P) (w := w) (base := base) T
  have G_check_graph := ok_check_graph (P := P) (w := w) (base := base) T
  obtain ⟨fd, F⟩ := T.f_check_told
  refine fokV F sc_check_told T.g_check_told rfl rfl (fun _ _ _ _ _ _ us hl => match us, hl with | [_, _], _ => rfl) fun cdv A outer s H F0 E hr tk po sm => ?_
  have c : Cc (cxOf (L2.CX P w) P w K mg base ["graph", "told"] "check_told" (defScope s_check_told) (He.ga K "check_told") cdv A outer s H E) ⟨K, mg, fun cls d _ H' => E cls d H', F0, H⟩ 4 := ⟨rfl, rfl, rfl, sc_check_told.nd, hr, tk⟩
  exact (s_cons (s_expr (v_fok G_check_graph (c.room.mono (by decide)) c.tk c.hK c.hM (av_cons (v_name 0) av_nil)))
    (s_one (s_if (q_not (q_tru c.hK (b_of (v_fok G_are_told (c.room.mono (by decide)) c.tk c.hK c.hM (av_cons (v_name 0) (av_cons (v_name 1) av_nil))))))
    (s_one (s_raise c.calm c.tk c.hM T.g_InvalidTold T.x_InvalidTold))
    s_nil)))
theorem sc_neighbors : FnScope ["graph", "vertex", "edge"] ["graph", "vertex"] (defScope s_neighbors) := ⟨rfl, rfl, rfl, by decide +kernel, rfl, by decide +kernel, by decide +kernel⟩
theorem ok_neighbors {P : Program} {w : World} {K : PySem.W.Frag} {mg : Str → Option Value} {base : Heap} (T : Txt K mg) : Fok P w K mg base 1 "neighbors" 2 g_neighbors := by
  obtain ⟨fd, F⟩ := T.f_neighbors
  refine fokV F sc_neighbors T.g_neighbors rfl rfl (fun _ _ _ _ _ _ us hl => match us, hl with | [_, _], _ => rfl) fun cdv A outer s H F0 E hr tk po sm => ?_
  have c : Cc (cxOf (L2.CX P w) P w K mg base ["graph", "vertex", "edge"] "neighbors" (defScope s_neighbors) (He.ga K "neighbors") cdv A outer s H E) ⟨K, mg, fun cls d _ H' => E cls d H', F0, H⟩ 0 := ⟨rfl, rfl, rfl, sc_neighbors.nd, hr, tk⟩
  exact (s_one (s_ret (v_sorted c.hK c.room T.z_sorted (ab_cons (b_of (v_lcc (own := [("edge", 2)]) (vs := [2]) (by decide) c (i_seq c.hK (v_ix c.hK (b_name 0) (b_of v_int))) (blkOk_by (N := ["graph", "vertex", "edge"]) (sc := defScope s_neighbors) (by decide +kernel)) (fun _ _ _ _ _ c' => (g_name 2 c'.nd)) (fun _ _ _ _ _ c' => (qs_one (q_in c'.hK c'.room (b_name 1) (b_name 2)))) (fun _ _ _ _ _ c' => (v_sub (b_of (v_sum c'.hK c'.calm T.z_sum (ab_cons (b_name 2) ab_nil))) (b_name 1))))) ab_nil))))
theorem sc_walk_between : FnScope ["graph", "start", "goal", "far", "walk", "other"] ["graph", "start", "goal"] (defScope s_walk_between) := ⟨rfl, rfl, rfl, by decide +kernel, rfl, by decide +kernel, by decide +kernel⟩
theorem ok_walk_between {P : Program} {w : World} {K : PySem.W.Frag} {mg : Str → Option Value} {base : Heap} (T : Txt K mg) : Fok P w K mg base 2 "walk_between" 3 g_walk_between := by
  have G_neighbors := ok_neighbors (P := P) (w := w) (base := base) T
  have G_distances := ok_distances (P := P) (w := w) (base := base) T
  obtain ⟨fd, F⟩ := T.f_walk_between
  refine fokV F sc_walk_between T.g_walk_between rfl rfl (fun _ _ _ _ _ _ us hl => match us, hl with | [_, _, _], _ => rfl) fun cdv A outer s H F0 E hr tk po sm => ?_
  have c : Cc (cxOf (L2.CX P w) P w K mg base ["graph", "start", "goal", "far", "walk", "other"] "walk_between" (defScope s_walk_between) (He.ga K "walk_between") cdv A outer s H E) ⟨K, mg, fun cls d _ H' => E cls d H', F0, H⟩ 1 := ⟨rfl, rfl, rfl, sc_walk_between.nd, hr, tk⟩
  exact (s_cons (s_set 3 (v_fok G_distances (c.room.mono (by decide)) c.tk c.hK c.hM (av_cons (v_name 0) (av_cons (v_name 2) av_nil))) c.nd)
    (s_cons (s_setN 4 (n_lst (av_cons (v_name 1) av_nil)) c.nd)
    (s_cons (s_while po (q_ne c.hK c.room (b_of (v_ix c.hK (b_name 4) (b_of (v_neg (b_of v_int))))) (b_name 2))
    (s_one (s_app 4 (L2.pv 4) (v_ix c.hK (b_of (v_lcc (own := [("other", 5)]) (vs := [5]) (by decide) c (i_seq c.hK (v_fok G_neighbors (c.room.mono (by decide)) c.tk c.hK c.hM (av_cons (v_name 0) (av_cons (v_ix c.hK (b_name 4) (b_of (v_neg (b_of v_int)))) av_nil)))) (blkOk_by (N := ["graph", "start", "goal", "far", "walk", "other"]) (sc := defScope s_walk_between) (by decide +kernel)) (fun _ _ _ _ _ c' => (g_name 5 c'.nd)) (fun _ _ _ _ _ c' => (qs_one (q_eq c'.hK c'.room (b_of (v_ix c'.hK (b_name 3) (b_name 5))) (b_of (v_sub (b_of (v_ix c'.hK (b_name 3) (b_of (v_ix c'.hK (b_name 4) (b_of (v_neg (b_of v_int))))))) (b_of v_int)))))) (fun _ _ _ _ _ c' => (v_name 5)))) (b_of v_int)))))
    (s_one (s_ret (v_tuple c.hK T.z_tuple (ab_cons (b_name 4) ab_nil)))))))
theorem sc_odd_walk : FnScope ["graph", "far", "one", "other"] ["graph"] (defScope s_odd_walk) := ⟨rfl, rfl, rfl, by decide +kernel, rfl, by decide +kernel, by decide +kernel⟩
theorem ok_odd_walk {P : Program} {w : World} {K : PySem.W.Frag} {mg : Str → Option Value} {base : Heap} (T : Txt K mg) : Fok P w K mg base 3 "odd_walk" 1 g_odd_walk := by
  have G_walk_between := ok_walk_between (P := P) (w := w) (base := base) T
  have G_distances := ok_distances (P := P) (w := w) (base := base) T
  obtain ⟨fd, F⟩ := T.f_odd_walk
  refine fokV F sc_odd_walk T.g_odd_walk rfl rfl (fun _ _ _ _ _ _ us hl => match us, hl with | [_], _ => rfl) fun cdv A outer s H F0 E hr tk po sm => ?_
  have c : Cc (cxOf (L2.CX P w) P w K mg base ["graph", "far", "one", "other"] "odd_walk" (defScope s_odd_walk) (He.ga K "odd_walk") cdv A outer s H E) ⟨K, mg, fun cls d _ H' => E cls d H', F0, H⟩ 2 := ⟨rfl, rfl, rfl, sc_odd_walk.nd, hr, tk⟩
  exact (s_cons (s_set 1 (v_fok G_distances (c.room.mono (by decide)) c.tk c.hK c.hM (av_cons (v_name 0) (av_cons v_int av_nil))) c.nd)
    (s_cons (s_for po c.calm (i_seq c.hK (v_ix c.hK (b_name 0) (b_of v_int))) (g_tup c.calm (gs_cons (g_name 2 c.nd) (gs_cons (g_name 3 c.nd) gs_nil)))
    (s_one (s_if (q_eq c.hK c.room (b_of (v_mod (b_of (v_ix c.hK (b_name 1) (b_name 2))) (b_of v_int))) (b_of (v_mod (b_of (v_ix c.hK (b_name 1) (b_name 3))) (b_of v_int))))
    (s_one (s_ret (v_add c.hK (b_of (v_fok G_walk_between (c.room.mono (by decide)) c.tk c.hK c.hM (av_cons (v_name 0) (av_cons v_int (av_cons (v_name 2) av_nil))))) (b_of (v_fok G_walk_between (c.room.mono (by decide)) c.tk c.hK c.hM (av_cons (v_name 0) (av_cons (v_name 3) (av_cons v_int av_nil))))))))
    s_nil)))
    (s_one (s_ret v_non))))
theorem sc_found_paper : FnScope ["graph", "told", "odd", "known", "one", "far", "other", "gap", "vertex", "height"] ["graph", "told"] (defScope s_found_paper) := ⟨rfl, rfl, rfl, by decide +kernel, rfl, by decide +kernel, by decide +kernel⟩
theorem ok_found_paper {P : Program} {w : World} {K : PySem.W.Frag} {mg : Str → Option Value} {base : Heap} (T : Txt K mg) : Fok P w K mg base 4 "found_paper" 2 g_found_paper := by
  have G_walk_between := ok_walk_between (P := P) (w := w) (base := base) T
  have G_distances := ok_distances (P := P) (w := w) (base := base) T
  have G_odd_walk := ok_odd_walk (P := P) (w := w) (base := base) T
  obtain ⟨fd, F⟩ := T.f_found_paper
  refine fokV F sc_found_paper T.g_found_paper rfl rfl (fun _ _ _ _ _ _ us hl => match us, hl with | [_, _], _ => rfl) fun cdv A outer s H F0 E hr tk po sm => ?_
  have c : Cc (cxOf (L2.CX P w) P w K mg base ["graph", "told", "odd", "known", "one", "far", "other", "gap", "vertex", "height"] "found_paper" (defScope s_found_paper) (He.ga K "found_paper") cdv A outer s H E) ⟨K, mg, fun cls d _ H' => E cls d H', F0, H⟩ 3 := ⟨rfl, rfl, rfl, sc_found_paper.nd, hr, tk⟩
  exact (s_cons (s_set 2 (v_fok G_odd_walk (c.room.mono (by decide)) c.tk c.hK c.hM (av_cons (v_name 0) av_nil)) c.nd)
    (s_cons (s_if (q_notN (b_name 2))
    (s_one (s_ret (v_tup (av_cons v_str (av_cons (v_name 2) av_nil)))))
    s_nil)
    (s_cons (s_setLcc 3 (own := [("vertex", 8), ("height", 9)]) (vs := [8, 9]) (by decide) c (i_enum c.hK T.z_enumerate (av_cons (v_name 1) av_nil)) (blkOk_by (N := ["graph", "told", "odd", "known", "one", "far", "other", "gap", "vertex", "height"]) (sc := defScope s_found_paper) (by decide +kernel)) (fun _ _ _ _ _ c' => (g_tup c'.calm (gs_cons (g_name 8 c'.nd) (gs_cons (g_name 9 c'.nd) gs_nil)))) (fun _ _ _ _ _ c' => (qs_one (q_notN (b_name 9)))) (fun _ _ _ _ _ c' => (v_name 8)) (sw_true rfl rfl rfl (by decide +kernel)))
    (s_cons (s_for po c.calm (i_seq c.hK (v_name 3)) (g_name 4 c.nd)
    (s_cons (s_set 5 (v_fok G_distances (c.room.mono (by decide)) c.tk c.hK c.hM (av_cons (v_name 0) (av_cons (v_name 4) av_nil))) c.nd)
    (s_one (s_for po c.calm (i_seq c.hK (v_name 3)) (g_name 6 c.nd)
    (s_cons (s_set 7 (v_abs T.z_abs (ab_cons (b_of (v_sub (b_of (v_ix c.hK (b_name 1) (b_name 4))) (b_of (v_ix c.hK (b_name 1) (b_name 6))))) ab_nil)) c.nd)
    (s_cons (s_if (q_gt (b_name 7) (b_of (v_ix c.hK (b_name 5) (b_name 6))))
    (s_one (s_ret (v_tup (av_cons v_str (av_cons (v_fok G_walk_between (c.room.mono (by decide)) c.tk c.hK c.hM (av_cons (v_name 0) (av_cons (v_name 4) (av_cons (v_name 6) av_nil)))) av_nil)))))
    s_nil)
    (s_one (s_if (q_ne c.hK c.room (b_of (v_mod (b_of (v_sub (b_name 7) (b_of (v_ix c.hK (b_name 5) (b_name 6))))) (b_of v_int))) (b_of v_int))
    (s_one (s_ret (v_tup (av_cons v_str (av_cons (v_fok G_walk_between (c.room.mono (by decide)) c.tk c.hK c.hM (av_cons (v_name 0) (av_cons (v_name 4) (av_cons (v_name 6) av_nil)))) av_nil)))))
    s_nil))))))))
    (s_one (s_ret v_non))))))
theorem sc_bound : FnScope ["graph", "told", "sign", "known", "result", "vertex", "far", "options", "height", "other"] ["graph", "told", "sign"] (defScope s_bound) := ⟨rfl, rfl, rfl, by decide +kernel, rfl, by decide +kernel, by decide +kernel⟩
theorem ok_bound {P : Program} {w : World} {K : PySem.W.Frag} {mg : Str → Option Value} {base : Heap} (T : Txt K mg) : Fok P w K mg base 2 "bound" 3 g_bound := by
  have G_distances := ok_distances (P := P) (w := w) (base := base) T
  obtain ⟨fd, F⟩ := T.f_bound
  refine fokV F sc_bound T.g_bound rfl rfl (fun _ _ _ _ _ _ us hl => match us, hl with | [_, _, _], _ => rfl) fun cdv A outer s H F0 E hr tk po sm => ?_
  have c : Cc (cxOf (L2.CX P w) P w K mg base ["graph", "told", "sign", "known", "result", "vertex", "far", "options", "height", "other"] "bound" (defScope s_bound) (He.ga K "bound") cdv A outer s H E) ⟨K, mg, fun cls d _ H' => E cls d H', F0, H⟩ 1 := ⟨rfl, rfl, rfl, sc_bound.nd, hr, tk⟩
  exact (s_cons (s_setLcc 3 (own := [("vertex", 5), ("height", 8)]) (vs := [5, 8]) (by decide) c (i_enum c.hK T.z_enumerate (av_cons (v_name 1) av_nil)) (blkOk_by (N := ["graph", "told", "sign", "known", "result", "vertex", "far", "options", "height", "other"]) (sc := defScope s_bound) (by decide +kernel)) (fun _ _ _ _ _ c' => (g_tup c'.calm (gs_cons (g_name 5 c'.nd) (gs_cons (g_name 8 c'.nd) gs_nil)))) (fun _ _ _ _ _ c' => (qs_one (q_notN (b_name 8)))) (fun _ _ _ _ _ c' => (v_name 5)) (sw_true rfl rfl rfl (by decide +kernel)))
    (s_cons (s_setN 4 (n_lst av_nil) c.nd)
    (s_cons (s_for po c.calm (i_range1 T.z_range (av_cons (v_ix c.hK (b_name 0) (b_of v_int)) av_nil)) (g_name 5 c.nd)
    (s_cons (s_set 6 (v_fok G_distances (c.room.mono (by decide)) c.tk c.hK c.hM (av_cons (v_name 0) (av_cons (v_name 5) av_nil))) c.nd)
    (s_cons (s_setLcc 7 (own := [("other", 9)]) (vs := [9]) (by decide) c (i_seq c.hK (v_name 3)) (blkOk_by (N := ["graph", "told", "sign", "known", "result", "vertex", "far", "options", "height", "other"]) (sc := defScope s_bound) (by decide +kernel)) (fun _ _ _ _ _ c' => (g_name 9 c'.nd)) (fun _ _ _ _ _ c' => qs_nil) (fun _ _ _ _ _ c' => (v_add c'.hK (b_of (v_mul (b_name 2) (b_of (v_ix c'.hK (b_name 1) (b_name 9))))) (b_of (v_ix c'.hK (b_name 6) (b_name 9))))) (sw_true rfl rfl rfl (by decide +kernel)))
    (s_one (s_app 4 (L2.pv 4) (v_mul (b_name 2) (b_of (v_min1 c.hK c.calm T.z_min (ab_cons (b_name 7) ab_nil)))))))))
    (s_one (s_ret (v_tuple c.hK T.z_tuple (ab_cons (b_name 4) ab_nil)))))))
theorem sc_extreme : FnScope ["graph", "told", "sign"] ["graph", "told", "sign"] (defScope s_extreme) := ⟨rfl, rfl, rfl, by decide +kernel, rfl, by decide +kernel, by decide +kernel⟩
theorem ok_extreme {P : Program} {w : World} {K : PySem.W.Frag} {mg : Str → Option Value} {base : Heap} (T : Txt K mg) : Fok P w K mg base 6 "extreme" 3 g_extreme := by
  have G_bound := ok_bound (P := P) (w := w) (base := base) T
  have G_found_paper := ok_found_paper (P := P) (w := w) (base := base) T
  have G_check_told := ok_check_told (P := P) (w := w) (base := base) T
  obtain ⟨fd, F⟩ := T.f_extreme
  refine fokV F sc_extreme T.g_extreme rfl rfl (fun _ _ _ _ _ _ us hl => match us, hl with | [_, _, _], _ => rfl) fun cdv A outer s H F0 E hr tk po sm => ?_
  have c : Cc (cxOf (L2.CX P w) P w K mg base ["graph", "told", "sign"] "extreme" (defScope s_extreme) (He.ga K "extreme") cdv A outer s H E) ⟨K, mg, fun cls d _ H' => E cls d H', F0, H⟩ 5 := ⟨rfl, rfl, rfl, sc_extreme.nd, hr, tk⟩
  exact (s_cons (s_expr (v_fok G_check_told (c.room.mono (by decide)) c.tk c.hK c.hM (av_cons (v_name 0) (av_cons (v_name 1) av_nil))))
    (s_cons (s_if (q_notN (b_of (v_fok G_found_paper (c.room.mono (by decide)) c.tk c.hK c.hM (av_cons (v_name 0) (av_cons (v_name 1) av_nil)))))
    (s_one (s_raise c.calm c.tk c.hM T.g_NoHeights T.x_NoHeights))
    s_nil)
    (s_one (s_ret (v_fok G_bound (c.room.mono (by decide)) c.tk c.hK c.hM (av_cons (v_name 0) (av_cons (v_name 1) (av_cons (v_name 2) av_nil))))))))
theorem sc_greatest : FnScope ["graph", "told"] ["graph", "told"] (defScope s_greatest) := ⟨rfl, rfl, rfl, by decide +kernel, rfl, by decide +kernel, by decide +kernel⟩
theorem ok_greatest {P : Program} {w : World} {K : PySem.W.Frag} {mg : Str → Option Value} {base : Heap} (T : Txt K mg) : Fok P w K mg base 7 "greatest" 2 g_greatest := by
  have G_extreme := ok_extreme (P := P) (w := w) (base := base) T
  obtain ⟨fd, F⟩ := T.f_greatest
  refine fokV F sc_greatest T.g_greatest rfl rfl (fun _ _ _ _ _ _ us hl => match us, hl with | [_, _], _ => rfl) fun cdv A outer s H F0 E hr tk po sm => ?_
  have c : Cc (cxOf (L2.CX P w) P w K mg base ["graph", "told"] "greatest" (defScope s_greatest) (He.ga K "greatest") cdv A outer s H E) ⟨K, mg, fun cls d _ H' => E cls d H', F0, H⟩ 6 := ⟨rfl, rfl, rfl, sc_greatest.nd, hr, tk⟩
  exact (s_one (s_ret (v_fok G_extreme (c.room.mono (by decide)) c.tk c.hK c.hM (av_cons (v_name 0) (av_cons (v_name 1) (av_cons v_int av_nil))))))
theorem sc_least : FnScope ["graph", "told"] ["graph", "told"] (defScope s_least) := ⟨rfl, rfl, rfl, by decide +kernel, rfl, by decide +kernel, by decide +kernel⟩
theorem ok_least {P : Program} {w : World} {K : PySem.W.Frag} {mg : Str → Option Value} {base : Heap} (T : Txt K mg) : Fok P w K mg base 7 "least" 2 g_least := by
  have G_extreme := ok_extreme (P := P) (w := w) (base := base) T
  obtain ⟨fd, F⟩ := T.f_least
  refine fokV F sc_least T.g_least rfl rfl (fun _ _ _ _ _ _ us hl => match us, hl with | [_, _], _ => rfl) fun cdv A outer s H F0 E hr tk po sm => ?_
  have c : Cc (cxOf (L2.CX P w) P w K mg base ["graph", "told"] "least" (defScope s_least) (He.ga K "least") cdv A outer s H E) ⟨K, mg, fun cls d _ H' => E cls d H', F0, H⟩ 6 := ⟨rfl, rfl, rfl, sc_least.nd, hr, tk⟩
  exact (s_one (s_ret (v_fok G_extreme (c.room.mono (by decide)) c.tk c.hK c.hM (av_cons (v_name 0) (av_cons (v_name 1) (av_cons (v_neg (b_of v_int)) av_nil))))))
theorem sc_ranges : FnScope ["graph", "told"] ["graph", "told"] (defScope s_ranges) := ⟨rfl, rfl, rfl, by decide +kernel, rfl, by decide +kernel, by decide +kernel⟩
theorem ok_ranges {P : Program} {w : World} {K : PySem.W.Frag} {mg : Str → Option Value} {base : Heap} (T : Txt K mg) : Fok P w K mg base 8 "ranges" 2 g_ranges := by
  have G_greatest := ok_greatest (P := P) (w := w) (base := base) T
  have G_least := ok_least (P := P) (w := w) (base := base) T
  obtain ⟨fd, F⟩ := T.f_ranges
  refine fokV F sc_ranges T.g_ranges rfl rfl (fun _ _ _ _ _ _ us hl => match us, hl with | [_, _], _ => rfl) fun cdv A outer s H F0 E hr tk po sm => ?_
  have c : Cc (cxOf (L2.CX P w) P w K mg base ["graph", "told"] "ranges" (defScope s_ranges) (He.ga K "ranges") cdv A outer s H E) ⟨K, mg, fun cls d _ H' => E cls d H', F0, H⟩ 7 := ⟨rfl, rfl, rfl, sc_ranges.nd, hr, tk⟩
  exact (s_one (s_ret (v_zipL c.hK c.calm T.z_list T.z_zip (av_cons (v_fok G_least (c.room.mono (by decide)) c.tk c.hK c.hM (av_cons (v_name 0) (av_cons (v_name 1) av_nil))) (av_cons (v_fok G_greatest (c.room.mono (by decide)) c.tk c.hK c.hM (av_cons (v_name 0) (av_cons (v_name 1) av_nil))) av_nil)))))
theorem sc_sure_vertices : FnScope ["graph", "told", "vertex", "low", "high"] ["graph", "told"] (defScope s_sure_vertices) := ⟨rfl, rfl, rfl, by decide +kernel, rfl, by decide +kernel, by decide +kernel⟩
theorem ok_sure_vertices {P : Program} {w : World} {K : PySem.W.Frag} {mg : Str → Option Value} {base : Heap} (T : Txt K mg) : Fok P w K mg base 9 "sure_vertices" 2 g_sure_vertices := by
  have G_ranges := ok_ranges (P := P) (w := w) (base := base) T
  obtain ⟨fd, F⟩ := T.f_sure_vertices
  refine fokV F sc_sure_vertices T.g_sure_vertices rfl rfl (fun _ _ _ _ _ _ us hl => match us, hl with | [_, _], _ => rfl) fun cdv A outer s H F0 E hr tk po sm => ?_
  have c : Cc (cxOf (L2.CX P w) P w K mg base ["graph", "told", "vertex", "low", "high"] "sure_vertices" (defScope s_sure_vertices) (He.ga K "sure_vertices") cdv A outer s H E) ⟨K, mg, fun cls d _ H' => E cls d H', F0, H⟩ 8 := ⟨rfl, rfl, rfl, sc_sure_vertices.nd, hr, tk⟩
  exact (s_one (s_ret (v_lcc (own := [("vertex", 2), ("low", 3), ("high", 4)]) (vs := [2, 3, 4]) (by decide) c (i_enum c.hK T.z_enumerate (av_cons (v_fok G_ranges (c.room.mono (by decide)) c.tk c.hK c.hM (av_cons (v_name 0) (av_cons (v_name 1) av_nil))) av_nil)) (blkOk_by (N := ["graph", "told", "vertex", "low", "high"]) (sc := defScope s_sure_vertices) (by decide +kernel)) (fun _ _ _ _ _ c' => (g_tup c'.calm (gs_cons (g_name 2 c'.nd) (gs_cons (g_tup c'.calm (gs_cons (g_name 3 c'.nd) (gs_cons (g_name 4 c'.nd) gs_nil))) gs_nil)))) (fun _ _ _ _ _ c' => (qs_one (q_eq c'.hK c'.room (b_name 3) (b_name 4)))) (fun _ _ _ _ _ c' => (v_name 2)))))
theorem sc__law_cell : FnScope ["script", "k"] ["script", "k"] (defScope s__law_cell) := ⟨rfl, rfl, rfl, by decide +kernel, rfl, by decide +kernel, by decide +kernel⟩
theorem ok__law_cell {P : Program} {w : World} {K : PySem.W.Frag} {mg : Str → Option Value} {base : Heap} (T : Txt K mg) : Fok P w K mg base 1 "_law_cell" 2 g__law_cell := by
  obtain ⟨fd, F⟩ := T.f__law_cell
  refine fokV F sc__law_cell T.g__law_cell rfl rfl (fun _ _ _ _ _ _ us hl => match us, hl with | [_, _], _ => rfl) fun cdv A outer s H F0 E hr tk po sm => ?_
  have c : Cc (cxOf (L2.CX P w) P w K mg base ["script", "k"] "_law_cell" (defScope s__law_cell) (He.ga K "_law_cell") cdv A outer s H E) ⟨K, mg, fun cls d _ H' => E cls d H', F0, H⟩ 0 := ⟨rfl, rfl, rfl, sc__law_cell.nd, hr, tk⟩
  exact (s_cons (s_if (q_lt (b_name 1) (b_of (v_len c.hK T.z_len (ab_cons (b_name 0) ab_nil))))
    (s_one (s_ret (v_ix c.hK (b_name 0) (b_name 1))))
    s_nil)
    (s_one (s_ret v_int)))
theorem sc__law_row : FnScope ["script", "at", "cell", "found", "time"] ["script", "at"] (defScope s__law_row) := ⟨rfl, rfl, rfl, by decide +kernel, rfl, by decide +kernel, by decide +kernel⟩
theorem ok__law_row {P : Program} {w : World} {K : PySem.W.Frag} {mg : Str → Option Value} {base : Heap} (T : Txt K mg) : Fok P w K mg base 2 "_law_row" 2 g__law_row := by
  have G__law_cell := ok__law_cell (P := P) (w := w) (base := base) T
  obtain ⟨fd, F⟩ := T.f__law_row
  refine fokV F sc__law_row T.g__law_row rfl rfl (fun _ _ _ _ _ _ us hl => match us, hl with | [_, _], _ => rfl) fun cdv A outer s H F0 E hr tk po sm => ?_
  have c : Cc (cxOf (L2.CX P w) P w K mg base ["script", "at", "cell", "found", "time"] "_law_row" (defScope s__law_row) (He.ga K "_law_row") cdv A outer s H E) ⟨K, mg, fun cls d _ H' => E cls d H', F0, H⟩ 1 := ⟨rfl, rfl, rfl, sc__law_row.nd, hr, tk⟩
  exact (s_cons (s_set 2 (v_fok G__law_cell (c.room.mono (by decide)) c.tk c.hK c.hM (av_cons (v_name 0) (av_cons (v_name 1) av_nil))) c.nd)
    (s_cons (s_setN 3 (n_lst av_nil) c.nd)
    (s_cons (s_for po c.calm (i_range1 T.z_range (av_cons v_int av_nil)) (g_name 4 c.nd)
    (s_one (s_if (q_lt (b_of (v_fok G__law_cell (c.room.mono (by decide)) c.tk c.hK c.hM (av_cons (v_name 0) (av_cons (v_name 1) av_nil)))) (b_of (v_pow (b_of v_int) (b_of v_int))))
    (s_cons (s_set 2 (v_mod (b_of (v_add c.hK (b_of (v_add c.hK (b_of (v_add c.hK (b_of (v_mul (b_name 2) (b_of v_int))) (b_of (v_mul (b_of v_int) (b_name 4))))) (b_of v_int))) (b_of (v_fok G__law_cell (c.room.mono (by decide)) c.tk c.hK c.hM (av_cons (v_name 0) (av_cons (v_mod (b_of (v_add c.hK (b_of (v_add c.hK (b_name 1) (b_of v_int))) (b_name 4))) (b_of v_int)) av_nil)))))) (b_of v_int)) c.nd)
    (s_one (s_app 3 (L2.pv 3) (v_mod (b_of (v_div (b_name 2) (b_of v_int))) (b_of v_int)))))
    (s_cons (s_app 3 (L2.pv 3) (v_mod (b_name 2) (b_of v_int)))
    (s_one (s_set 2 (v_div (b_name 2) (b_of v_int)) c.nd))))))
    (s_one (s_retN 3)))))
theorem sc__law_graph : FnScope ["script", "at", "most", "draws", "vertices", "edges", "sides", "vertex", "other", "time", "one", "edge"] ["script", "at", "most"] (defScope s__law_graph) := ⟨rfl, rfl, rfl, by decide +kernel, rfl, by decide +kernel, by decide +kernel⟩
theorem ok__law_graph {P : Program} {w : World} {K : PySem.W.Frag} {mg : Str → Option Value} {base : Heap} (T : Txt K mg) : Fok P w K mg base 3 "_law_graph" 3 g__law_graph := by
  have G__law_row := ok__law_row (P := P) (w := w) (base := base) T
  obtain ⟨fd, F⟩ := T.f__law_graph
  refine fokV F sc__law_graph T.g__law_graph rfl rfl (fun _ _ _ _ _ _ us hl => match us, hl with | [_, _, _], _ => rfl) fun cdv A outer s H F0 E hr tk po sm => ?_
  have c : Cc (cxOf (L2.CX P w) P w K mg base ["script", "at", "most", "draws", "vertices", "edges", "sides", "vertex", "other", "time", "one", "edge"] "_law_graph" (defScope s__law_graph) (He.ga K "_law_graph") cdv A outer s H E) ⟨K, mg, fun cls d _ H' => E cls d H', F0, H⟩ 2 := ⟨rfl, rfl, rfl, sc__law_graph.nd, hr, tk⟩
  exact (s_cons (s_set 3 (v_fok G__law_row (c.room.mono (by decide)) c.tk c.hK c.hM (av_cons (v_name 0) (av_cons (v_name 1) av_nil))) c.nd)
    (s_cons (s_set 4 (v_add c.hK (b_of v_int) (b_of (v_mod (b_of (v_ix c.hK (b_name 3) (b_of v_int))) (b_name 2)))) c.nd)
    (s_cons (s_setN 5 (n_lst av_nil) c.nd)
    (s_cons (s_setN 6 (n_rep (b_of (v_ofN (n_lst (av_cons v_int av_nil)))) (b_name 4)) c.nd)
    (s_cons (s_for po c.calm (i_range2 T.z_range (av_cons v_int (av_cons (v_name 4) av_nil))) (g_name 7 c.nd)
    (s_cons (s_set 8 (v_mod (b_of (v_ix c.hK (b_name 3) (b_name 7))) (b_name 7)) c.nd)
    (s_cons (s_put 6 (L2.pv 6) (v_name 7) (v_sub (b_of v_int) (b_of (v_ix c.hK (b_name 6) (b_name 8)))))
    (s_one (s_app 5 (L2.pv 5) (v_tup (av_cons (v_name 8) (av_cons (v_name 7) av_nil))))))))
    (s_cons (s_for po c.calm (i_range1 T.z_range (av_cons (v_mod (b_of (v_ix c.hK (b_name 3) (b_of v_int))) (b_of v_int)) av_nil)) (g_name 9 c.nd)
    (s_cons (s_set 10 (v_mod (b_of (v_ix c.hK (b_name 3) (b_of (v_add c.hK (b_of v_int) (b_of (v_mul (b_of v_int) (b_name 9))))))) (b_name 4)) c.nd)
    (s_cons (s_set 8 (v_mod (b_of (v_ix c.hK (b_name 3) (b_of (v_add c.hK (b_of v_int) (b_of (v_mul (b_of v_int) (b_name 9))))))) (b_name 4)) c.nd)
    (s_cons (s_set 11 (v_tup (av_cons (v_min2 c.calm T.z_min (ab_cons (b_name 10) (ab_cons (b_name 8) ab_nil))) (av_cons (v_max2 c.calm T.z_max (ab_cons (b_name 10) (ab_cons (b_name 8) ab_nil))) av_nil))) c.nd)
    (s_one (s_if (q_w (qw_and (q_ne c.hK c.room (b_name 10) (b_name 8)) (qw_and (q_notIn c.hK c.room (b_name 11) (b_name 5)) (qw_and1 (q_w (qw_or (q_ne c.hK c.room (b_of (v_ix c.hK (b_name 6) (b_name 10))) (b_of (v_ix c.hK (b_name 6) (b_name 8)))) (qw_or1 (q_eq c.hK c.room (b_of (v_mod (b_of (v_ix c.hK (b_name 3) (b_of v_int))) (b_of v_int))) (b_of v_int)))))))))
    (s_one (s_app 5 (L2.pv 5) (v_name 11)))
    s_nil))))))
    (s_one (s_ret (v_tup (av_cons (v_name 4) (av_cons (v_tuple c.hK T.z_tuple (ab_cons (b_of (v_sorted c.hK c.room T.z_sorted (ab_cons (b_name 5) ab_nil))) ab_nil)) av_nil)))))))))))
theorem sc__law_far : FnScope ["graph", "start", "found", "time", "one", "other"] ["graph", "start"] (defScope s__law_far) := ⟨rfl, rfl, rfl, by decide +kernel, rfl, by decide +kernel, by decide +kernel⟩
theorem ok__law_far {P : Program} {w : World} {K : PySem.W.Frag} {mg : Str → Option Value} {base : Heap} (T : Txt K mg) : Fok P w K mg base 1 "_law_far" 2 g__law_far := by
  obtain ⟨fd, F⟩ := T.f__law_far
  refine fokV F sc__law_far T.g__law_far rfl rfl (fun _ _ _ _ _ _ us hl => match us, hl with | [_, _], _ => rfl) fun cdv A outer s H F0 E hr tk po sm => ?_
  have c : Cc (cxOf (L2.CX P w) P w K mg base ["graph", "start", "found", "time", "one", "other"] "_law_far" (defScope s__law_far) (He.ga K "_law_far") cdv A outer s H E) ⟨K, mg, fun cls d _ H' => E cls d H', F0, H⟩ 0 := ⟨rfl, rfl, rfl, sc__law_far.nd, hr, tk⟩
  exact (s_cons (s_setN 2 (n_rep (b_of (v_ofN (n_lst (av_cons v_int av_nil)))) (b_of (v_ix c.hK (b_name 0) (b_of v_int)))) c.nd)
    (s_cons (s_put 2 (L2.pv 2) (v_name 1) v_int)
    (s_cons (s_for po c.calm (i_range1 T.z_range (av_cons (v_ix c.hK (b_name 0) (b_of v_int)) av_nil)) (g_name 3 c.nd)
    (s_one (s_for po c.calm (i_seq c.hK (v_ix c.hK (b_name 0) (b_of v_int))) (g_tup c.calm (gs_cons (g_name 4 c.nd) (gs_cons (g_name 5 c.nd) gs_nil)))
    (s_cons (s_put 2 (L2.pv 2) (v_name 4) (v_min2 c.calm T.z_min (ab_cons (b_of (v_ix c.hK (b_name 2) (b_name 4))) (ab_cons (b_of (v_add c.hK (b_of (v_ix c.hK (b_name 2) (b_name 5))) (b_of v_int))) ab_nil))))
    (s_one (s_put 2 (L2.pv 2) (v_name 5) (v_min2 c.calm T.z_min (ab_cons (b_of (v_ix c.hK (b_name 2) (b_name 5))) (ab_cons (b_of (v_add c.hK (b_of (v_ix c.hK (b_name 2) (b_name 4))) (b_of v_int))) ab_nil)))))))))
    (s_one (s_retN 2)))))
theorem sc__law_told : FnScope ["script", "at", "graph", "draws", "far", "found", "base", "time", "vertex", "gap", "odd"] ["script", "at", "graph"] (defScope s__law_told) := ⟨rfl, rfl, rfl, by decide +kernel, rfl, by decide +kernel, by decide +kernel⟩
theorem ok__law_told {P : Program} {w : World} {K : PySem.W.Frag} {mg : Str → Option Value} {base : Heap} (T : Txt K mg) : Fok P w K mg base 3 "_law_told" 3 g__law_told := by
  have G__law_far := ok__law_far (P := P) (w := w) (base := base) T
  have G__law_row := ok__law_row (P := P) (w := w) (base := base) T
  obtain ⟨fd, F⟩ := T.f__law_told
  refine fokV F sc__law_told T.g__law_told rfl rfl (fun _ _ _ _ _ _ us hl => match us, hl with | [_, _, _], _ => rfl) fun cdv A outer s H F0 E hr tk po sm => ?_
  have c : Cc (cxOf (L2.CX P w) P w K mg base ["script", "at", "graph", "draws", "far", "found", "base", "time", "vertex", "gap", "odd"] "_law_told" (defScope s__law_told) (He.ga K "_law_told") cdv A outer s H E) ⟨K, mg, fun cls d _ H' => E cls d H', F0, H⟩ 2 := ⟨rfl, rfl, rfl, sc__law_told.nd, hr, tk⟩
  exact (s_cons (s_set 3 (v_fok G__law_row (c.room.mono (by decide)) c.tk c.hK c.hM (av_cons (v_name 0) (av_cons (v_name 1) av_nil))) c.nd)
    (s_cons (s_set 4 (v_fok G__law_far (c.room.mono (by decide)) c.tk c.hK c.hM (av_cons (v_name 2) (av_cons v_int av_nil))) c.nd)
    (s_cons (s_setN 5 (n_rep (b_of (v_ofN (n_lst (av_cons v_non av_nil)))) (b_of (v_ix c.hK (b_name 2) (b_of v_int)))) c.nd)
    (s_cons (s_set 6 (v_sub (b_of (v_mod (b_of (v_ix c.hK (b_name 3) (b_of v_int))) (b_of v_int))) (b_of v_int)) c.nd)
    (s_cons (s_for po c.calm (i_range1 T.z_range (av_cons (v_add c.hK (b_of v_int) (b_of (v_mod (b_of (v_ix c.hK (b_name 3) (b_of v_int))) (b_of v_int)))) av_nil)) (g_name 7 c.nd)
    (s_cons (s_set 8 (v_mod (b_of (v_ix c.hK (b_name 3) (b_of (v_add c.hK (b_of v_int) (b_name 7))))) (b_of (v_ix c.hK (b_name 2) (b_of v_int)))) c.nd)
    (s_cons (s_set 9 (v_mod (b_of (v_ix c.hK (b_name 3) (b_of (v_add c.hK (b_of v_int) (b_name 7))))) (b_of (v_add c.hK (b_of (v_ix c.hK (b_name 4) (b_name 8))) (b_of v_int)))) c.nd)
    (s_cons (s_set 10 (v_intc T.z_int (ab_cons (b_of (v_eq c.hK c.room (b_of (v_mod (b_of (v_ix c.hK (b_name 3) (b_of (v_add c.hK (b_of v_int) (b_name 7))))) (b_of v_int))) (b_of v_int))) ab_nil)) c.nd)
    (s_one (s_put 5 (L2.pv 5) (v_name 8) (v_add c.hK (b_of (v_sub (b_of (v_add c.hK (b_name 6) (b_of (v_ix c.hK (b_name 4) (b_name 8))))) (b_of (v_mul (b_of v_int) (b_name 9))))) (b_name 10))))))))
    (s_one (s_ret (v_tuple c.hK T.z_tuple (ab_cons (b_name 5) ab_nil)))))))))
theorem sc__law_beside : FnScope ["graph", "vertex", "edge"] ["graph", "vertex"] (defScope s__law_beside) := ⟨rfl, rfl, rfl, by decide +kernel, rfl, by decide +kernel, by decide +kernel⟩
theorem ok__law_beside {P : Program} {w : World} {K : PySem.W.Frag} {mg : Str → Option Value} {base : Heap} (T : Txt K mg) : Fok P w K mg base 1 "_law_beside" 2 g__law_beside := by
  obtain ⟨fd, F⟩ := T.f__law_beside
  refine fokV F sc__law_beside T.g__law_beside rfl rfl (fun _ _ _ _ _ _ us hl => match us, hl with | [_, _], _ => rfl) fun cdv A outer s H F0 E hr tk po sm => ?_
  have c : Cc (cxOf (L2.CX P w) P w K mg base ["graph", "vertex", "edge"] "_law_beside" (defScope s__law_beside) (He.ga K "_law_beside") cdv A outer s H E) ⟨K, mg, fun cls d _ H' => E cls d H', F0, H⟩ 0 := ⟨rfl, rfl, rfl, sc__law_beside.nd, hr, tk⟩
  exact (s_one (s_ret (v_lcc (own := [("edge", 2)]) (vs := [2]) (by decide) c (i_seq c.hK (v_ix c.hK (b_name 0) (b_of v_int))) (blkOk_by (N := ["graph", "vertex", "edge"]) (sc := defScope s__law_beside) (by decide +kernel)) (fun _ _ _ _ _ c' => (g_name 2 c'.nd)) (fun _ _ _ _ _ c' => (qs_one (q_in c'.hK c'.room (b_name 1) (b_name 2)))) (fun _ _ _ _ _ c' => (v_sub (b_of (v_add c'.hK (b_of (v_ix c'.hK (b_name 2) (b_of v_int))) (b_of (v_ix c'.hK (b_name 2) (b_of v_int))))) (b_name 1))))))
theorem sc__law_with : FnScope ["table", "key", "value", "found", "one"] ["table", "key", "value"] (defScope s__law_with) := ⟨rfl, rfl, rfl, by decide +kernel, rfl, by decide +kernel, by decide +kernel⟩
theorem ok__law_with {P : Program} {w : World} {K : PySem.W.Frag} {mg : Str → Option Value} {base : Heap} (T : Txt K mg) : Fok P w K mg base 1 "_law_with" 3 g__law_with := by
  obtain ⟨fd, F⟩ := T.f__law_with
  refine fokV F sc__law_with T.g__law_with rfl rfl (fun _ _ _ _ _ _ us hl => match us, hl with | [_, _, _], _ => rfl) fun cdv A outer s H F0 E hr tk po sm => ?_
  have c : Cc (cxOf (L2.CX P w) P w K mg base ["table", "key", "value", "found", "one"] "_law_with" (defScope s__law_with) (He.ga K "_law_with") cdv A outer s H E) ⟨K, mg, fun cls d _ H' => E cls d H', F0, H⟩ 0 := ⟨rfl, rfl, rfl, sc__law_with.nd, hr, tk⟩
  exact (s_cons (s_newD 3 c.nd)
    (s_cons (s_copyD 3 0 4 (by decide) (by decide) (by decide) c.room po c.calm c.nd (L2.pv 0) (L2.pv 3) (L2.pv 4) (L2.pv 0) (L2.pv 4))
    (s_cons (s_dput 3 c.room (L2.pv 3) (v_name 1) (v_name 2))
    (s_one (s_retD 3)))))
theorem sc__law_all : FnScope ["graph", "told", "first", "found", "order", "time", "vertex", "one", "other", "longer", "known", "height", "fits"] ["graph", "told"] (defScope s__law_all) := ⟨rfl, rfl, rfl, by decide +kernel, rfl, by decide +kernel, by decide +kernel⟩
theorem ok__law_all {P : Program} {w : World} {K : PySem.W.Frag} {mg : Str → Option Value} {base : Heap} (T : Txt K mg) : Fok P w K mg base 2 "_law_all" 2 g__law_all := by
  have G__law_with := ok__law_with (P := P) (w := w) (base := base) T
  have G__law_beside := ok__law_beside (P := P) (w := w) (base := base) T
  obtain ⟨fd, F⟩ := T.f__law_all
  refine fokV F sc__law_all T.g__law_all rfl rfl (fun _ _ _ _ _ _ us hl => match us, hl with | [_, _], _ => rfl) fun cdv A outer s H F0 E hr tk po sm => ?_
  have c : Cc (cxOf (L2.CX P w) P w K mg base ["graph", "told", "first", "found", "order", "time", "vertex", "one", "other", "longer", "known", "height", "fits"] "_law_all" (defScope s__law_all) (He.ga K "_law_all") cdv A outer s H E) ⟨K, mg, fun cls d _ H' => E cls d H', F0, H⟩ 1 := ⟨rfl, rfl, rfl, sc__law_all.nd, hr, tk⟩
  exact (s_cons (s_set 2 (v_ix c.hK (b_of (v_lcc (own := [("vertex", 6)]) (vs := [6]) (by decide) c (i_range1 T.z_range (av_cons (v_ix c.hK (b_name 0) (b_of v_int)) av_nil)) (blkOk_by (N := ["graph", "told", "first", "found", "order", "time", "vertex", "one", "other", "longer", "known", "height", "fits"]) (sc := defScope s__law_all) (by decide +kernel)) (fun _ _ _ _ _ c' => (g_name 6 c'.nd)) (fun _ _ _ _ _ c' => (qs_one (q_notN (b_of (v_ix c'.hK (b_name 1) (b_name 6)))))) (fun _ _ _ _ _ c' => (v_name 6)))) (b_of v_int)) c.nd)
    (s_cons (s_set 3 (v_ofN (n_lst (av_cons (v_disp (v_name 2) (v_ix c.hK (b_name 1) (b_name 2))) av_nil))) c.nd)
    (s_cons (s_setN 4 (n_lst (av_cons (v_name 2) av_nil)) c.nd)
    (s_cons (s_for po c.calm (i_range1 T.z_range (av_cons (v_sub (b_of (v_ix c.hK (b_name 0) (b_of v_int))) (b_of v_int)) av_nil)) (g_name 5 c.nd)
    (s_cons (s_set 6 v_non c.nd)
    (s_cons (s_for po c.calm (i_seq c.hK (v_ix c.hK (b_name 0) (b_of v_int))) (g_tup c.calm (gs_cons (g_name 7 c.nd) (gs_cons (g_name 8 c.nd) gs_nil)))
    (s_one (s_if (q_ne c.hK c.room (b_of (v_in c.hK c.room (b_name 7) (b_name 4))) (b_of (v_in c.hK c.room (b_name 8) (b_name 4))))
    (s_one (s_set 6 (v_if (q_in c.hK c.room (b_name 7) (b_name 4)) (v_name 8) (v_name 7)) c.nd))
    s_nil)))
    (s_cons (s_app 4 (L2.pv 4) (v_name 6))
    (s_cons (s_setN 9 (n_lst av_nil) c.nd)
    (s_cons (s_for po c.calm (i_seq c.hK (v_name 3)) (g_name 7 c.nd)
    (s_cons (s_setLcc 10 (own := [("other", 8)]) (vs := [8]) (by decide) c (i_seq c.hK (v_fok G__law_beside (c.room.mono (by decide)) c.tk c.hK c.hM (av_cons (v_name 0) (av_cons (v_name 6) av_nil)))) (blkOk_by (N := ["graph", "told", "first", "found", "order", "time", "vertex", "one", "other", "longer", "known", "height", "fits"]) (sc := defScope s__law_all) (by decide +kernel)) (fun _ _ _ _ _ c' => (g_name 8 c'.nd)) (fun _ _ _ _ _ c' => (qs_one (q_in c'.hK c'.room (b_name 8) (b_name 7)))) (fun _ _ _ _ _ c' => (v_dget c'.room (b_name 7) (b_name 8))) (sw_true rfl rfl rfl (by decide +kernel)))
    (s_one (s_for po c.calm (i_seq c.hK (v_tup (av_cons (v_sub (b_of (v_ix c.hK (b_name 10) (b_of v_int))) (b_of v_int)) (av_cons (v_add c.hK (b_of (v_ix c.hK (b_name 10) (b_of v_int))) (b_of v_int)) av_nil)))) (g_name 11 c.nd)
    (s_cons (s_set 12 (v_eq c.hK c.room (b_of (v_lcc (own := [("other", 8)]) (vs := [8]) (by decide) c (i_seq c.hK (v_name 10)) (blkOk_by (N := ["graph", "told", "first", "found", "order", "time", "vertex", "one", "other", "longer", "known", "height", "fits"]) (sc := defScope s__law_all) (by decide +kernel)) (fun _ _ _ _ _ c' => (g_name 8 c'.nd)) (fun _ _ _ _ _ c' => (qs_one (q_ne c'.hK c'.room (b_of (v_abs T.z_abs (ab_cons (b_of (v_sub (b_name 8) (b_name 11))) ab_nil))) (b_of v_int)))) (fun _ _ _ _ _ c' => (v_name 8)))) (b_of (v_ofN (n_lst av_nil)))) c.nd)
    (s_one (s_if (q_w (qw_and (q_tru c.hK (b_name 12)) (qw_and1 (q_in c.hK c.room (b_of (v_ix c.hK (b_name 1) (b_name 6))) (b_of (v_tup (av_cons v_non (av_cons (v_name 11) av_nil))))))))
    (s_one (s_app 9 (L2.pv 9) (v_fok G__law_with (c.room.mono (by decide)) c.tk c.hK c.hM (av_cons (v_name 7) (av_cons (v_name 6) (av_cons (v_name 11) av_nil))))))
    s_nil)))))))
    (s_one (s_move 3 9 c.nd))))))))
    (s_one (s_ret (v_sorted c.hK c.room T.z_sorted (ab_cons (b_of (v_lcc (own := [("one", 7)]) (vs := [7]) (by decide) c (i_seq c.hK (v_name 3)) (blkOk_by (N := ["graph", "told", "first", "found", "order", "time", "vertex", "one", "other", "longer", "known", "height", "fits"]) (sc := defScope s__law_all) (by decide +kernel)) (fun _ _ _ _ _ c' => (g_name 7 c'.nd)) (fun _ _ _ _ _ c' => qs_nil) (fun _ _ _ _ _ c' => (v_tuple c'.hK T.z_tuple (ab_cons (b_of (v_lcc (own := [("vertex", 6)]) (vs := [6]) (by decide) c' (i_range1 T.z_range (av_cons (v_ix c'.hK (b_name 0) (b_of v_int)) av_nil)) (blkOk_by (by kernel_rfl)) (fun _ _ _ _ _ c'' => (g_name 6 c''.nd)) (fun _ _ _ _ _ c'' => qs_nil) (fun _ _ _ _ _ c'' => (v_dget c''.room (b_name 7) (b_name 6))))) ab_nil))))) ab_nil))))))))
theorem sc__law_extreme : FnScope ["mode", "graph", "told", "e"] ["mode", "graph", "told"] (defScope s__law_extreme) := ⟨rfl, rfl, rfl, by decide +kernel, rfl, by decide +kernel, by decide +kernel⟩
theorem ok__law_extreme {P : Program} {w : World} {K : PySem.W.Frag} {mg : Str → Option Value} {base : Heap} (T : Txt K mg) : Fok P w K mg base 9 "_law_extreme" 3 g__law_extreme := by
  have G_greatest := ok_greatest (P := P) (w := w) (base := base) T
  have G_ranges := ok_ranges (P := P) (w := w) (base := base) T
  have G_least := ok_least (P := P) (w := w) (base := base) T
  obtain ⟨fd, F⟩ := T.f__law_extreme
  refine fokV F sc__law_extreme T.g__law_extreme rfl rfl (fun _ _ _ _ _ _ us hl => match us, hl with | [_, _, _], _ => rfl) fun cdv A outer s H F0 E hr tk po sm => ?_
  have c : Cc (cxOf (L2.CX P w) P w K mg base ["mode", "graph", "told", "e"] "_law_extreme" (defScope s__law_extreme) (He.ga K "_law_extreme") cdv A outer s H E) ⟨K, mg, fun cls d _ H' => E cls d H', F0, H⟩ 8 := ⟨rfl, rfl, rfl, sc__law_extreme.nd, hr, tk⟩
  exact (s_one (s_try (i := 3) c T.ex sm rfl rfl (fun W pn xe c po =>
    (s_cons (s_if (q_eq c.hK c.room (b_name 0) (b_of v_int))
    (s_one (s_ret (v_fok G_least (c.room.mono (by decide)) c.tk c.hK c.hM (av_cons (v_name 1) (av_cons (v_name 2) av_nil)))))
    s_nil)
    (s_one (s_ret (v_if (q_eq c.hK c.room (b_name 0) (b_of v_int)) (v_fok G_greatest (c.room.mono (by decide)) c.tk c.hK c.hM (av_cons (v_name 1) (av_cons (v_name 2) av_nil))) (v_fok G_ranges (c.room.mono (by decide)) c.tk c.hK c.hM (av_cons (v_name 1) (av_cons (v_name 2) av_nil))))))))
    (.cons (by decide) rfl (by decide) (su_ret T.ex T.z_isinstance (by decide) (by decide) (fun a oe pn p => L2.pv 3)) .nil)))
theorem sc_law : FnScope ["script", "graph", "told", "every", "found", "sure", "vertex", "here", "mode", "one"] ["script"] (defScope s_law) := ⟨rfl, rfl, rfl, by decide +kernel, rfl, by decide +kernel, by decide +kernel⟩
theorem ok_law {P : Program} {w : World} {K : PySem.W.Frag} {mg : Str → Option Value} {base : Heap} (T : Txt K mg) {fd : FuncData} (F : FunD K "law" "law" (defArgs s_law) (defBody s_law) (defScope s_law) [] [] (He.ga K "law") fd) : FnOk P w K mg base (L2.CX P w) 10 (He.ga K "law") fd ["script"] (spV K mg 1 g_law) := by
  have G_sure_vertices := ok_sure_vertices (P := P) (w := w) (base := base) T
  have G__law_extreme := ok__law_extreme (P := P) (w := w) (base := base) T
  have G__law_all := ok__law_all (P := P) (w := w) (base := base) T
  have G__law_told := ok__law_told (P := P) (w := w) (base := base) T
  have G__law_graph := ok__law_graph (P := P) (w := w) (base := base) T
  refine fnV F sc_law fun cdv A outer s H F0 E hr tk po sm => ?_
  have c : Cc (cxOf (L2.CX P w) P w K mg base ["script", "graph", "told", "every", "found", "sure", "vertex", "here", "mode", "one"] "law" (defScope s_law) (He.ga K "law") cdv A outer s H E) ⟨K, mg, fun cls d _ H' => E cls d H', F0, H⟩ 9 := ⟨rfl, rfl, rfl, sc_law.nd, hr, tk⟩
  exact (s_cons (s_set 1 (v_fok G__law_graph (c.room.mono (by decide)) c.tk c.hK c.hM (av_cons (v_name 0) (av_cons v_int (av_cons v_int av_nil)))) c.nd)
    (s_cons (s_set 2 (v_fok G__law_told (c.room.mono (by decide)) c.tk c.hK c.hM (av_cons (v_name 0) (av_cons v_int (av_cons (v_name 1) av_nil)))) c.nd)
    (s_cons (s_set 3 (v_fok G__law_all (c.room.mono (by decide)) c.tk c.hK c.hM (av_cons (v_name 1) (av_cons (v_name 2) av_nil))) c.nd)
    (s_cons (s_setLcc 4 (own := [("mode", 8)]) (vs := [8]) (by decide) c (i_range1 T.z_range (av_cons v_int av_nil)) (blkOk_by (N := ["script", "graph", "told", "every", "found", "sure", "vertex", "here", "mode", "one"]) (sc := defScope s_law) (by decide +kernel)) (fun _ _ _ _ _ c' => (g_name 8 c'.nd)) (fun _ _ _ _ _ c' => qs_nil) (fun _ _ _ _ _ c' => (v_fok G__law_extreme (c'.room.mono (by decide)) c'.tk c'.hK c'.hM (av_cons (v_name 8) (av_cons (v_name 1) (av_cons (v_name 2) av_nil))))) (sw_true rfl rfl rfl (by decide +kernel)))
    (s_cons (s_if (q_eq c.hK c.room (b_name 3) (b_of (v_ofN (n_lst av_nil))))
    (s_one (s_ret (v_eq c.hK c.room (b_name 4) (b_of (v_mul (b_of (v_ofN (n_lst (av_cons v_str av_nil)))) (b_of v_int))))))
    s_nil)
    (s_cons (s_set 5 (v_ofN (n_lst av_nil)) c.nd)
    (s_cons (s_for po c.calm (i_range1 T.z_range (av_cons (v_ix c.hK (b_name 1) (b_of v_int)) av_nil)) (g_name 6 c.nd)
    (s_cons (s_set 7 (v_sortSet c.hK c.calm T.z_sorted T.z_set (b_of (v_lcc (own := [("one", 9)]) (vs := [9]) (by decide) c (i_seq c.hK (v_name 3)) (blkOk_by (N := ["script", "graph", "told", "every", "found", "sure", "vertex", "here", "mode", "one"]) (sc := defScope s_law) (by decide +kernel)) (fun _ _ _ _ _ c' => (g_name 9 c'.nd)) (fun _ _ _ _ _ c' => qs_nil) (fun _ _ _ _ _ c' => (v_ix c'.hK (b_name 9) (b_name 6)))))) c.nd)
    (s_cons (s_if (q_w (qw_or (q_ne c.hK c.room (b_of (v_tup (av_cons (v_ix c.hK (b_of (v_ix c.hK (b_name 4) (b_of v_int))) (b_name 6)) (av_cons (v_ix c.hK (b_of (v_ix c.hK (b_name 4) (b_of v_int))) (b_name 6)) av_nil)))) (b_of (v_tup (av_cons (v_ix c.hK (b_name 7) (b_of v_int)) (av_cons (v_ix c.hK (b_name 7) (b_of (v_neg (b_of v_int)))) av_nil))))) (qw_or1 (q_ne c.hK c.room (b_name 7) (b_of (v_rangeL c.calm T.z_list T.z_range (av_cons (v_ix c.hK (b_name 7) (b_of v_int)) (av_cons (v_add c.hK (b_of (v_ix c.hK (b_name 7) (b_of (v_neg (b_of v_int))))) (b_of v_int)) (av_cons v_int av_nil)))))))))
    (s_one (s_ret v_bl))
    s_nil)
    (s_one (s_set 5 (v_add c.hK (b_name 5) (b_of (v_mul (b_of (v_ofN (n_lst (av_cons (v_name 6) av_nil)))) (b_of (v_intc T.z_int (ab_cons (b_of (v_eq c.hK c.room (b_of (v_len c.hK T.z_len (ab_cons (b_name 7) ab_nil))) (b_of v_int))) ab_nil)))))) c.nd)))))
    (s_cons (s_if (q_w (qw_or (q_notIn c.hK c.room (b_of (v_ix c.hK (b_name 4) (b_of v_int))) (b_name 3)) (qw_or (q_notIn c.hK c.room (b_of (v_ix c.hK (b_name 4) (b_of v_int))) (b_name 3)) (qw_or1 (q_ne c.hK c.room (b_of (v_ix c.hK (b_name 4) (b_of v_int))) (b_of (v_zipL c.hK c.calm T.z_list T.z_zip (av_cons (v_ix c.hK (b_name 4) (b_of v_int)) (av_cons (v_ix c.hK (b_name 4) (b_of v_int)) av_nil)))))))))
    (s_one (s_ret v_bl))
    s_nil)
    (s_one (s_ret (v_eq c.hK c.room (b_of (v_fok G_sure_vertices (c.room.mono (by decide)) c.tk c.hK c.hM (av_cons (v_name 1) (av_cons (v_name 2) av_nil)))) (b_name 5))))))))))))
set_option maxHeartbeats 0
def d_in_range : He.DefD := ⟨("in_range", none), "in_range", "in_range", defArgs s_in_range, defBody s_in_range, defScope s_in_range, [], []⟩
def d_is_edge : He.DefD := ⟨("is_edge", none), "is_edge", "is_edge", defArgs s_is_edge, defBody s_is_edge, defScope s_is_edge, [], []⟩
def d_distances : He.DefD := ⟨("distances", none), "distances", "distances", defArgs s_distances, defBody s_distances, defScope s_distances, [], []⟩
def d_is_graph : He.DefD := ⟨("is_graph", none), "is_graph", "is_graph", defArgs s_is_graph, defBody s_is_graph, defScope s_is_graph, [], []⟩
def d_check_graph : He.DefD := ⟨("check_graph", none), "check_graph", "check_graph", defArgs s_check_graph, defBody s_check_graph, defScope s_check_graph, [], []⟩
def d_are_told : He.DefD := ⟨("are_told", none), "are_told", "are_told", defArgs s_are_told, defBody s_are_told, defScope s_are_told, [], []⟩
def d_check_told : He.DefD := ⟨("check_told", none), "check_told", "check_told", defArgs s_check_told, defBody s_check_told, defScope s_check_told, [], []⟩
def d_neighbors : He.DefD := ⟨("neighbors", none), "neighbors", "neighbors", defArgs s_neighbors, defBody s_neighbors, defScope s_neighbors, [], []⟩
def d_walk_between : He.DefD := ⟨("walk_between", none), "walk_between", "walk_between", defArgs s_walk_between, defBody s_walk_between, defScope s_walk_between, [], []⟩
def d_odd_walk : He.DefD := ⟨("odd_walk", none), "odd_walk", "odd_walk", defArgs s_odd_walk, defBody s_odd_walk, defScope s_odd_walk, [], []⟩
def d_found_paper : He.DefD := ⟨("found_paper", none), "found_paper", "found_paper", defArgs s_found_paper, defBody s_found_paper, defScope s_found_paper, [], []⟩
def d_bound : He.DefD := ⟨("bound", none), "bound", "bound", defArgs s_bound, defBody s_bound, defScope s_bound, [], []⟩
def d_extreme : He.DefD := ⟨("extreme", none), "extreme", "extreme", defArgs s_extreme, defBody s_extreme, defScope s_extreme, [], []⟩
def d_greatest : He.DefD := ⟨("greatest", none), "greatest", "greatest", defArgs s_greatest, defBody s_greatest, defScope s_greatest, [], []⟩
def d_least : He.DefD := ⟨("least", none), "least", "least", defArgs s_least, defBody s_least, defScope s_least, [], []⟩
def d_ranges : He.DefD := ⟨("ranges", none), "ranges", "ranges", defArgs s_ranges, defBody s_ranges, defScope s_ranges, [], []⟩
def d_sure_vertices : He.DefD := ⟨("sure_vertices", none), "sure_vertices", "sure_vertices", defArgs s_sure_vertices, defBody s_sure_vertices, defScope s_sure_vertices, [], []⟩
def d__law_cell : He.DefD := ⟨("_law_cell", none), "_law_cell", "_law_cell", defArgs s__law_cell, defBody s__law_cell, defScope s__law_cell, [], []⟩
def d__law_row : He.DefD := ⟨("_law_row", none), "_law_row", "_law_row", defArgs s__law_row, defBody s__law_row, defScope s__law_row, [], []⟩
def d__law_graph : He.DefD := ⟨("_law_graph", none), "_law_graph", "_law_graph", defArgs s__law_graph, defBody s__law_graph, defScope s__law_graph, [], []⟩
def d__law_far : He.DefD := ⟨("_law_far", none), "_law_far", "_law_far", defArgs s__law_far, defBody s__law_far, defScope s__law_far, [], []⟩
def d__law_told : He.DefD := ⟨("_law_told", none), "_law_told", "_law_told", defArgs s__law_told, defBody s__law_told, defScope s__law_told, [], []⟩
def d__law_beside : He.DefD := ⟨("_law_beside", none), "_law_beside", "_law_beside", defArgs s__law_beside, defBody s__law_beside, defScope s__law_beside, [], []⟩
def d__law_all : He.DefD := ⟨("_law_all", none), "_law_all", "_law_all", defArgs s__law_all, defBody s__law_all, defScope s__law_all, [], []⟩
def d__law_with : He.DefD := ⟨("_law_with", none), "_law_with", "_law_with", defArgs s__law_with, defBody s__law_with, defScope s__law_with, [], []⟩
def d__law_extreme : He.DefD := ⟨("_law_extreme", none), "_law_extreme", "_law_extreme", defArgs s__law_extreme, defBody s__law_extreme, defScope s__law_extreme, [], []⟩
def d_law : He.DefD := ⟨("law", none), "law", "law", defArgs s_law, defBody s_law, defScope s_law, [], []⟩
def zzfn0 : List He.DefD := [d_in_range, d_is_edge, d_distances, d_is_graph, d_check_graph, d_are_told, d_check_told, d_neighbors, d_walk_between, d_odd_walk, d_found_paper, d_bound]
def zzfn1 : List He.DefD := [d_extreme, d_greatest, d_least, d_ranges, d_sure_vertices, d__law_cell, d__law_row, d__law_graph, d__law_far, d__law_told, d__law_beside, d__law_all]
def zzfn2 : List He.DefD := [d__law_with, d__law_extreme, d_law]
def zzfn : List He.DefD := zzfn0 ++ zzfn1 ++ zzfn2
def zzfa0 : List He.Fa := [.free "abs", .free "bool", .free "enumerate", .free "int", .free "isinstance", .free "len", .free "list", .free "max", .free "min", .free "range", .free "set", .free "sorted"]
def zzfa1 : List He.Fa := [.free "sum", .free "tuple", .free "zip", .int "MAX_EDGES" 14, .int "MAX_TOLD" 20, .int "MAX_VERTICES" 8, .glo "HeightError", .exc "HeightError", .glo "HeightsExist", .exc "HeightsExist", .glo "InvalidGraph", .exc "InvalidGraph"]
def zzfa2 : List He.Fa := [.glo "InvalidTold", .exc "InvalidTold", .glo "NoHeights", .exc "NoHeights", .glo "in_range", .glo "is_edge", .glo "distances", .glo "is_graph", .glo "check_graph", .glo "are_told", .glo "check_told", .glo "neighbors"]
def zzfa3 : List He.Fa := [.glo "walk_between", .glo "odd_walk", .glo "found_paper", .glo "bound", .glo "extreme", .glo "greatest", .glo "least", .glo "ranges", .glo "sure_vertices", .glo "_law_cell", .glo "_law_row", .glo "_law_graph"]
def zzfa4 : List He.Fa := [.glo "_law_far", .glo "_law_told", .glo "_law_beside", .glo "_law_all", .glo "_law_with", .glo "_law_extreme", .glo "law"]
def zzfa : List He.Fa := zzfa0 ++ zzfa1 ++ zzfa2 ++ zzfa3 ++ zzfa4
def zznm0 : List Str := ["HeightError", "InvalidGraph", "InvalidTold", "NoHeights", "HeightsExist", "MAX_VERTICES", "MAX_EDGES", "MAX_TOLD", "in_range", "is_edge", "distances", "is_graph"]
def zznm1 : List Str := ["check_graph", "are_told", "check_told", "neighbors", "walk_between", "odd_walk", "found_paper", "bound", "extreme", "greatest", "least", "ranges"]
def zznm2 : List Str := ["sure_vertices", "_law_cell", "_law_row", "_law_graph", "_law_far", "_law_told", "_law_beside", "_law_all", "_law_with", "_law_extreme"]
def zznm : List Str := zznm0 ++ zznm1 ++ zznm2
abbrev zzex : PySem.W.Frag → Bool := fun K => exAll K exN exN
abbrev zzR : PySem.W.OpenRow := PySem.W.OpenLaw.row PySem.Challenge.rw_stepheights_k05_whole_extremes
abbrev zzk : PySem.W.Hook := hookE 4 zzfa zzfn zzex
def zzob (s : PySem.W.SharedT) : AlE := obsE 4 zzfa zzfn zzex (HandSHeadRun.getT s)
theorem zzob_eq (s : PySem.W.SharedT) : zzob s = zzk.obs s.abs := obsE_eq (HandSHeadRun.getT_eq s)
theorem zzrun (w : World) : HandSHeadRun.RunEq zzR (PySem.W.view zzR.prog [38]) zzk zzob 4000 zznm w := by
  intro os
  kernel_rfl
theorem zzgx {K : PySem.W.Frag} {h : Heap} {mg : Str → Option Value} (X : K.In h) (G : h.Ns mainGlobals mg) (c : He.SaysD zzfa zzfn K) : ∀ x ∈ exN, mg x = some (.ref (He.ga K x)) := by
  intro x hx
  simp only [exN, List.mem_cons, List.not_mem_nil, or_false] at hx
  rcases hx with rfl | rfl | rfl | rfl | rfl
  · exact He.glo_ok X G (c.fact 18 rfl)
  · exact He.glo_ok X G (c.fact 22 rfl)
  · exact He.glo_ok X G (c.fact 24 rfl)
  · exact He.glo_ok X G (c.fact 26 rfl)
  · exact He.glo_ok X G (c.fact 20 rfl)
theorem zztxt {K : PySem.W.Frag} {h : Heap} {mg : Str → Option Value} (X : K.In h) (G : h.Ns mainGlobals mg) (c : He.SaysD zzfa zzfn K) (e : zzex K = true) : Txt K mg where
  z_abs := He.free_ok X G (c.fact 0 rfl)
  z_bool := He.free_ok X G (c.fact 1 rfl)
  z_enumerate := He.free_ok X G (c.fact 2 rfl)
  z_int := He.free_ok X G (c.fact 3 rfl)
  z_isinstance := He.free_ok X G (c.fact 4 rfl)
  z_len := He.free_ok X G (c.fact 5 rfl)
  z_list := He.free_ok X G (c.fact 6 rfl)
  z_max := He.free_ok X G (c.fact 7 rfl)
  z_min := He.free_ok X G (c.fact 8 rfl)
  z_range := He.free_ok X G (c.fact 9 rfl)
  z_set := He.free_ok X G (c.fact 10 rfl)
  z_sorted := He.free_ok X G (c.fact 11 rfl)
  z_sum := He.free_ok X G (c.fact 12 rfl)
  z_tuple := He.free_ok X G (c.fact 13 rfl)
  z_zip := He.free_ok X G (c.fact 14 rfl)
  k_MAX_EDGES := He.int_ok X G (c.fact 15 rfl)
  k_MAX_TOLD := He.int_ok X G (c.fact 16 rfl)
  k_MAX_VERTICES := He.int_ok X G (c.fact 17 rfl)
  g_HeightError := He.glo_ok X G (c.fact 18 rfl)
  x_HeightError := He.exc_ok (c.fact 19 rfl)
  g_HeightsExist := He.glo_ok X G (c.fact 20 rfl)
  x_HeightsExist := He.exc_ok (c.fact 21 rfl)
  g_InvalidGraph := He.glo_ok X G (c.fact 22 rfl)
  x_InvalidGraph := He.exc_ok (c.fact 23 rfl)
  g_InvalidTold := He.glo_ok X G (c.fact 24 rfl)
  x_InvalidTold := He.exc_ok (c.fact 25 rfl)
  g_NoHeights := He.glo_ok X G (c.fact 26 rfl)
  x_NoHeights := He.exc_ok (c.fact 27 rfl)
  g_in_range := He.glo_ok X G (c.fact 28 rfl)
  g_is_edge := He.glo_ok X G (c.fact 29 rfl)
  g_distances := He.glo_ok X G (c.fact 30 rfl)
  g_is_graph := He.glo_ok X G (c.fact 31 rfl)
  g_check_graph := He.glo_ok X G (c.fact 32 rfl)
  g_are_told := He.glo_ok X G (c.fact 33 rfl)
  g_check_told := He.glo_ok X G (c.fact 34 rfl)
  g_neighbors := He.glo_ok X G (c.fact 35 rfl)
  g_walk_between := He.glo_ok X G (c.fact 36 rfl)
  g_odd_walk := He.glo_ok X G (c.fact 37 rfl)
  g_found_paper := He.glo_ok X G (c.fact 38 rfl)
  g_bound := He.glo_ok X G (c.fact 39 rfl)
  g_extreme := He.glo_ok X G (c.fact 40 rfl)
  g_greatest := He.glo_ok X G (c.fact 41 rfl)
  g_least := He.glo_ok X G (c.fact 42 rfl)
  g_ranges := He.glo_ok X G (c.fact 43 rfl)
  g_sure_vertices := He.glo_ok X G (c.fact 44 rfl)
  g__law_cell := He.glo_ok X G (c.fact 45 rfl)
  g__law_row := He.glo_ok X G (c.fact 46 rfl)
  g__law_graph := He.glo_ok X G (c.fact 47 rfl)
  g__law_far := He.glo_ok X G (c.fact 48 rfl)
  g__law_told := He.glo_ok X G (c.fact 49 rfl)
  g__law_beside := He.glo_ok X G (c.fact 50 rfl)
  g__law_all := He.glo_ok X G (c.fact 51 rfl)
  g__law_with := He.glo_ok X G (c.fact 52 rfl)
  g__law_extreme := He.glo_ok X G (c.fact 53 rfl)
  g_law := He.glo_ok X G (c.fact 54 rfl)
  ex := ⟨zzgx X G c, zzgx X G c, e⟩
  f_in_range := c.def_ 0 (d := d_in_range) rfl
  f_is_edge := c.def_ 1 (d := d_is_edge) rfl
  f_distances := c.def_ 2 (d := d_distances) rfl
  f_is_graph := c.def_ 3 (d := d_is_graph) rfl
  f_check_graph := c.def_ 4 (d := d_check_graph) rfl
  f_are_told := c.def_ 5 (d := d_are_told) rfl
  f_check_told := c.def_ 6 (d := d_check_told) rfl
  f_neighbors := c.def_ 7 (d := d_neighbors) rfl
  f_walk_between := c.def_ 8 (d := d_walk_between) rfl
  f_odd_walk := c.def_ 9 (d := d_odd_walk) rfl
  f_found_paper := c.def_ 10 (d := d_found_paper) rfl
  f_bound := c.def_ 11 (d := d_bound) rfl
  f_extreme := c.def_ 12 (d := d_extreme) rfl
  f_greatest := c.def_ 13 (d := d_greatest) rfl
  f_least := c.def_ 14 (d := d_least) rfl
  f_ranges := c.def_ 15 (d := d_ranges) rfl
  f_sure_vertices := c.def_ 16 (d := d_sure_vertices) rfl
  f__law_cell := c.def_ 17 (d := d__law_cell) rfl
  f__law_row := c.def_ 18 (d := d__law_row) rfl
  f__law_graph := c.def_ 19 (d := d__law_graph) rfl
  f__law_far := c.def_ 20 (d := d__law_far) rfl
  f__law_told := c.def_ 21 (d := d__law_told) rfl
  f__law_beside := c.def_ 22 (d := d__law_beside) rfl
  f__law_all := c.def_ 23 (d := d__law_all) rfl
  f__law_with := c.def_ 24 (d := d__law_with) rfl
  f__law_extreme := c.def_ 25 (d := d__law_extreme) rfl
  f_law := c.def_ 26 (d := d_law) rfl
end VL
open PySem PySem.W PySem.Calls PyProof.Rows
theorem PySem.Challenge.cw_stepheights_k05_whole_extremes_holds : PySem.Challenge.rw_stepheights_k05_whole_extremes.Holds := by
  w_on; o_law
  refine HandSHeadRun.head_any (r := OpenLaw.row PySem.Challenge.rw_stepheights_k05_whole_extremes) (q := view (OpenLaw.row PySem.Challenge.rw_stepheights_k05_whole_extremes).prog [38]) (H := VL.zzk) (ob := VL.zzob) (M := 4000) (loose := VL.zznm) (d := HandSHeadRun.topDef (OpenLaw.row PySem.Challenge.rw_stepheights_k05_whole_extremes).prog 38) (kwd := []) VL.zzob_eq
    (by kernel_rfl) (fun s => by kernel_rfl) VL.zzrun (by kernel_rfl) (by kernel_rfl) (by kernel_rfl) (by rfl) (by first | assumption | decide +kernel) (by decide +kernel) ⟨rfl, rfl, rfl, rfl, rfl, by decide +kernel⟩ ?hw ?hc
  case hw => w_witness2
  case hc =>
    refine VL.walk_law (l := PySem.Challenge.rw_stepheights_k05_whole_extremes) (n := 63) (k := 10) (g := VL.g_law) rfl (by decide) (by kernel_rfl) ⟨rfl, by decide, by decide⟩ VL.law_true ?F
    intro w mg fa h Y G hmg0
    obtain ⟨K, KX, c, e⟩ := Y
    have hmg : mg ("law" : PySem.Str) = some (.ref fa) := by
      have e : (HandSHeadRun.topDef (OpenLaw.row PySem.Challenge.rw_stepheights_k05_whole_extremes).prog 38).name = ("law" : PySem.Str) := by kernel_rfl
      rw [← e]
      exact hmg0
    have T := VL.zztxt KX G c e
    obtain ⟨fd0, F0⟩ := T.f_law
    have e0 := hmg.symm.trans T.g_law
    cases e0
    have b := L2.FunD.bindsA (ps := ["script"]) F0 fun _ _ _ _ _ _ us hl => match us, hl with | [_], _ => rfl
    refine ⟨K, fd0, "script", KX, fun s v => b s [v] rfl, fun base => ?_⟩
    exact VL.ok_law T F0
