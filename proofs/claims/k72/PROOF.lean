import PyProof.Rows.All
import Wide.All
import OpenK.AllK
import Wide.FinOn
import HandS.ForMost
import HandS.ForExc
import KE.DataEq
import HandS.IsInst
import HandS.TupAny
import HandS.Wide
import HandS.Zip
import HandS.Deep
import HandS.Conv
import KE.GoesComp
import KE.SortKeyHeap
import KE.DataMinMax
import HandS.SortKw
import HandS.SetTxt0
import HandS.Set
import HandS.More
import HandS.Defaults
import HandS.Style
import HandS.TryMany
import HandS.ExcIs
import KE.KBits
import HandS.Text
import PyProof.StrLawsTight
import HandS.HeadEnd
import HandS.HeadHook1
import HandS.HeadHook2
import HandS.HeadHook3
import HandS.HeadHook4
import HandS.Head0
import HandS.Head1
import HandS.Head2
import PySem.Challenge.RW_roundsalone_k72_texts_written
set_option Elab.async false
set_option linter.all false
set_option maxRecDepth 100000
/-! Mp1: data, slots, the relation between a frame's data and the heap. -/
namespace Mp
open PySem L2

abbrev D := PyData

/-- a result: a value, a raise of the class of that name, or nothing is promised -/
inductive R (α : Type) where
  | ok (a : α)
  | exc (c : Str)
  | bad
def R.bind {α β : Type} (x : R α) (f : α → R β) : R β := match x with
  | .ok a => f a
  | .exc c => .exc c
  | .bad => .bad
def R.map {α β : Type} (f : α → β) (x : R α) : R β := match x with
  | .ok a => .ok (f a)
  | .exc c => .exc c
  | .bad => .bad

def kD : Key → D
  | .inl i => .int i
  | .inr x => .str x

/-! ### what a value stands for -/
mutual
inductive Rep (K : PySem.W.Frag) (G : Hp) : V → D → Prop
  | non : Rep K G .non .none
  | bl (b : Bool) : Rep K G (.bl b) (.bool b)
  | int (i : Int) : Rep K G (.int i) (.int i)
  | str (x : Str) : Rep K G (.str x) (.str x)
  | lst {a : Addr} {xs : List V} {ds : List D} : G a = some (.lst xs) → RepL K G xs ds → Rep K G (.ref a) (.list ds)
  /-- a list that is read only (the script): told as a dict that no dict of ours is -/
  | scr {a : Addr} {xs : List V} {ds : List D} : SqL K G a xs → RepL K G xs ds → Rep K G (.ref a) (.dict [(.none, .list ds)])
  | tup {a : Addr} {xs : List V} {ds : List D} : SqT K G a xs → RepL K G xs ds → Rep K G (.ref a) (.tuple ds)
  | dic {a : Addr} {kvs : List (Key × V)} {ds : List (D × D)} : Rd G a (.dK kvs) → RepK K G kvs ds → Rep K G (.ref a) (.dict ds)
inductive RepL (K : PySem.W.Frag) (G : Hp) : List V → List D → Prop
  | nil : RepL K G [] []
  | cons {v : V} {vs : List V} {d : D} {ds : List D} : Rep K G v d → RepL K G vs ds → RepL K G (v :: vs) (d :: ds)
inductive RepK (K : PySem.W.Frag) (G : Hp) : List (Key × V) → List (D × D) → Prop
  | nil : RepK K G [] []
  | cons {k : Key} {v : V} {kvs : List (Key × V)} {d : D} {ds : List (D × D)} : Rep K G v d → RepK K G kvs ds → RepK K G ((k, v) :: kvs) ((kD k, d) :: ds)
end

theorem same_rd {H H' : Hp} {a : Addr} {u : HO} (e : Same H H') (h : Rd H a u) : Rd H' a u := by
  rcases h with h | ⟨o, h⟩
  · exact .inl (e _ _ h)
  · exact .inr ⟨o, e _ _ h⟩
theorem same_seqT {K : PySem.W.Frag} {H H' : Hp} {a : Addr} {xs : List V} (e : Same H H') (h : SqT K H a xs) : SqT K H' a xs := by
  rcases h with h | h
  · exact .inl (same_rd e h)
  · exact .inr h

mutual
theorem Rep.mono {K : PySem.W.Frag} {G G' : Hp} (e : Same G G') : ∀ {v : V} {d : D}, Rep K G v d → Rep K G' v d
  | _, _, .non => .non
  | _, _, .bl b => .bl b
  | _, _, .int i => .int i
  | _, _, .str x => .str x
  | _, _, .lst h1 h2 => .lst (e _ _ h1) (RepL.mono e h2)
  | _, _, .scr h1 h2 => .scr (e.seq h1) (RepL.mono e h2)
  | _, _, .tup h1 h2 => .tup (same_seqT e h1) (RepL.mono e h2)
  | _, _, .dic h1 h2 => .dic (same_rd e h1) (RepK.mono e h2)
theorem RepL.mono {K : PySem.W.Frag} {G G' : Hp} (e : Same G G') : ∀ {vs : List V} {ds : List D}, RepL K G vs ds → RepL K G' vs ds
  | _, _, .nil => .nil
  | _, _, .cons h1 h2 => .cons (Rep.mono e h1) (RepL.mono e h2)
theorem RepK.mono {K : PySem.W.Frag} {G G' : Hp} (e : Same G G') : ∀ {vs : List (Key × V)} {ds : List (D × D)}, RepK K G vs ds → RepK K G' vs ds
  | _, _, .nil => .nil
  | _, _, .cons h1 h2 => .cons (Rep.mono e h1) (RepK.mono e h2)
end

section
variable {K : PySem.W.Frag} {G : Hp}
theorem RepL.length : ∀ {vs : List V} {ds : List D}, RepL K G vs ds → vs.length = ds.length
  | _, _, .nil => rfl
  | _, _, .cons _ t => congrArg (· + 1) (RepL.length t)
theorem RepK.length : ∀ {vs : List (Key × V)} {ds : List (D × D)}, RepK K G vs ds → vs.length = ds.length
  | _, _, .nil => rfl
  | _, _, .cons _ t => congrArg (· + 1) (RepK.length t)
theorem RepL.get : ∀ {vs : List V} {ds : List D} {i : Nat} {d : D}, RepL K G vs ds → ds[i]? = some d → ∃ v, vs[i]? = some v ∧ Rep K G v d
  | _, _, _, _, .nil, e => by simp at e
  | _, _, 0, _, .cons r _, e => by simp at e; subst e; exact ⟨_, rfl, r⟩
  | _, _, i + 1, d, .cons _ t, e => by
    obtain ⟨u, h1, h2⟩ := RepL.get (i := i) (d := d) t (by simpa using e)
    exact ⟨u, by simpa using h1, h2⟩
theorem RepL.getV : ∀ {vs : List V} {ds : List D} {i : Nat} {v : V}, RepL K G vs ds → vs[i]? = some v → ∃ d, ds[i]? = some d ∧ Rep K G v d
  | _, _, _, _, .nil, e => by simp at e
  | _, _, 0, _, .cons r _, e => by simp at e; subst e; exact ⟨_, rfl, r⟩
  | _, _, i + 1, d, .cons _ t, e => by
    obtain ⟨u, h1, h2⟩ := RepL.getV (i := i) (v := d) t (by simpa using e)
    exact ⟨u, by simpa using h1, h2⟩
theorem RepL.append : ∀ {vs ws : List V} {ds es : List D}, RepL K G vs ds → RepL K G ws es → RepL K G (vs ++ ws) (ds ++ es)
  | _, _, _, _, .nil, s => s
  | _, _, _, _, .cons r t, s => .cons r (RepL.append t s)
theorem RepL.snoc {vs : List V} {ds : List D} {v : V} {d : D} (h : RepL K G vs ds) (r : Rep K G v d) : RepL K G (vs ++ [v]) (ds ++ [d]) := h.append (.cons r .nil)
theorem RepL.take : ∀ {vs : List V} {ds : List D} (n : Nat), RepL K G vs ds → RepL K G (vs.take n) (ds.take n)
  | _, _, 0, _ => .nil
  | _, _, _ + 1, .nil => .nil
  | _, _, n + 1, .cons r t => .cons r (RepL.take n t)
theorem RepL.drop : ∀ {vs : List V} {ds : List D} (n : Nat), RepL K G vs ds → RepL K G (vs.drop n) (ds.drop n)
  | _, _, 0, r => r
  | _, _, _ + 1, .nil => .nil
  | _, _, n + 1, .cons _ t => RepL.drop n t
theorem RepL.reverse : ∀ {vs : List V} {ds : List D}, RepL K G vs ds → RepL K G vs.reverse ds.reverse
  | _, _, .nil => .nil
  | _, _, .cons r t => by
    rw [List.reverse_cons, List.reverse_cons]
    exact (RepL.reverse t).snoc r
theorem RepL.rep {v : V} {d : D} (r : Rep K G v d) : ∀ n : Nat, RepL K G (List.replicate n v) (List.replicate n d)
  | 0 => .nil
  | n + 1 => .cons r (RepL.rep r n)
theorem RepL.ints : ∀ (ns : List Int), RepL K G (ns.map V.int) (ns.map PyData.int)
  | [] => .nil
  | n :: ns => .cons (.int n) (RepL.ints ns)
theorem RepL.strs : ∀ (ns : List Str), RepL K G (ns.map V.str) (ns.map PyData.str)
  | [] => .nil
  | n :: ns => .cons (.str n) (RepL.strs ns)
theorem RepL.bls : ∀ (ns : List Bool), RepL K G (ns.map V.bl) (ns.map PyData.bool)
  | [] => .nil
  | n :: ns => .cons (.bl n) (RepL.bls ns)
theorem RepL.of_ints : ∀ {ns : List Int} {vs : List V}, RepL K G vs (ns.map PyData.int) → vs = ns.map V.int
  | [], _, h => by cases h; rfl
  | n :: ns, _, h => by
    cases h with
    | cons r t => cases r; rw [RepL.of_ints t]; rfl
theorem RepL.of_strs : ∀ {ns : List Str} {vs : List V}, RepL K G vs (ns.map PyData.str) → vs = ns.map V.str
  | [], _, h => by cases h; rfl
  | n :: ns, _, h => by
    cases h with
    | cons r t => cases r; rw [RepL.of_strs t]; rfl
theorem RepL.of_bls : ∀ {ns : List Bool} {vs : List V}, RepL K G vs (ns.map PyData.bool) → vs = ns.map V.bl
  | [], _, h => by cases h; rfl
  | n :: ns, _, h => by
    cases h with
    | cons r t => cases r; rw [RepL.of_bls t]; rfl
end

/-! ### how the heaps grow: G the shared, unchanging part, H all -/
def Gw (G H G' H' : Hp) : Prop := Same G G' ∧ Same H H' ∧ Same G' H' ∧ ∀ a o, H a = some o → G a = none → G' a = none
section
variable {G H G' H' G1 H1 G2 H2 : Hp} {p : Addr} {o : HO}
theorem same_new (h : H p = none) : Same H (upd H p o) := fun b u e => by rw [upd_ne (ne_of_none e h)]; exact e
theorem same_up (e : Same G H) (h : G p = none) : Same G (upd H p o) := fun b u q => by rw [upd_ne (ne_of_none q h)]; exact e _ _ q
theorem same_both (e : Same G H) : Same (upd G p o) (upd H p o) := fun b u q => by
  by_cases hb : b = p
  · subst hb; rw [upd_same] at q ⊢; exact q
  · rw [upd_ne hb] at q ⊢; exact e _ _ q
theorem Gw.refl (h : Same G H) : Gw G H G H := ⟨Same.refl _, Same.refl _, h, fun _ _ _ n => n⟩
theorem Gw.trans (a : Gw G H G1 H1) (b : Gw G1 H1 G2 H2) : Gw G H G2 H2 :=
  ⟨a.1.trans b.1, a.2.1.trans b.2.1, b.2.2.1, fun x o e n => b.2.2.2 x o (a.2.1 x o e) (a.2.2.2 x o e n)⟩
/-- a new shared object -/
theorem Gw.new (h : Same G H) (hp : H p = none) : Gw G H (upd G p o) (upd H p o) :=
  ⟨same_new (h.free hp), same_new hp, same_both h, fun a u e n => by rw [upd_ne (ne_of_none e hp)]; exact n⟩
/-- a new object of one's own -/
theorem Gw.own (h : Same G H) (hp : H p = none) : Gw G H G (upd H p o) :=
  ⟨Same.refl _, same_new hp, same_up h (h.free hp), fun _ _ _ n => n⟩
/-- an own object becomes shared -/
theorem Gw.share (g : Gw G H G' H') (hp : H p = none) (hn : G' p = none) (ho : H' p = some o) : Gw G H (upd G' p o) H' :=
  ⟨g.1.trans (same_new hn), g.2.1, fun b u q => by
    by_cases hb : b = p
    · subst hb; rw [upd_same] at q; cases q; exact ho
    · rw [upd_ne hb] at q; exact g.2.2.1 _ _ q, fun a u e n => by rw [upd_ne (ne_of_none e hp)]; exact g.2.2.2 a u e n⟩
end

/-! ### slots -/
inductive Sl where
  | emp
  | val (d : D)
  | own (xs : List D)
  | hold (xs : List D)
  | dct (kvs : List (D × D))
  /-- an object that is told elsewhere: its place is the walk's -/
  | pin
  /-- an exception that is being handled -/
  | exn (a : Addr)
def Sl.mut : Sl → Bool
  | .own _ => true
  | .hold _ => true
  | .dct _ => true
  | _ => false
/-- the entry: what is shared there, the heap there; the held lists' places -/
structure Bs where
  G0 : Hp
  H0 : Hp
  pi : Nat → Option (Addr × List V)
def SlOk (K : PySem.W.Frag) (B : Bs) (G H : Hp) (i : Nat) (s : Sl) (o : Option (Option V)) : Prop := match s with
  | .emp => True
  | .val d => ∃ v, o = some (some v) ∧ Rep K G v d
  | .own xs => ∃ p vs, o = some (some (.ref p)) ∧ H p = some (.lst vs) ∧ G p = none ∧ B.H0 p = none ∧ RepL K G vs xs
  | .hold xs => ∃ p vs, B.pi i = some (p, vs) ∧ o = some (some (.ref p)) ∧ H p = some (.lst vs) ∧ G p = none ∧ B.H0 p = none ∧ RepL K G vs xs
  | .dct xs => ∃ p vs, o = some (some (.ref p)) ∧ H p = some (.dK vs) ∧ G p = none ∧ B.H0 p = none ∧ RepK K G vs xs
  | .pin => ∃ p, B.pi i = some (p, []) ∧ o = some (some (.ref p))
  | .exn a => o = some (some (.ref a))
structure Rel (K : PySem.W.Frag) (B : Bs) (G H : Hp) (ρ : List Sl) (σ : L2.St) : Prop where
  gw0 : Gw B.G0 B.H0 G H
  len : ρ.length = σ.length
  sl : ∀ (i : Nat) (s : Sl), ρ[i]? = some s → SlOk K B G H i s σ[i]?
  dis : ∀ (i j : Nat) (s t : Sl) (p : Addr), i ≠ j → ρ[i]? = some s → ρ[j]? = some t → s.mut = true → t.mut = true → σ[i]? = some (some (.ref p)) → σ[j]? ≠ some (some (.ref p))
section
variable {K : PySem.W.Frag} {B : Bs} {G H G' H' : Hp} {ρ : List Sl} {σ : L2.St}
theorem Rel.ex (r : Rel K B G H ρ σ) : Same G H := r.gw0.2.2.1
theorem SlOk.gw {i : Nat} {s : Sl} {o : Option (Option V)} (h : SlOk K B G H i s o) (g : Gw G H G' H') : SlOk K B G' H' i s o := by
  cases s with
  | emp => exact h
  | val d => obtain ⟨v, e, r⟩ := h; exact ⟨v, e, r.mono g.1⟩
  | own xs => obtain ⟨p, vs, e, h1, h2, h3, r⟩ := h; exact ⟨p, vs, e, g.2.1 _ _ h1, g.2.2.2 _ _ h1 h2, h3, r.mono g.1⟩
  | hold xs => obtain ⟨p, vs, e0, e, h1, h2, h3, r⟩ := h; exact ⟨p, vs, e0, e, g.2.1 _ _ h1, g.2.2.2 _ _ h1 h2, h3, r.mono g.1⟩
  | dct xs => obtain ⟨p, vs, e, h1, h2, h3, r⟩ := h; exact ⟨p, vs, e, g.2.1 _ _ h1, g.2.2.2 _ _ h1 h2, h3, r.mono g.1⟩
  | pin => exact h
  | exn a => exact h
theorem Rel.gw (r : Rel K B G H ρ σ) (g : Gw G H G' H') : Rel K B G' H' ρ σ :=
  ⟨r.gw0.trans g, r.len, fun i s e => (r.sl i s e).gw g, r.dis⟩
/-- the address of a slot that may be changed stands in the heap -/
theorem Rel.mutAt (r : Rel K B G H ρ σ) {i : Nat} {s : Sl} (e : ρ[i]? = some s) (m : s.mut = true) : ∃ p u, σ[i]? = some (some (.ref p)) ∧ H p = some u ∧ G p = none ∧ B.H0 p = none := by
  have h := r.sl i s e
  cases s with
  | emp => cases m
  | val d => cases m
  | own xs => obtain ⟨p, vs, e, h1, h2, h3, _⟩ := h; exact ⟨p, _, e, h1, h2, h3⟩
  | hold xs => obtain ⟨p, vs, _, e, h1, h2, h3, _⟩ := h; exact ⟨p, _, e, h1, h2, h3⟩
  | dct xs => obtain ⟨p, vs, e, h1, h2, h3, _⟩ := h; exact ⟨p, _, e, h1, h2, h3⟩
  | pin => cases m
  | exn a => cases m
/-- a slot is given a shared value -/
theorem Rel.setVal (r : Rel K B G H ρ σ) (i : Nat) {v : V} {d : D} (h : Rep K G v d) : Rel K B G H (ρ.set i (.val d)) (σ.set i (some v)) := by
  refine ⟨r.gw0, by simpa using r.len, fun j s e => ?_, fun a b s t p hab ea eb ms mt pa pb => ?_⟩
  · by_cases hj : i = j
    · subst hj
      have hi : i < ρ.length := by
        have := (List.getElem?_eq_some_iff.mp e).1
        simpa using this
      rw [List.getElem?_set_self hi] at e
      cases e
      exact ⟨v, by rw [List.getElem?_set_self (by rw [← r.len]; exact hi)], h⟩
    · rw [List.getElem?_set_ne hj] at e ⊢
      exact r.sl j s e
  · have h1 : i ≠ a := by
      rintro rfl
      have hi : i < ρ.length := by
        have := (List.getElem?_eq_some_iff.mp ea).1
        simpa using this
      rw [List.getElem?_set_self hi] at ea
      cases ea
      cases ms
    have h2 : i ≠ b := by
      rintro rfl
      have hi : i < ρ.length := by
        have := (List.getElem?_eq_some_iff.mp eb).1
        simpa using this
      rw [List.getElem?_set_self hi] at eb
      cases eb
      cases mt
    rw [List.getElem?_set_ne h1] at ea pa
    rw [List.getElem?_set_ne h2] at eb pb
    exact r.dis a b s t p hab ea eb ms mt pa pb
/-- a slot is given a new object of its own -/
theorem Rel.setMut (r : Rel K B G H ρ σ) (i : Nat) {p : Addr} {s : Sl} (hn : ∀ (j : Nat) (t : Sl), ρ[j]? = some t → t.mut = true → σ[j]? ≠ some (some (.ref p))) (h : SlOk K B G H i s (some (some (.ref p)))) :
    Rel K B G H (ρ.set i s) (σ.set i (some (.ref p))) := by
  refine ⟨r.gw0, by simpa using r.len, fun j t e => ?_, fun a b t u q hab ea eb ms mt pa pb => ?_⟩
  · by_cases hj : i = j
    · subst hj
      have hi : i < ρ.length := by
        have := (List.getElem?_eq_some_iff.mp e).1
        simpa using this
      rw [List.getElem?_set_self hi] at e
      cases e
      rw [List.getElem?_set_self (by rw [← r.len]; exact hi)]
      exact h
    · rw [List.getElem?_set_ne hj] at e ⊢
      exact r.sl j t e
  · by_cases h1 : i = a
    · subst h1
      have hi : i < ρ.length := by
        have := (List.getElem?_eq_some_iff.mp ea).1
        simpa using this
      rw [List.getElem?_set_self (by rw [← r.len]; exact hi)] at pa
      cases pa
      rw [List.getElem?_set_ne hab] at eb pb
      exact hn b u eb mt pb
    · rw [List.getElem?_set_ne h1] at ea pa
      by_cases h2 : i = b
      · subst h2
        have hi : i < ρ.length := by
          have := (List.getElem?_eq_some_iff.mp eb).1
          simpa using this
        rw [List.getElem?_set_self (by rw [← r.len]; exact hi)] at pb
        cases pb
        exact hn a t ea ms pa
      · rw [List.getElem?_set_ne h2] at eb pb
        exact r.dis a b t u q hab ea eb ms mt pa pb
/-- a slot is forgotten -/
theorem Rel.setEmp (r : Rel K B G H ρ σ) (i : Nat) (o : Option V) : Rel K B G H (ρ.set i .emp) (σ.set i o) := by
  refine ⟨r.gw0, by simpa using r.len, fun j s e => ?_, fun a b s t p hab ea eb ms mt pa pb => ?_⟩
  · by_cases hj : i = j
    · subst hj
      have hi : i < ρ.length := by
        have := (List.getElem?_eq_some_iff.mp e).1
        simpa using this
      rw [List.getElem?_set_self hi] at e
      cases e
      exact True.intro
    · rw [List.getElem?_set_ne hj] at e ⊢
      exact r.sl j s e
  · have h1 : i ≠ a := by
      rintro rfl
      have hi : i < ρ.length := by
        have := (List.getElem?_eq_some_iff.mp ea).1
        simpa using this
      rw [List.getElem?_set_self hi] at ea
      cases ea
      cases ms
    have h2 : i ≠ b := by
      rintro rfl
      have hi : i < ρ.length := by
        have := (List.getElem?_eq_some_iff.mp eb).1
        simpa using this
      rw [List.getElem?_set_self hi] at eb
      cases eb
      cases mt
    rw [List.getElem?_set_ne h1] at ea pa
    rw [List.getElem?_set_ne h2] at eb pb
    exact r.dis a b s t p hab ea eb ms mt pa pb
/-- what a slot's own object holds is changed in place -/
theorem Rel.change (r : Rel K B G H ρ σ) {i : Nat} {p : Addr} {s s' : Sl} {o : HO} (e : ρ[i]? = some s) (ms : s.mut = true) (hp : σ[i]? = some (some (.ref p))) (h : SlOk K B G (upd H p o) i s' (some (some (.ref p)))) (ms' : s'.mut = true) :
    Rel K B G (upd H p o) (ρ.set i s') σ := by
  obtain ⟨p', u, e1, e2, e3, e4⟩ := r.mutAt e ms
  rw [hp] at e1
  cases e1
  refine ⟨⟨r.gw0.1, same_up r.gw0.2.1 e4, same_up r.gw0.2.2.1 e3, r.gw0.2.2.2⟩, by simpa using r.len, fun j t ej => ?_, fun a b t u q hab ea eb mt mu pa pb => ?_⟩
  · by_cases hj : i = j
    · subst hj
      have hi : i < ρ.length := by
        have := (List.getElem?_eq_some_iff.mp ej).1
        simpa using this
      rw [List.getElem?_set_self hi] at ej
      cases ej
      rw [hp]
      exact h
    · rw [List.getElem?_set_ne hj] at ej
      have hs := r.sl j t ej
      have ne : ∀ q : Addr, t.mut = true → σ[j]? = some (some (.ref q)) → q ≠ p := fun q mq eq z => r.dis i j s t p hj e ej ms mq hp (by rw [eq, z])
      cases t with
      | emp => exact True.intro
      | val d => exact hs
      | own xs => obtain ⟨q, vs, f0, f1, f2, f3, f4⟩ := hs; exact ⟨q, vs, f0, by rw [upd_ne (ne q rfl f0)]; exact f1, f2, f3, f4⟩
      | hold xs => obtain ⟨q, vs, fp, f0, f1, f2, f3, f4⟩ := hs; exact ⟨q, vs, fp, f0, by rw [upd_ne (ne q rfl f0)]; exact f1, f2, f3, f4⟩
      | dct xs => obtain ⟨q, vs, f0, f1, f2, f3, f4⟩ := hs; exact ⟨q, vs, f0, by rw [upd_ne (ne q rfl f0)]; exact f1, f2, f3, f4⟩
      | pin => exact hs
      | exn a => exact hs
  · have back : ∀ c (t : Sl), (ρ.set i s')[c]? = some t → t.mut = true → ∃ t' : Sl, ρ[c]? = some t' ∧ t'.mut = true := fun c t ec mc => by
      by_cases hc : i = c
      · subst hc; exact ⟨s, e, ms⟩
      · rw [List.getElem?_set_ne hc] at ec; exact ⟨t, ec, mc⟩
    obtain ⟨t', ea', ma'⟩ := back a t ea mt
    obtain ⟨u', eb', mb'⟩ := back b u eb mu
    exact r.dis a b t' u' q hab ea' eb' ma' mb' pa pb
/-- an own object's state is told otherwise (the heap as it is) -/
theorem Rel.retell (r : Rel K B G H ρ σ) {i : Nat} {s s' : Sl} (e : ρ[i]? = some s) (ms : s.mut = true) (h : SlOk K B G H i s' σ[i]?) : Rel K B G H (ρ.set i s') σ := by
  refine ⟨r.gw0, by simpa using r.len, fun j t ej => ?_, fun a b t u q hab ea eb mt mu pa pb => ?_⟩
  · by_cases hj : i = j
    · subst hj
      have hi : i < ρ.length := by
        have := (List.getElem?_eq_some_iff.mp ej).1
        simpa using this
      rw [List.getElem?_set_self hi] at ej
      cases ej
      exact h
    · rw [List.getElem?_set_ne hj] at ej
      exact r.sl j t ej
  · have back : ∀ c (t : Sl), (ρ.set i s')[c]? = some t → t.mut = true → ∃ t' : Sl, ρ[c]? = some t' ∧ t'.mut = true := fun c t ec mc => by
      by_cases hc : i = c
      · subst hc; exact ⟨s, e, ms⟩
      · rw [List.getElem?_set_ne hc] at ec; exact ⟨t, ec, mc⟩
    obtain ⟨t', ea', ma'⟩ := back a t ea mt
    obtain ⟨u', eb', mb'⟩ := back b u eb mu
    exact r.dis a b t' u' q hab ea' eb' ma' mb' pa pb
/-- an object of no slot may change -/
theorem Rel.other (r : Rel K B G H ρ σ) {p : Addr} {o : HO} (hG : G p = none) (hB : B.H0 p = none) (hn : ∀ (j : Nat) (t : Sl), ρ[j]? = some t → t.mut = true → σ[j]? ≠ some (some (.ref p))) : Rel K B G (upd H p o) ρ σ := by
  refine ⟨⟨r.gw0.1, same_up r.gw0.2.1 hB, same_up r.gw0.2.2.1 hG, r.gw0.2.2.2⟩, r.len, fun j t ej => ?_, r.dis⟩
  have hs := r.sl j t ej
  have ne : ∀ q : Addr, t.mut = true → σ[j]? = some (some (.ref q)) → q ≠ p := fun q mq eq z => hn j t ej mq (by rw [eq, z])
  cases t with
  | emp => exact True.intro
  | val d => exact hs
  | own xs => obtain ⟨q, vs, f0, f1, f2, f3, f4⟩ := hs; exact ⟨q, vs, f0, by rw [upd_ne (ne q rfl f0)]; exact f1, f2, f3, f4⟩
  | hold xs => obtain ⟨q, vs, fp, f0, f1, f2, f3, f4⟩ := hs; exact ⟨q, vs, fp, f0, by rw [upd_ne (ne q rfl f0)]; exact f1, f2, f3, f4⟩
  | dct xs => obtain ⟨q, vs, f0, f1, f2, f3, f4⟩ := hs; exact ⟨q, vs, f0, by rw [upd_ne (ne q rfl f0)]; exact f1, f2, f3, f4⟩
  | pin => exact hs
  | exn a => exact hs
/-- no slot of one's own lies at a new address -/
theorem Rel.fresh (r : Rel K B G H ρ σ) {p : Addr} (hp : H p = none) : ∀ (j : Nat) (t : Sl), ρ[j]? = some t → t.mut = true → σ[j]? ≠ some (some (.ref p)) := fun j t ej mt e => by
  obtain ⟨q, u, e1, e2, _⟩ := r.mutAt ej mt
  rw [e] at e1
  cases e1
  rw [hp] at e2
  cases e2
/-- a walk over an own list begins, ends -/
theorem Rel.holdOn (r : Rel K B G H ρ σ) {i : Nat} {xs : List D} (e : ρ[i]? = some (.own xs)) : ∃ p vs, H p = some (.lst vs) ∧ RepL K G vs xs ∧ σ[i]? = some (some (.ref p)) ∧ Rel K { B with pi := fun j => if j = i then some (p, vs) else B.pi j } G H (ρ.set i (.hold xs)) σ := by
  obtain ⟨p, vs, e1, e2, e3, e4, e5⟩ := r.sl i _ e
  refine ⟨p, vs, e2, e5, e1, r.gw0, by simpa using r.len, fun j t ej => ?_, ?_⟩
  · by_cases hj : i = j
    · subst hj
      have hi : i < ρ.length := by
        have := (List.getElem?_eq_some_iff.mp ej).1
        simpa using this
      rw [List.getElem?_set_self hi] at ej
      cases ej
      exact ⟨p, vs, if_pos rfl, e1, e2, e3, e4, e5⟩
    · rw [List.getElem?_set_ne hj] at ej
      have hs := r.sl j t ej
      cases t with
      | hold ys => obtain ⟨q, ws, fp, f0, f1, f2, f3, f4⟩ := hs; exact ⟨q, ws, by show (if j = i then _ else _) = _; rw [if_neg (Ne.symm hj)]; exact fp, f0, f1, f2, f3, f4⟩
      | emp => exact hs
      | val d => exact hs
      | own ys => exact hs
      | dct ys => exact hs
      | pin => obtain ⟨q, fp, f0⟩ := hs; exact ⟨q, by show (if j = i then _ else _) = _; rw [if_neg (Ne.symm hj)]; exact fp, f0⟩
      | exn a => exact hs
  · intro a b t u q hab ea eb mt mu pa pb
    have back : ∀ c (t : Sl), (ρ.set i (.hold xs))[c]? = some t → t.mut = true → ∃ t' : Sl, ρ[c]? = some t' ∧ t'.mut = true := fun c t ec mc => by
      by_cases hc : i = c
      · subst hc; exact ⟨_, e, rfl⟩
      · rw [List.getElem?_set_ne hc] at ec; exact ⟨t, ec, mc⟩
    obtain ⟨t', ea', ma'⟩ := back a t ea mt
    obtain ⟨u', eb', mb'⟩ := back b u eb mu
    exact r.dis a b t' u' q hab ea' eb' ma' mb' pa pb
theorem Rel.holdOff {pv : Nat → Option (Addr × List V)} {i : Nat} {xs : List D} (r : Rel K { B with pi := pv } G H ρ σ) (hpv : ∀ j, j ≠ i → pv j = B.pi j) (e : ρ[i]? = some (.hold xs)) : Rel K B G H (ρ.set i (.own xs)) σ := by
  obtain ⟨p, vs, e0, e1, e2, e3, e4, e5⟩ := r.sl i _ e
  refine ⟨r.gw0, by simpa using r.len, fun j t ej => ?_, ?_⟩
  · by_cases hj : i = j
    · subst hj
      have hi : i < ρ.length := by
        have := (List.getElem?_eq_some_iff.mp ej).1
        simpa using this
      rw [List.getElem?_set_self hi] at ej
      cases ej
      exact ⟨p, vs, e1, e2, e3, e4, e5⟩
    · rw [List.getElem?_set_ne hj] at ej
      have hs := r.sl j t ej
      cases t with
      | hold ys => obtain ⟨q, ws, fp, f0, f1, f2, f3, f4⟩ := hs; exact ⟨q, ws, (hpv j (Ne.symm hj)).symm.trans fp, f0, f1, f2, f3, f4⟩
      | emp => exact hs
      | val d => exact hs
      | own ys => exact hs
      | dct ys => exact hs
      | pin => obtain ⟨q, fp, f0⟩ := hs; exact ⟨q, (hpv j (Ne.symm hj)).symm.trans fp, f0⟩
      | exn a => exact hs
  · intro a b t u q hab ea eb mt mu pa pb
    have back : ∀ c (t : Sl), (ρ.set i (.own xs))[c]? = some t → t.mut = true → ∃ t' : Sl, ρ[c]? = some t' ∧ t'.mut = true := fun c t ec mc => by
      by_cases hc : i = c
      · subst hc; exact ⟨_, e, rfl⟩
      · rw [List.getElem?_set_ne hc] at ec; exact ⟨t, ec, mc⟩
    obtain ⟨t', ea', ma'⟩ := back a t ea mt
    obtain ⟨u', eb', mb'⟩ := back b u eb mu
    exact r.dis a b t' u' q hab ea' eb' ma' mb' pa pb
/-- an own list becomes shared -/
theorem Rel.freeze (r : Rel K B G H ρ σ) {i : Nat} {xs : List D} (e : ρ[i]? = some (.own xs)) : ∃ G', Gw B.G0 B.H0 G' H ∧ Same G G' ∧ Rel K B G' H (ρ.set i (.val (.list xs))) σ := by
  obtain ⟨p, vs, e1, e2, e3, e4, e5⟩ := r.sl i _ e
  refine ⟨upd G p (.lst vs), r.gw0.share e4 e3 e2, same_new e3, r.gw0.share e4 e3 e2, by simpa using r.len, fun j t ej => ?_, fun a b t u q hab ea eb mt mu pa pb => ?_⟩
  · by_cases hj : i = j
    · subst hj
      have hi : i < ρ.length := by
        have := (List.getElem?_eq_some_iff.mp ej).1
        simpa using this
      rw [List.getElem?_set_self hi] at ej
      cases ej
      exact ⟨.ref p, e1,   .lst upd_same (e5.mono (same_new e3))⟩
    · rw [List.getElem?_set_ne hj] at ej
      have hs := r.sl j t ej
      have ne : ∀ q : Addr, t.mut = true → σ[j]? = some (some (.ref q)) → q ≠ p := fun q mq eq z => r.dis i j _ t p hj e ej rfl mq e1 (by rw [eq, z])
      cases t with
      | emp => exact True.intro
      | val d => obtain ⟨v, f0, f1⟩ := hs; exact ⟨v, f0, f1.mono (same_new e3)⟩
      | own xs => obtain ⟨q, vs, f0, f1, f2, f3, f4⟩ := hs; exact ⟨q, vs, f0, f1, by rw [upd_ne (ne q rfl f0)]; exact f2, f3, f4.mono (same_new e3)⟩
      | hold xs => obtain ⟨q, vs, fp, f0, f1, f2, f3, f4⟩ := hs; exact ⟨q, vs, fp, f0, f1, by rw [upd_ne (ne q rfl f0)]; exact f2, f3, f4.mono (same_new e3)⟩
      | dct xs => obtain ⟨q, vs, f0, f1, f2, f3, f4⟩ := hs; exact ⟨q, vs, f0, f1, by rw [upd_ne (ne q rfl f0)]; exact f2, f3, f4.mono (same_new e3)⟩
      | pin => exact hs
      | exn a => exact hs
  · have back : ∀ c (t : Sl), (ρ.set i (.val (.list xs)))[c]? = some t → t.mut = true → ∃ t' : Sl, ρ[c]? = some t' ∧ t'.mut = true := fun c t ec mc => by
      by_cases hc : i = c
      · subst hc
        have hi : i < ρ.length := by
          have := (List.getElem?_eq_some_iff.mp ec).1
          simpa using this
        rw [List.getElem?_set_self hi] at ec
        cases ec
        cases mc
      · rw [List.getElem?_set_ne hc] at ec; exact ⟨t, ec, mc⟩
    obtain ⟨t', ea', ma'⟩ := back a t ea mt
    obtain ⟨u', eb', mb'⟩ := back b u eb mu
    exact r.dis a b t' u' q hab ea' eb' ma' mb' pa pb
end
end Mp

set_option Elab.async false
set_option linter.all false
set_option maxRecDepth 100000
/-! Mp2: what an expression means as a function of the slots; names, constants, operators, comparisons, tests. -/
namespace Mp
open PySem L2

abbrev EX := Str → Hp → Prop
abbrev Env := List Sl
def Out {α : Type} (E : EX) (G H : Hp) (x : R α) (k : α → Hp → Hp → Prop) : Prop := match x with
  | .ok a => ∀ G' H', Gw G H G' H' → k a G' H'
  | .exc c => ∀ G' H', Gw G H G' H' → E c H'
  | .bad => False
section
variable {α β : Type} {E : EX} {G H G1 H1 : Hp} {x : R α} {f : α → R β} {k k' : α → Hp → Hp → Prop} {kb : β → Hp → Hp → Prop}
theorem Out.gw (h : Out E G H x k) (g : Gw G H G1 H1) : Out E G1 H1 x k := by
  cases x with
  | ok a => exact fun G' H' g' => h G' H' (g.trans g')
  | exc c => exact fun G' H' g' => h G' H' (g.trans g')
  | bad => exact h
theorem Out.bind (h : Out E G H (x.bind f) kb) : Out E G H x (fun a G1 H1 => Out E G1 H1 (f a) kb) := by
  cases x with
  | ok a =>
    intro G1 H1 g
    exact Out.gw (x := f a) h g
  | exc c => exact h
  | bad => exact h
theorem Out.imp (h : Out E G H x k) (m : ∀ a G' H', Gw G H G' H' → k a G' H' → k' a G' H') : Out E G H x k' := by
  cases x with
  | ok a => exact fun G' H' g' => m a G' H' g' (h G' H' g')
  | exc c => exact h
  | bad => exact h
theorem Out.here {a : α} (h : Out E G H (.ok a) k) (e : Same G H) : k a G H := h G H (Gw.refl e)
end
def ofO {α : Type} : Option α → R α
  | some a => .ok a
  | none => .bad

/-- as Rep, where the outermost list or dict may be one's own -/
def RB (K : PySem.W.Frag) (G H : Hp) (v : V) (d : D) : Prop := Rep K G v d ∨ (∃ p vs ds, v = .ref p ∧ d = .list ds ∧ H p = some (.lst vs) ∧ RepL K G vs ds) ∨ ∃ p kv ds, v = .ref p ∧ d = .dict ds ∧ H p = some (.dK kv) ∧ RepK K G kv ds
inductive RBL (K : PySem.W.Frag) (G H : Hp) : List V → List D → Prop
  | nil : RBL K G H [] []
  | cons {v : V} {vs : List V} {d : D} {ds : List D} : RB K G H v d → RBL K G H vs ds → RBL K G H (v :: vs) (d :: ds)
section
variable {K : PySem.W.Frag} {G H G' H' : Hp} {v : V} {d : D} {vs : List V} {ds : List D}
theorem RB.gw (h : RB K G H v d) (g : Gw G H G' H') : RB K G' H' v d := by
  rcases h with h | ⟨p, ws, es, rfl, rfl, h1, h2⟩ | ⟨p, ws, es, rfl, rfl, h1, h2⟩
  · exact .inl (h.mono g.1)
  · exact .inr (.inl ⟨p, ws, es, rfl, rfl, g.2.1 _ _ h1, h2.mono g.1⟩)
  · exact .inr (.inr ⟨p, ws, es, rfl, rfl, g.2.1 _ _ h1, h2.mono g.1⟩)
theorem RBL.gw (g : Gw G H G' H') : ∀ {vs : List V} {ds : List D}, RBL K G H vs ds → RBL K G' H' vs ds
  | _, _, .nil => .nil
  | _, _, .cons h t => .cons (h.gw g) (RBL.gw g t)
/-- seen over the whole heap -/
theorem RB.rep (h : RB K G H v d) (e : Same G H) : Rep K H v d := by
  rcases h with h | ⟨p, ws, es, rfl, rfl, h1, h2⟩ | ⟨p, ws, es, rfl, rfl, h1, h2⟩
  · exact h.mono e
  · exact .lst h1 (h2.mono e)
  · exact .dic (.inl h1) (h2.mono e)
theorem RB.lst {ds : List D} (h : RB K G H v (.list ds)) (e : Same G H) : ∃ p vs, v = .ref p ∧ H p = some (.lst vs) ∧ RepL K G vs ds := by
  rcases h with h | ⟨p, ws, es, rfl, q, h1, h2⟩ | ⟨p, ws, es, rfl, q, h1, h2⟩
  · cases h with
    | lst h1 h2 => exact ⟨_, _, rfl, e _ _ h1, h2⟩
  · cases q; exact ⟨p, ws, rfl, h1, h2⟩
  · cases q
theorem RB.tup {ds : List D} (h : RB K G H v (.tuple ds)) : ∃ p vs, v = .ref p ∧ SqT K G p vs ∧ RepL K G vs ds := by
  rcases h with h | ⟨p, ws, es, rfl, q, h1, h2⟩ | ⟨p, ws, es, rfl, q, h1, h2⟩
  · cases h with
    | tup h1 h2 => exact ⟨_, _, rfl, h1, h2⟩
  · cases q
  · cases q
theorem RB.scr {ds : List D} (h : RB K G H v (.dict [(.none, .list ds)])) : ∃ p vs, v = .ref p ∧ SqL K G p vs ∧ RepL K G vs ds := by
  have no : ∀ {kv : List (Key × V)}, ¬ RepK K G kv [(.none, .list ds)] := fun {kv} h => by
    generalize hz : [(PyData.none, PyData.list ds)] = z at h
    cases h with
    | nil => cases hz
    | @cons k v kvs d ds' r t =>
      injection hz with h1 h2
      injection h1 with h3 h4
      cases k <;> cases h3
  rcases h with h | ⟨p, ws, es, rfl, q, h1, h2⟩ | ⟨p, ws, es, rfl, q, h1, h2⟩
  · generalize hz : PyData.dict [(PyData.none, PyData.list ds)] = z at h
    cases h with
    | scr h1 h2 => cases hz; exact ⟨_, _, rfl, h1, h2⟩
    | dic h1 h2 => cases hz; exact (no h2).elim
    | non => cases hz
    | bl b => cases hz
    | int i => cases hz
    | str x => cases hz
    | lst h1 h2 => cases hz
    | tup h1 h2 => cases hz
  · cases q
  · cases q; exact (no h2).elim
theorem RB.int {i : Int} (h : RB K G H v (.int i)) : v = .int i := by
  rcases h with h | ⟨p, ws, es, rfl, q, h1, h2⟩ | ⟨p, ws, es, rfl, q, h1, h2⟩
  · cases h; rfl
  · cases q
  · cases q
theorem RB.str {x : Str} (h : RB K G H v (.str x)) : v = .str x := by
  rcases h with h | ⟨p, ws, es, rfl, q, h1, h2⟩ | ⟨p, ws, es, rfl, q, h1, h2⟩
  · cases h; rfl
  · cases q
  · cases q
theorem RB.bl {b : Bool} (h : RB K G H v (.bool b)) : v = .bl b := by
  rcases h with h | ⟨p, ws, es, rfl, q, h1, h2⟩ | ⟨p, ws, es, rfl, q, h1, h2⟩
  · cases h; rfl
  · cases q
  · cases q
theorem RB.non (h : RB K G H v .none) : v = .non := by
  rcases h with h | ⟨p, ws, es, rfl, q, h1, h2⟩ | ⟨p, ws, es, rfl, q, h1, h2⟩
  · cases h; rfl
  · cases q
  · cases q
mutual
theorem Rep.dp : ∀ (d : D) {v : V}, Rep K G v d → d.plain = true → Dp K G v d
  | .none, _, h, _ => by cases h; exact .non
  | .bool b, _, h, _ => by cases h; exact .bl b
  | .int i, _, h, _ => by cases h; exact .int i
  | .str x, _, h, _ => by cases h; exact .str x
  | .list ds, _, h, p => by
    cases h with
    | lst h1 h2 => exact .lst (SqL.of h1) (RepL.dp ds h2 (by simpa [PyData.plain] using p))
  | .tuple ds, _, h, p => by
    cases h with
    | tup h1 h2 => exact .tup h1 (RepL.dp ds h2 (by simpa [PyData.plain] using p))
  | .dict _, _, _, p => by simp [PyData.plain] at p
theorem RepL.dp : ∀ (ds : List D) {vs : List V}, RepL K G vs ds → PyData.plainAll ds = true → DpAll K G vs ds
  | [], _, h, _ => by cases h; exact .nil
  | d :: ds, _, h, p => by
    have p' : d.plain = true ∧ PyData.plainAll ds = true := by simpa [PyData.plainAll] using p
    cases h with
    | cons h1 h2 => exact .cons (Rep.dp d h1 p'.1) (RepL.dp ds h2 p'.2)
end
end

/-! ### readings -/
section
variable (K : PySem.W.Frag) (E : EX)
def rdE (f : Env → R D) : TE := fun σ H Q => ∃ B G ρ, Rel K B G H ρ σ ∧ Out E G H (f ρ) fun d G' H' => ∀ v, Rep K G' v d → Q v H'
def rdB (f : Env → R D) : TE := fun σ H Q => ∃ B G ρ, Rel K B G H ρ σ ∧ Out E G H (f ρ) fun d G' H' => ∀ v, RB K G' H' v d → Q v H'
def rdF (f : Env → R (List D)) : TE := fun σ H Q => ∃ B G ρ, Rel K B G H ρ σ ∧ Out E G H (f ρ) fun xs G' H' => ∀ p vs, H p = none → G' p = none → H' p = some (.lst vs) → RepL K G' vs xs → Q (.ref p) H'
def rdT (f : Env → R Bool) : TT := fun σ H Q => ∃ B G ρ, Rel K B G H ρ σ ∧ Out E G H (f ρ) fun b G' H' => Q b H'
def rdA (f : Env → R (List D)) : TA := fun σ H Q => ∃ B G ρ, Rel K B G H ρ σ ∧ Out E G H (f ρ) fun ds G' H' => ∀ vs, RBL K G' H' vs ds → Q vs H'
def rdAE (f : Env → R (List D)) : TA := fun σ H Q => ∃ B G ρ, Rel K B G H ρ σ ∧ Out E G H (f ρ) fun ds G' H' => ∀ vs, RepL K G' vs ds → Q vs H'
end
abbrev JE (X : Cx) (E : EX) (e : Expr) (f : Env → R D) : Prop := PE X e (rdE X.K E f)
abbrev JB (X : Cx) (E : EX) (e : Expr) (f : Env → R D) : Prop := PE X e (rdB X.K E f)
abbrev JF (X : Cx) (E : EX) (e : Expr) (f : Env → R (List D)) : Prop := PE X e (rdF X.K E f)
abbrev JT (X : Cx) (E : EX) (e : Expr) (f : Env → R Bool) : Prop := PT X e (rdT X.K E f)
abbrev JW (X : Cx) (E : EX) (e : Expr) (f : Env → R Bool) : Prop := PW X e (rdT X.K E f)
abbrev JA (X : Cx) (E : EX) (es : List Expr) (f : Env → R (List D)) : Prop := PA X es (rdA X.K E f)
abbrev JAE (X : Cx) (E : EX) (es : List Expr) (f : Env → R (List D)) : Prop := PA X es (rdAE X.K E f)
section
variable {X : Cx} {E : EX} {e a b c : Expr} {es : List Expr} {pos : Pos}
theorem pe_imp {t t' : TE} (h : PE X e t) (m : ∀ σ H Q, t' σ H Q → t σ H Q) : PE X e t' := ⟨fun pins s σ H Q I q => h.run pins s σ H Q I (m σ H Q q)⟩
theorem pt_imp {t t' : TT} (h : PT X e t) (m : ∀ σ H Q, t' σ H Q → t σ H Q) : PT X e t' := ⟨fun pins s σ H Q I q => h.run pins s σ H Q I (m σ H Q q)⟩
theorem pw_imp {t t' : TT} (h : PW X e t) (m : ∀ σ H Q, t' σ H Q → t σ H Q) : PW X e t' := ⟨fun w pins s σ H Q I q => h.run w pins s σ H Q I (m σ H Q q)⟩
theorem pa_imp {t t' : TA} (h : PA X es t) (m : ∀ σ H Q, t' σ H Q → t σ H Q) : PA X es t' := ⟨fun pos pins s σ H Q I q => h.run pos pins s σ H Q I (m σ H Q q)⟩
theorem JB.ofE {f : Env → R D} (h : JE X E e f) : JB X E e f := pe_imp h fun σ H Q ⟨B, G, ρ, r, o⟩ => ⟨B, G, ρ, r, o.imp fun d G' H' g k v hv => k v (.inl hv)⟩
def eL (f : Env → R (List D)) : Env → R D := fun ρ => (f ρ).map .list
theorem JE.ofF {f : Env → R (List D)} (h : JF X E e f) : JE X E e (eL f) := pe_imp h fun σ H Q ⟨B, G, ρ, r, o⟩ => ⟨B, G, ρ, r, by
  unfold eL at o
  cases hf : f ρ with
  | ok xs =>
    rw [hf] at o
    intro G' H' g p vs hp hn hl hr
    exact o _ H' (g.share hp hn hl) (.ref p) (.lst upd_same (hr.mono (same_new hn)))
  | exc c => rw [hf] at o; exact o
  | bad => rw [hf] at o; exact o⟩
theorem JB.ofF {f : Env → R (List D)} (h : JF X E e f) : JB X E e (eL f) := pe_imp h fun σ H Q ⟨B, G, ρ, r, o⟩ => ⟨B, G, ρ, r, by
  unfold eL at o
  cases hf : f ρ with
  | ok xs =>
    rw [hf] at o
    intro G' H' g p vs hp hn hl hr
    exact o G' H' g (.ref p) (.inr (.inl ⟨p, vs, xs, rfl, rfl, hl, hr⟩))
  | exc c => rw [hf] at o; exact o
  | bad => rw [hf] at o; exact o⟩
/-- the same meaning -/
theorem JE.to {f g : Env → R D} (h : JE X E e f) (q : ∀ ρ, f ρ = g ρ) : JE X E e g := (funext q : f = g) ▸ h

/-! ### names and constants -/
def eVar (i : Nat) : Env → R D := fun ρ => match ρ[i]? with
  | some (.val d) => .ok d
  | _ => .bad
def bVar (i : Nat) : Env → R D := fun ρ => match ρ[i]? with
  | some (.val d) => .ok d
  | some (.own xs) => .ok (.list xs)
  | some (.hold xs) => .ok (.list xs)
  | some (.dct kvs) => .ok (.dict kvs)
  | _ => .bad
theorem je_var {i : Nat} {x : Str} (h : PE X (.Name x pos) (tVar i)) : JE X E (.Name x pos) (eVar i) := pe_imp h fun σ H Q ⟨B, G, ρ, r, o⟩ => by
  unfold eVar at o
  cases e : ρ[i]? with
  | none => rw [e] at o; exact o.elim
  | some s =>
    cases s with
    | val d =>
      rw [e] at o
      obtain ⟨v, e1, h1⟩ := r.sl i _ e
      exact ⟨v, e1, o.here r.ex v h1⟩
    | _ => rw [e] at o; exact o.elim
theorem jb_var {i : Nat} {x : Str} (h : PE X (.Name x pos) (tVar i)) : JB X E (.Name x pos) (bVar i) := pe_imp h fun σ H Q ⟨B, G, ρ, r, o⟩ => by
  unfold bVar at o
  cases e : ρ[i]? with
  | none => rw [e] at o; exact o.elim
  | some s =>
    cases s with
    | val d =>
      rw [e] at o
      obtain ⟨v, e1, h1⟩ := r.sl i _ e
      exact ⟨v, e1, o.here r.ex v (.inl h1)⟩
    | emp => rw [e] at o; exact o.elim
    | pin => rw [e] at o; exact o.elim
    | exn a => rw [e] at o; exact o.elim
    | own xs =>
      rw [e] at o
      obtain ⟨p, vs, e1, h1, h2, h3, h4⟩ := r.sl i _ e
      exact ⟨.ref p, e1, o.here r.ex _ (.inr (.inl ⟨p, vs, xs, rfl, rfl, h1, h4⟩))⟩
    | hold xs =>
      rw [e] at o
      obtain ⟨p, vs, e0, e1, h1, h2, h3, h4⟩ := r.sl i _ e
      exact ⟨.ref p, e1, o.here r.ex _ (.inr (.inl ⟨p, vs, xs, rfl, rfl, h1, h4⟩))⟩
    | dct xs =>
      rw [e] at o
      obtain ⟨p, vs, e1, h1, h2, h3, h4⟩ := r.sl i _ e
      exact ⟨.ref p, e1, o.here r.ex _ (.inr (.inr ⟨p, vs, xs, rfl, rfl, h1, h4⟩))⟩
def eC (d : D) : Env → R D := fun _ => .ok d
theorem je_c {v : V} {d : D} (h : PE X e (tC v)) (hr : ∀ G, Rep X.K G v d) : JE X E e (eC d) := pe_imp h fun σ H Q ⟨B, G, ρ, r, o⟩ => o.here r.ex v (hr G)
theorem je_int {i : Int} {j : Nat} : JE X E (.Constant (.int i) j pos) (eC (.int i)) := je_c pe_int fun _ => .int i
theorem je_bl {i : Bool} {j : Nat} : JE X E (.Constant (.bool i) j pos) (eC (.bool i)) := je_c pe_bl fun _ => .bl i
theorem je_non {j : Nat} : JE X E (.Constant .none j pos) (eC .none) := je_c pe_non fun _ => .non
theorem je_str {i : Str} {j : Nat} : JE X E (.Constant (.str i) j pos) (eC (.str i)) := je_c pe_str fun _ => .str i
/-- a constant of the module -/
structure Con (K : PySem.W.Frag) (mg : Str → Option Value) (x : Str) (d : D) : Prop where
  ex : ∃ u v, mg x = some u ∧ RelV v u ∧ ∀ G, Rep K G v d
theorem je_glob {x : Str} {d : D} (c : Con X.K X.mg x d) (hg : Gl X x) (hd : (x == ("__debug__" : Str)) = false := by decide) : JE X E (.Name x pos) (eC d) := by
  obtain ⟨u, v, h1, h2, h3⟩ := c.ex
  exact je_c (pe_glob hg h1 h2 hd) h3

/-! ### operators of two -/
/-- a rule serves a function of data -/
def Srv2 (K : PySem.W.Frag) (r : R2) (f : D → D → Option D) : Prop := ∀ x y d e G H (Q : VK), Same G H → RB K G H x d → RB K G H y e → ∀ z, f d e = some z → (∀ v G' H', Gw G H G' H' → Rep K G' v z → Q v H') → r x y H Q
def SrvF (K : PySem.W.Frag) (r : R2) (f : D → D → Option (List D)) : Prop := ∀ x y d e G H (Q : VK), Same G H → RB K G H x d → RB K G H y e → ∀ z, f d e = some z → (∀ p vs G' H', Gw G H G' H' → H p = none → G' p = none → H' p = some (.lst vs) → RepL K G' vs z → Q (.ref p) H') → r x y H Q
def Op2 (X : Cx) (op : Value → Value → Sem Value) (f : D → D → Option D) : Prop := ∃ r, OpR X op r ∧ Srv2 X.K r f
def OpF (X : Cx) (op : Value → Value → Sem Value) (f : D → D → Option (List D)) : Prop := ∃ r, OpR X op r ∧ SrvF X.K r f
theorem Op2.or {op : Value → Value → Sem Value} {f g : D → D → Option D} (h : Op2 X op f) (h' : Op2 X op g) : Op2 X op (fun x y => (f x y).orElse fun _ => g x y) := by
  obtain ⟨r, h1, h2⟩ := h
  obtain ⟨r', h1', h2'⟩ := h'
  refine ⟨_, h1.or h1', fun x y d e G H Q s rx ry z hz k => ?_⟩
  dsimp only at hz
  cases hf : f d e with
  | some w =>
    have : w = z := by
      rw [hf] at hz
      exact Option.some.inj hz
    subst this
    exact .inl (h2 x y d e G H Q s rx ry w hf k)
  | none =>
    rw [hf] at hz
    exact .inr (h2' x y d e G H Q s rx ry z hz k)
theorem OpF.op2 {op : Value → Value → Sem Value} {f : D → D → Option (List D)} (h : OpF X op f) : Op2 X op (fun x y => (f x y).map .list) := by
  obtain ⟨r, h1, h2⟩ := h
  refine ⟨r, h1, fun x y d e G H Q s rx ry z hz k => ?_⟩
  dsimp only at hz
  cases hf : f d e with
  | none => rw [hf] at hz; cases hz
  | some w =>
    rw [hf] at hz
    cases hz
    exact h2 x y d e G H Q s rx ry w hf fun p vs G' H' g hp hn hl hr => k (.ref p) _ H' (g.share hp hn hl) (.lst upd_same (hr.mono (same_new hn)))
def e2 (f : D → D → Option D) (fa fb : Env → R D) : Env → R D := fun ρ => (fa ρ).bind fun x => (fb ρ).bind fun y => ofO (f x y)
def l2 (f : D → D → Option (List D)) (fa fb : Env → R D) : Env → R (List D) := fun ρ => (fa ρ).bind fun x => (fb ρ).bind fun y => ofO (f x y)
theorem top2 {r : R2} {f : D → D → Option D} {fa fb : Env → R D} (h2 : Srv2 X.K r f) : ∀ σ H Q, rdE X.K E (e2 f fa fb) σ H Q → tOp r (rdB X.K E fa) (rdB X.K E fb) σ H Q := fun σ H Q ⟨B, G, ρ, rl, o⟩ =>
  ⟨B, G, ρ, rl, o.bind.imp fun x G1 H1 g1 o1 v rv => ⟨B, G1, ρ, rl.gw g1, o1.bind.imp fun y G2 H2 g2 o2 w rw => by
    cases hf : f x y with
    | none => rw [hf] at o2; exact o2.elim
    | some z =>
      rw [hf] at o2
      exact h2 v w x y G2 H2 Q g2.2.2.1 (rv.gw g2) rw z hf fun v' G' H' g' r' => o2 G' H' g' v' r'⟩⟩
theorem topF {r : R2} {f : D → D → Option (List D)} {fa fb : Env → R D} (h2 : SrvF X.K r f) : ∀ σ H Q, rdF X.K E (l2 f fa fb) σ H Q → tOp r (rdB X.K E fa) (rdB X.K E fb) σ H Q := fun σ H Q ⟨B, G, ρ, rl, o⟩ =>
  ⟨B, G, ρ, rl, o.bind.imp fun x G1 H1 g1 o1 v rv => ⟨B, G1, ρ, rl.gw g1, o1.bind.imp fun y G2 H2 g2 o2 w rw => by
    cases hf : f x y with
    | none => rw [hf] at o2; exact o2.elim
    | some z =>
      rw [hf] at o2
      exact h2 v w x y G2 H2 Q g2.2.2.1 (rv.gw g2) rw z hf fun p vs G' H' g' hp hn hl hr => o2 G' H' g' p vs ((g1.trans g2).2.1.free hp) hn hl hr⟩⟩
theorem je_bin {op : Operator} {f : D → D → Option D} {fa fb : Env → R D} (ho : Op2 X (binaryOp op) f) (ha : JB X E a fa) (hb : JB X E b fb) : JE X E (.BinOp a op b pos) (e2 f fa fb) := by
  obtain ⟨r, h1, h2⟩ := ho
  exact pe_imp (pe_op h1 ha hb) (top2 h2)
theorem jf_bin {op : Operator} {f : D → D → Option (List D)} {fa fb : Env → R D} (ho : OpF X (binaryOp op) f) (ha : JB X E a fa) (hb : JB X E b fb) : JF X E (.BinOp a op b pos) (l2 f fa fb) := by
  obtain ⟨r, h1, h2⟩ := ho
  exact pe_imp (pe_op h1 ha hb) (topF h2)
theorem je_cmp {op : CmpOp} {f : D → D → Option D} {fa fb : Env → R D} (ho : Op2 X (compareOp op) f) (ha : JB X E a fa) (hb : JB X E b fb) (hm : behindInMarks op b = false) : JE X E (.Compare a [op] [b] pos) (e2 f fa fb) := by
  obtain ⟨r, h1, h2⟩ := ho
  exact pe_imp (pe_cmpR h1 ha hb hm) (top2 h2)
def toT (f : Env → R D) : Env → R Bool := fun ρ => (f ρ).bind fun
  | .bool k => .ok k
  | _ => .bad
theorem tot {t : TE} {f : Env → R D} (m : ∀ σ H Q, rdE X.K E f σ H Q → t σ H Q) : ∀ σ H Q, rdT X.K E (toT f) σ H Q → tTest t σ H Q := fun σ H Q ⟨B, G, ρ, rl, o⟩ => m σ H _ ⟨B, G, ρ, rl, o.bind.imp fun d G1 H1 g1 o1 v hv => by
  cases d with
  | bool k =>
    cases hv
    exact ⟨k, rfl, Out.here (k := fun b G' H' => Q b H') o1 g1.2.2.1⟩
  | _ => exact o1.elim⟩
theorem jt_cmp {op : CmpOp} {f : D → D → Option D} {fa fb : Env → R D} (ho : Op2 X (compareOp op) f) (ha : JB X E a fa) (hb : JB X E b fb) (hm : behindInMarks op b = false) : JT X E (.Compare a [op] [b] pos) (toT (e2 f fa fb)) := by
  obtain ⟨r, h1, h2⟩ := ho
  exact pt_imp (pt_cmpR h1 ha hb hm) (tot (top2 h2))
/-- an expression whose value is a truth, as a test -/
theorem jt_val {f : Env → R D} (h : JE X E e f) (he : ∀ whole, isTrue e X.env whole = (do let v ← whole; standAt e.pos; holding [v] (truthy v)) := by intro _; rfl) : JT X E e (toT f) :=
  pt_imp (pt_val h he) (tot (t := rdE X.K E f) fun _ _ _ q => q)
/-- a < b < c -/
def eCh (f g : D → D → Option D) (fa fb fc : Env → R D) : Env → R D := fun ρ => (fa ρ).bind fun x => (fb ρ).bind fun y => match f x y with
  | some (.bool true) => (fc ρ).bind fun z => ofO (g y z)
  | some (.bool false) => .ok (.bool false)
  | _ => .bad
theorem topC {r r' : R2} {f g : D → D → Option D} {fa fb fc : Env → R D} (h2 : Srv2 X.K r f) (h2' : Srv2 X.K r' g) : ∀ σ H Q, rdE X.K E (eCh f g fa fb fc) σ H Q → tChain r r' (rdB X.K E fa) (rdB X.K E fb) (rdB X.K E fc) σ H Q := fun σ H Q ⟨B, G, ρ, rl, o⟩ =>
  ⟨B, G, ρ, rl, o.bind.imp fun x G1 H1 g1 o1 v rv => ⟨B, G1, ρ, rl.gw g1, o1.bind.imp fun y G2 H2 g2 o2 w rw => by
    cases hf : f x y with
    | none => rw [hf] at o2; exact o2.elim
    | some z =>
      rw [hf] at o2
      refine h2 v w x y G2 H2 _ g2.2.2.1 (rv.gw g2) rw z hf fun v' G3 H3 g3 r' => ?_
      cases z with
      | bool k =>
        cases r'
        refine ⟨k, rfl, ?_⟩
        cases k with
        | true =>
          rw [if_pos rfl]
          have o3 : Out E G2 H2 ((fc ρ).bind fun z => ofO (g y z)) _ := o2
          refine ⟨B, G3, ρ, rl.gw ((g1.trans g2).trans g3), (o3.gw g3).bind.imp fun u G4 H4 g4 o4 w' rw' => ?_⟩
          cases hg : g y u with
          | none => rw [hg] at o4; exact o4.elim
          | some z' =>
            rw [hg] at o4
            exact h2' w w' y u G4 H4 Q g4.2.2.1 ((rw.gw g3).gw g4) rw' z' hg fun v5 G5 H5 g5 r5 => o4 G5 H5 g5 v5 r5
        | false =>
          rw [if_neg (by decide)]
          exact o2 G3 H3 g3 _ (.bl false)
      | _ => exact o2.elim⟩⟩
theorem je_chain {op op' : CmpOp} {f g : D → D → Option D} {fa fb fc : Env → R D} (ho : Op2 X (compareOp op) f) (ho' : Op2 X (compareOp op') g) (ha : JB X E a fa) (hb : JB X E b fb) (hc : JB X E c fc) (hm : lastMarks [op, op'] [b, c] = false := by with_unfolding_all rfl) : JE X E (.Compare a [op, op'] [b, c] pos) (eCh f g fa fb fc) := by
  obtain ⟨r, h1, h2⟩ := ho
  obtain ⟨r', h1', h2'⟩ := ho'
  exact pe_imp (pe_chain h1 h1' ha hb hc hm) (topC h2 h2')
theorem jt_chain {op op' : CmpOp} {f g : D → D → Option D} {fa fb fc : Env → R D} (ho : Op2 X (compareOp op) f) (ho' : Op2 X (compareOp op') g) (ha : JB X E a fa) (hb : JB X E b fb) (hc : JB X E c fc) (hm : lastMarks [op, op'] [b, c] = false := by with_unfolding_all rfl) : JT X E (.Compare a [op, op'] [b, c] pos) (toT (eCh f g fa fb fc)) := by
  obtain ⟨r, h1, h2⟩ := ho
  obtain ⟨r', h1', h2'⟩ := ho'
  exact pt_imp (pt_chain h1 h1' ha hb hc hm) (tot (topC h2 h2'))

/-! ### and, or, not, if -/
def tA (f g : Env → R Bool) : Env → R Bool := fun ρ => (f ρ).bind fun b => if b = true then g ρ else .ok false
def tO (f g : Env → R Bool) : Env → R Bool := fun ρ => (f ρ).bind fun b => if b = true then .ok true else g ρ
def tN (f : Env → R Bool) : Env → R Bool := fun ρ => (f ρ).map fun b => !b
variable {rest : List Expr} {f g : Env → R Bool}
theorem rd_and : ∀ σ H Q, rdT X.K E (tA f g) σ H Q → tAnd (rdT X.K E f) (rdT X.K E g) σ H Q := fun σ H Q ⟨B, G, ρ, rl, o⟩ => ⟨B, G, ρ, rl, o.bind.imp fun b G1 H1 g1 o1 => by
  cases b with
  | true => exact ⟨B, G1, ρ, rl.gw g1, o1⟩
  | false => exact Out.here (k := fun b G' H' => Q b H') o1 g1.2.2.1⟩
theorem rd_or : ∀ σ H Q, rdT X.K E (tO f g) σ H Q → tOr (rdT X.K E f) (rdT X.K E g) σ H Q := fun σ H Q ⟨B, G, ρ, rl, o⟩ => ⟨B, G, ρ, rl, o.bind.imp fun b G1 H1 g1 o1 => by
  cases b with
  | false => exact ⟨B, G1, ρ, rl.gw g1, o1⟩
  | true => exact Out.here (k := fun b G' H' => Q b H') o1 g1.2.2.1⟩
theorem jw_and (ha : JT X E a f) (hb : JW X E (.BoolOp .And (b :: rest) pos) g) : JW X E (.BoolOp .And (a :: b :: rest) pos) (tA f g) := pw_imp (pw_and ha hb) rd_and
theorem jw_or (ha : JT X E a f) (hb : JW X E (.BoolOp .Or (b :: rest) pos) g) : JW X E (.BoolOp .Or (a :: b :: rest) pos) (tO f g) := pw_imp (pw_or ha hb) rd_or
theorem jw_and1 (ha : JT X E a f) : JW X E (.BoolOp .And [a] pos) f := pw_and1 ha
theorem jw_or1 (ha : JT X E a f) : JW X E (.BoolOp .Or [a] pos) f := pw_or1 ha
theorem jt_w (h : JW X E a f) : JT X E a f := PW.pt h
theorem jt_not (ha : JT X E a f) : JT X E (.UnaryOp .Not a pos) (tN f) := pt_imp (pt_not ha) fun σ H Q ⟨B, G, ρ, rl, o⟩ => ⟨B, G, ρ, rl, by
  cases hf : f ρ with
  | ok b => unfold tN at o; rw [hf] at o; exact o
  | exc c => unfold tN at o; rw [hf] at o; exact o
  | bad => unfold tN at o; rw [hf] at o; exact o⟩
def eA (f g : Env → R D) : Env → R D := fun ρ => (f ρ).bind fun
  | .bool true => g ρ
  | .bool false => .ok (.bool false)
  | _ => .bad
def eO (f g : Env → R D) : Env → R D := fun ρ => (f ρ).bind fun
  | .bool false => g ρ
  | .bool true => .ok (.bool true)
  | _ => .bad
def eN (f : Env → R D) : Env → R D := fun ρ => (f ρ).bind fun
  | .bool b => .ok (.bool (!b))
  | _ => .bad
theorem je_and {f g : Env → R D} (ha : JE X E a f) (hb : JE X E (.BoolOp .And (b :: rest) pos) g) : JE X E (.BoolOp .And (a :: b :: rest) pos) (eA f g) := pe_imp (pe_and ha hb) fun σ H Q ⟨B, G, ρ, rl, o⟩ => ⟨B, G, ρ, rl, o.bind.imp fun d G1 H1 g1 o1 v hv => by
  cases d with
  | bool k =>
    cases hv
    refine ⟨k, rfl, ?_⟩
    cases k with
    | true => exact ⟨B, G1, ρ, rl.gw g1, o1⟩
    | false => exact Out.here (k := fun d G' H' => ∀ v, Rep X.K G' v d → Q v H') o1 g1.2.2.1 _ (.bl false)
  | _ => exact o1.elim⟩
theorem je_or {f g : Env → R D} (ha : JE X E a f) (hb : JE X E (.BoolOp .Or (b :: rest) pos) g) : JE X E (.BoolOp .Or (a :: b :: rest) pos) (eO f g) := pe_imp (pe_or ha hb) fun σ H Q ⟨B, G, ρ, rl, o⟩ => ⟨B, G, ρ, rl, o.bind.imp fun d G1 H1 g1 o1 v hv => by
  cases d with
  | bool k =>
    cases hv
    refine ⟨k, rfl, ?_⟩
    cases k with
    | false => exact ⟨B, G1, ρ, rl.gw g1, o1⟩
    | true => exact Out.here (k := fun d G' H' => ∀ v, Rep X.K G' v d → Q v H') o1 g1.2.2.1 _ (.bl true)
  | _ => exact o1.elim⟩
theorem je_one {op : BoolOp} {f : Env → R D} (ha : JE X E a f) : JE X E (.BoolOp op [a] pos) f := pe_one ha
theorem je_not {f : Env → R D} (ha : JE X E a f) : JE X E (.UnaryOp .Not a pos) (eN f) := pe_imp (pe_not ha) fun σ H Q ⟨B, G, ρ, rl, o⟩ => ⟨B, G, ρ, rl, o.bind.imp fun d G1 H1 g1 o1 v hv => by
  cases d with
  | bool k =>
    cases hv
    exact ⟨k, rfl, Out.here (k := fun d G' H' => ∀ v, Rep X.K G' v d → Q v H') o1 g1.2.2.1 _ (.bl _)⟩
  | _ => exact o1.elim⟩
def eI {α : Type} (t : Env → R Bool) (f g : Env → R α) : Env → R α := fun ρ => (t ρ).bind fun b => if b = true then f ρ else g ρ
theorem je_if {t : Env → R Bool} {f g : Env → R D} (hc : JT X E c t) (ha : JE X E a f) (hb : JE X E b g) : JE X E (.IfExp c a b pos) (eI t f g) := pe_imp (pe_ifExp hc ha hb) fun σ H Q ⟨B, G, ρ, rl, o⟩ => ⟨B, G, ρ, rl, o.bind.imp fun k G1 H1 g1 o1 => by
  cases k with
  | true => exact ⟨B, G1, ρ, rl.gw g1, o1⟩
  | false => exact ⟨B, G1, ρ, rl.gw g1, o1⟩⟩
theorem jb_if {t : Env → R Bool} {f g : Env → R D} (hc : JT X E c t) (ha : JB X E a f) (hb : JB X E b g) : JB X E (.IfExp c a b pos) (eI t f g) := pe_imp (pe_ifExp hc ha hb) fun σ H Q ⟨B, G, ρ, rl, o⟩ => ⟨B, G, ρ, rl, o.bind.imp fun k G1 H1 g1 o1 => by
  cases k with
  | true => exact ⟨B, G1, ρ, rl.gw g1, o1⟩
  | false => exact ⟨B, G1, ρ, rl.gw g1, o1⟩⟩

/-! ### operators of one -/
def Srv1 (K : PySem.W.Frag) (r : V → Hp → VK → Prop) (f : D → Option D) : Prop := ∀ x d G H (Q : VK), Same G H → RB K G H x d → ∀ z, f d = some z → (∀ v G' H', Gw G H G' H' → Rep K G' v z → Q v H') → r x H Q
def e1 (f : D → Option D) (fa : Env → R D) : Env → R D := fun ρ => (fa ρ).bind fun x => ofO (f x)
theorem je_un {op : UnaryOp} {r : V → Hp → VK → Prop} {f : D → Option D} {fa : Env → R D} (ho : UnR X (unaryOp op) r) (h : Srv1 X.K r f) (ha : JB X E a fa) : JE X E (.UnaryOp op a pos) (e1 f fa) := pe_imp (pe_un ho ha) fun σ H Q ⟨B, G, ρ, rl, o⟩ =>
  ⟨B, G, ρ, rl, o.bind.imp fun x G1 H1 g1 o1 v rv => by
    cases hf : f x with
    | none => rw [hf] at o1; exact o1.elim
    | some z =>
      rw [hf] at o1
      exact h v x G1 H1 Q g1.2.2.1 rv z hf fun v' G' H' g' r' => o1 G' H' g' v' r'⟩

/-! ### arguments, displays -/
def aNil : Env → R (List D) := fun _ => .ok []
def aCons (f : Env → R D) (g : Env → R (List D)) : Env → R (List D) := fun ρ => (f ρ).bind fun x => (g ρ).bind fun xs => .ok (x :: xs)
theorem ja_nil : JA X E [] aNil := pa_imp pa_nil fun σ H Q ⟨B, G, ρ, rl, o⟩ => o.here rl.ex [] .nil
theorem ja_cons {f : Env → R D} {g : Env → R (List D)} (h : JB X E e f) (hr : JA X E es g) (hs : starEach (e :: es) X.env = (false, eval e X.env) :: starEach es X.env := by rfl) : JA X E (e :: es) (aCons f g) :=
  pa_imp (pa_cons h hr hs) fun σ H Q ⟨B, G, ρ, rl, o⟩ => ⟨B, G, ρ, rl, o.bind.imp fun x G1 H1 g1 o1 v rv => ⟨B, G1, ρ, rl.gw g1, o1.bind.imp fun xs G2 H2 g2 o2 vs rvs => Out.here (k := fun ds G' H' => ∀ vs, RBL X.K G' H' vs ds → Q vs H') o2 g2.2.2.1 _ (.cons (rv.gw g2) rvs)⟩⟩
theorem jae_nil : JAE X E [] aNil := pa_imp pa_nil fun σ H Q ⟨B, G, ρ, rl, o⟩ => o.here rl.ex [] .nil
theorem jae_cons {f : Env → R D} {g : Env → R (List D)} (h : JE X E e f) (hr : JAE X E es g) (hs : starEach (e :: es) X.env = (false, eval e X.env) :: starEach es X.env := by rfl) : JAE X E (e :: es) (aCons f g) :=
  pa_imp (pa_cons h hr hs) fun σ H Q ⟨B, G, ρ, rl, o⟩ => ⟨B, G, ρ, rl, o.bind.imp fun x G1 H1 g1 o1 v rv => ⟨B, G1, ρ, rl.gw g1, o1.bind.imp fun xs G2 H2 g2 o2 vs rvs => Out.here (k := fun ds G' H' => ∀ vs, RepL X.K G' vs ds → Q vs H') o2 g2.2.2.1 _ (.cons (rv.mono g2.1) rvs)⟩⟩
/-- the longest list, text that is made -/
def LIM : Nat := 100000
theorem lim_le {n : Nat} (h : n ≤ LIM) : n ≤ sizeLine := Nat.le_trans h (by decide)
theorem lim_lt {n : Nat} (h : n < LIM) : n < sizeLine := Nat.lt_of_lt_of_le h (by decide)
def eTup (f : Env → R (List D)) : Env → R D := fun ρ => (f ρ).bind fun xs => if xs.length ≤ LIM then .ok (.tuple xs) else .bad
def lLst (f : Env → R (List D)) : Env → R (List D) := fun ρ => (f ρ).bind fun xs => if xs.length ≤ LIM then .ok xs else .bad
theorem je_tup {k : Nat} {f : Env → R (List D)} (h : JAE X E es f) : JE X E (.Tuple es k pos) (eTup f) := pe_imp (pe_tup h) fun σ H Q ⟨B, G, ρ, rl, o⟩ => ⟨B, G, ρ, rl, o.bind.imp fun xs G1 H1 g1 o1 vs rvs => by
  by_cases hl : xs.length ≤ LIM
  · rw [if_pos hl] at o1
    refine ⟨by rw [rvs.length]; exact lim_le hl, fun p hp => ?_⟩
    have hg : G1 p = none := g1.2.2.1.free hp
    exact o1 _ _ (Gw.new g1.2.2.1 hp) _ (.tup (SqT.of upd_same) (rvs.mono (same_new hg)))
  · rw [if_neg hl] at o1; exact o1.elim⟩
theorem jf_lst {f : Env → R (List D)} (h : JAE X E es f) : JF X E (.List es pos) (lLst f) := pe_imp (pe_lst h) fun σ H Q ⟨B, G, ρ, rl, o⟩ => ⟨B, G, ρ, rl, o.bind.imp fun xs G1 H1 g1 o1 vs rvs => by
  by_cases hl : xs.length ≤ LIM
  · rw [if_pos hl] at o1
    refine ⟨by rw [rvs.length]; exact lim_le hl, fun p hp => ?_⟩
    have hg : G1 p = none := g1.2.2.1.free hp
    exact o1 _ _ (Gw.own g1.2.2.1 hp) p vs (g1.2.1.free hp) hg upd_same rvs
  · rw [if_neg hl] at o1; exact o1.elim⟩
end
end Mp

set_option Elab.async false
set_option linter.all false
set_option maxRecDepth 100000
/-! Mp3: calls, methods, places, slices, what is walked, comprehensions. -/
namespace Mp
open PySem L2

/-! ### the context -/
def exk (mg : Str → Option Value) (EE : XK) : EX := fun c H' => ∀ C, mg c = some (.ref C) → EE (.ref C) none H'
structure Cxt (X : Cx) (E : EX) (k : Nat) : Prop where
  calm : X.calm = true
  nd : X.N.Nodup
  room : Room k X.A
  pass : ∃ EE, Passes (L2.CX X.prog X.w) X EE ∧ ∀ c H, E c H → exk X.mg EE c H
/-- .. where statements stand -/
structure Cxs (X : Cx) (E : EX) : Prop where
  own : PassesOwn (model X.prog X.w) X.A X.env X.xe
  stk : X.stack = X.env :: X.outer
  frm : X.env.frame = some X.env.locals
  tk : ∃ EE, Takes X (fun cls d _ H => EE cls d H) ∧ ∀ c H, E c H → exk X.mg EE c H
/-- within a comprehension nothing is raised -/
abbrev FX : EX := fun _ _ => False
theorem Cxt.blk {X : Cx} {E : EX} {k : Nat} (C : Cxt X E k) (s : Shared) (H : Hp) (scope : Scope) (cenv : PySem.Env) (fp : List Addr) : Cxt (X.blk s H scope cenv fp) FX k :=
  ⟨C.calm, C.nd, C.room, ⟨E0, passL, fun _ _ h => h.elim⟩⟩

/-! ### calls of defs -/
/-- what a def of n parameters is worth -/
def spD (K : PySem.W.Frag) (mg : Str → Option Value) (n : Nat) (g : List D → R D) : Sp := fun vs H Q EE => vs.length = n ∧ ∃ G ds, Same G H ∧ RepL K G vs ds ∧ Out (exk mg EE) G H (g ds) fun d G' H' => ∀ v, Rep K G' v d → Q v H'
/-- .. whose answer is a new list, the caller's own -/
def spL (K : PySem.W.Frag) (mg : Str → Option Value) (n : Nat) (g : List D → R (List D)) : Sp := fun vs H Q EE => vs.length = n ∧ ∃ G ds, Same G H ∧ RepL K G vs ds ∧ Out (exk mg EE) G H (g ds) fun xs G' H' => ∀ p vs, H p = none → G' p = none → H' p = some (.lst vs) → RepL K G' vs xs → Q (.ref p) H'
structure Has (P : Program) (w : World) (K : PySem.W.Frag) (mg : Str → Option Value) (base : Heap) (k : Nat) (x : Str) (n : Nat) (g : List D → R D) : Prop where
  ex : ∃ (f : Addr) (fd : FuncData) (ps : List Str), mg x = some (.ref f) ∧ FnOk P w K mg base (L2.CX P w) k f fd ps (spD K mg n g) ∧ PySem.W.keepIn K (.ref f) = true ∧ Binds K fd ps []
structure HasL (P : Program) (w : World) (K : PySem.W.Frag) (mg : Str → Option Value) (base : Heap) (k : Nat) (x : Str) (n : Nat) (g : List D → R (List D)) : Prop where
  ex : ∃ (f : Addr) (fd : FuncData) (ps : List Str), mg x = some (.ref f) ∧ FnOk P w K mg base (L2.CX P w) k f fd ps (spL K mg n g) ∧ PySem.W.keepIn K (.ref f) = true ∧ Binds K fd ps []
def mL (g : List D → R (List D)) : List D → R D := fun ds => (g ds).map .list
theorem spL_D {K : PySem.W.Frag} {mg : Str → Option Value} {n : Nat} {g : List D → R (List D)} {vs : List V} {H : Hp} {Q : VK} {EE : XK} (h : spD K mg n (mL g) vs H Q EE) : spL K mg n g vs H Q EE := by
  obtain ⟨hl, G, ds, s, r, o⟩ := h
  refine ⟨hl, G, ds, s, r, ?_⟩
  unfold mL at o
  cases hf : g ds with
  | ok xs =>
    rw [hf] at o
    intro G' H' g' p vs hp hn hl hr
    exact o _ H' (g'.share hp hn hl) (.ref p) (.lst upd_same (hr.mono (same_new hn)))
  | exc c => rw [hf] at o; exact o
  | bad => rw [hf] at o; exact o
theorem HasL.has {P : Program} {w : World} {K : PySem.W.Frag} {mg : Str → Option Value} {base : Heap} {k : Nat} {x : Str} {n : Nat} {g : List D → R (List D)} (h : HasL P w K mg base k x n g) : Has P w K mg base k x n (mL g) := by
  obtain ⟨f, fd, ps, h1, h2, h3, h4⟩ := h.ex
  exact ⟨f, fd, ps, h1, h2.imp (fun _ _ _ _ z => spL_D z), h3, h4⟩
theorem Has.mono {P : Program} {w : World} {K : PySem.W.Frag} {mg : Str → Option Value} {base : Heap} {j k : Nat} {x : Str} {n : Nat} {g : List D → R D} (h : Has P w K mg base j x n g) (hj : j ≤ k) : Has P w K mg base k x n g := by
  obtain ⟨f, fd, ps, h1, h2, h3, h4⟩ := h.ex
  exact ⟨f, fd, ps, h1, h2.mono hj, h3, h4⟩
theorem HasL.mono {P : Program} {w : World} {K : PySem.W.Frag} {mg : Str → Option Value} {base : Heap} {j k : Nat} {x : Str} {n : Nat} {g : List D → R (List D)} (h : HasL P w K mg base j x n g) (hj : j ≤ k) : HasL P w K mg base k x n g := by
  obtain ⟨f, fd, ps, h1, h2, h3, h4⟩ := h.ex
  exact ⟨f, fd, ps, h1, h2.mono hj, h3, h4⟩
theorem Out.impE {α : Type} {E E' : EX} {G H : Hp} {x : R α} {k : α → Hp → Hp → Prop} (h : Out E G H x k) (m : ∀ c H, E c H → E' c H) : Out E' G H x k := by
  cases x with
  | ok a => exact h
  | exc c => exact fun G' H' g => m _ _ (h G' H' g)
  | bad => exact h
section
variable {X : Cx} {E : EX} {e a b c : Expr} {es : List Expr} {pos p : Pos} {x : Str} {k n : Nat}
def eCall {α : Type} (n : Nat) (g : List D → R α) (fa : Env → R (List D)) : Env → R α := fun ρ => (fa ρ).bind fun ds => if ds.length = n then g ds else .bad
theorem je_call {g : List D → R D} {fa : Env → R (List D)} (C : Cxt X E k) (F : Has X.prog X.w X.K X.mg X.base k x n g) (hg : Gl X x) (ha : JAE X E (e :: es) fa)
    (hdb : (x == ("__debug__" : Str)) = false := by decide) (he : starEach (e :: es) X.env = (false, eval e X.env) :: starEach es X.env := by rfl) (hpl : (backTo pos (starEach es X.env)).any (·.1) = false := by rfl) :
    JE X E (.Call (.Name x p) (e :: es) [] pos) (eCall n g fa) := by
  obtain ⟨f, fd, ps, h1, h2, h3, h4⟩ := F.ex
  obtain ⟨EE, hp, hE⟩ := C.pass
  refine pe_imp (pe_call h2 C.room hg h1 h3 h4 .nil hp ha hdb he hpl) fun σ H Q ⟨B, G, ρ, rl, o⟩ => ⟨B, G, ρ, rl, o.bind.imp fun ds G1 H1 g1 o1 vs rvs => ?_⟩
  by_cases hl : ds.length = n
  · rw [if_pos hl] at o1
    rw [List.append_nil]
    exact ⟨by rw [rvs.length]; exact hl, G1, ds, g1.2.2.1, rvs, o1.impE hE⟩
  · rw [if_neg hl] at o1; exact o1.elim
theorem jf_call {g : List D → R (List D)} {fa : Env → R (List D)} (C : Cxt X E k) (F : HasL X.prog X.w X.K X.mg X.base k x n g) (hg : Gl X x) (ha : JAE X E (e :: es) fa)
    (hdb : (x == ("__debug__" : Str)) = false := by decide) (he : starEach (e :: es) X.env = (false, eval e X.env) :: starEach es X.env := by rfl) (hpl : (backTo pos (starEach es X.env)).any (·.1) = false := by rfl) :
    JF X E (.Call (.Name x p) (e :: es) [] pos) (eCall n g fa) := by
  obtain ⟨f, fd, ps, h1, h2, h3, h4⟩ := F.ex
  obtain ⟨EE, hp, hE⟩ := C.pass
  refine pe_imp (pe_call h2 C.room hg h1 h3 h4 .nil hp ha hdb he hpl) fun σ H Q ⟨B, G, ρ, rl, o⟩ => ⟨B, G, ρ, rl, o.bind.imp fun ds G1 H1 g1 o1 vs rvs => ?_⟩
  by_cases hl : ds.length = n
  · rw [if_pos hl] at o1
    rw [List.append_nil]
    refine ⟨by rw [rvs.length]; exact hl, G1, ds, g1.2.2.1, rvs, (o1.impE hE).imp fun xs G' H' g' q p vs hp hn hl hr => q p vs (g1.2.1.free hp) hn hl hr⟩
  · rw [if_neg hl] at o1; exact o1.elim

/-! ### calls of built-ins by values -/
def SrvC (K : PySem.W.Frag) (r : List V → Hp → VK → Prop) (f : List D → Option D) : Prop := ∀ vs ds G H (Q : VK), Same G H → RBL K G H vs ds → ∀ z, f ds = some z → (∀ v G' H', Gw G H G' H' → Rep K G' v z → Q v H') → r vs H Q
def SrvCF (K : PySem.W.Frag) (r : List V → Hp → VK → Prop) (f : List D → Option (List D)) : Prop := ∀ vs ds G H (Q : VK), Same G H → RBL K G H vs ds → ∀ z, f ds = some z → (∀ p ws G' H', Gw G H G' H' → H p = none → G' p = none → H' p = some (.lst ws) → RepL K G' ws z → Q (.ref p) H') → r vs H Q
def Call1 (X : Cx) (fv : Value) (f : List D → Option D) : Prop := ∃ r, CallR X fv r ∧ SrvC X.K r f
def CallF (X : Cx) (fv : Value) (f : List D → Option (List D)) : Prop := ∃ r, CallR X fv r ∧ SrvCF X.K r f
theorem Call1.or {fv : Value} {f g : List D → Option D} (h : Call1 X fv f) (h' : Call1 X fv g) : Call1 X fv (fun x => (f x).orElse fun _ => g x) := by
  obtain ⟨r, h1, h2⟩ := h
  obtain ⟨r', h1', h2'⟩ := h'
  refine ⟨_, h1.or h1', fun vs ds G H Q s rx z hz k => ?_⟩
  dsimp only at hz
  cases hf : f ds with
  | some w =>
    have : w = z := by
      rw [hf] at hz
      exact Option.some.inj hz
    subst this
    exact .inl (h2 vs ds G H Q s rx w hf k)
  | none =>
    rw [hf] at hz
    exact .inr (h2' vs ds G H Q s rx z hz k)
theorem CallF.or {fv : Value} {f g : List D → Option (List D)} (h : CallF X fv f) (h' : CallF X fv g) : CallF X fv (fun x => (f x).orElse fun _ => g x) := by
  obtain ⟨r, h1, h2⟩ := h
  obtain ⟨r', h1', h2'⟩ := h'
  refine ⟨_, h1.or h1', fun vs ds G H Q s rx z hz k => ?_⟩
  dsimp only at hz
  cases hf : f ds with
  | some w =>
    have : w = z := by
      rw [hf] at hz
      exact Option.some.inj hz
    subst this
    exact .inl (h2 vs ds G H Q s rx w hf k)
  | none =>
    rw [hf] at hz
    exact .inr (h2' vs ds G H Q s rx z hz k)
def eB {α : Type} (f : List D → Option α) (fa : Env → R (List D)) : Env → R α := fun ρ => (fa ρ).bind fun ds => ofO (f ds)
theorem topB {r : List V → Hp → VK → Prop} {f : List D → Option D} {fa : Env → R (List D)} (h2 : SrvC X.K r f) : ∀ σ H Q, rdE X.K E (eB f fa) σ H Q → tCB r (rdA X.K E fa) σ H Q := fun σ H Q ⟨B, G, ρ, rl, o⟩ =>
  ⟨B, G, ρ, rl, o.bind.imp fun ds G1 H1 g1 o1 vs rvs => by
    cases hf : f ds with
    | none => rw [hf] at o1; exact o1.elim
    | some z =>
      rw [hf] at o1
      exact h2 vs ds G1 H1 Q g1.2.2.1 rvs z hf fun v' G' H' g' r' => o1 G' H' g' v' r'⟩
theorem topBF {r : List V → Hp → VK → Prop} {f : List D → Option (List D)} {fa : Env → R (List D)} (h2 : SrvCF X.K r f) : ∀ σ H Q, rdF X.K E (eB f fa) σ H Q → tCB r (rdA X.K E fa) σ H Q := fun σ H Q ⟨B, G, ρ, rl, o⟩ =>
  ⟨B, G, ρ, rl, o.bind.imp fun ds G1 H1 g1 o1 vs rvs => by
    cases hf : f ds with
    | none => rw [hf] at o1; exact o1.elim
    | some z =>
      rw [hf] at o1
      exact h2 vs ds G1 H1 Q g1.2.2.1 rvs z hf fun p ws G' H' g' hp hn hl hr => o1 G' H' g' p ws (g1.2.1.free hp) hn hl hr⟩
theorem je_callB {id : String} {f : List D → Option D} {fa : Env → R (List D)} (h : Call1 X (.builtin id) f) (hg : Gl X x) (hm : X.mg x = none) (hv : bootBuiltins x = some (.builtin id)) (ha : JA X E (e :: es) fa) (hn : x ≠ "__name__" := by decide) (hdb : (x == ("__debug__" : Str)) = false := by decide)
    (he : starEach (e :: es) X.env = (false, eval e X.env) :: starEach es X.env := by rfl) (hpl : (backTo pos (starEach es X.env)).any (·.1) = false := by rfl) : JE X E (.Call (.Name x p) (e :: es) [] pos) (eB f fa) := by
  obtain ⟨r, h1, h2⟩ := h
  exact pe_imp (pe_callB h1 hg hm hv ha hn hdb he hpl) (topB h2)
theorem jf_callB {id : String} {f : List D → Option (List D)} {fa : Env → R (List D)} (h : CallF X (.builtin id) f) (hg : Gl X x) (hm : X.mg x = none) (hv : bootBuiltins x = some (.builtin id)) (ha : JA X E (e :: es) fa) (hn : x ≠ "__name__" := by decide) (hdb : (x == ("__debug__" : Str)) = false := by decide)
    (he : starEach (e :: es) X.env = (false, eval e X.env) :: starEach es X.env := by rfl) (hpl : (backTo pos (starEach es X.env)).any (·.1) = false := by rfl) : JF X E (.Call (.Name x p) (e :: es) [] pos) (eB f fa) := by
  obtain ⟨r, h1, h2⟩ := h
  exact pe_imp (pe_callB h1 hg hm hv ha hn hdb he hpl) (topBF h2)
theorem je_callTy {T : String} {f : List D → Option D} {fa : Env → R (List D)} (h : Call1 X (.type T) f) (hg : Gl X x) (hm : X.mg x = none) (hv : bootBuiltins x = some (.type T)) (ha : JA X E (e :: es) fa) (hn : x ≠ "__name__" := by decide) (hdb : (x == ("__debug__" : Str)) = false := by decide)
    (he : starEach (e :: es) X.env = (false, eval e X.env) :: starEach es X.env := by rfl) (hpl : (backTo pos (starEach es X.env)).any (·.1) = false := by rfl) : JE X E (.Call (.Name x p) (e :: es) [] pos) (eB f fa) := by
  obtain ⟨r, h1, h2⟩ := h
  exact pe_imp (pe_callTy h1 hg hm hv ha hn hdb he hpl) (topB h2)
theorem jf_callTy {T : String} {f : List D → Option (List D)} {fa : Env → R (List D)} (h : CallF X (.type T) f) (hg : Gl X x) (hm : X.mg x = none) (hv : bootBuiltins x = some (.type T)) (ha : JA X E (e :: es) fa) (hn : x ≠ "__name__" := by decide) (hdb : (x == ("__debug__" : Str)) = false := by decide)
    (he : starEach (e :: es) X.env = (false, eval e X.env) :: starEach es X.env := by rfl) (hpl : (backTo pos (starEach es X.env)).any (·.1) = false := by rfl) : JF X E (.Call (.Name x p) (e :: es) [] pos) (eB f fa) := by
  obtain ⟨r, h1, h2⟩ := h
  exact pe_imp (pe_callTy h1 hg hm hv ha hn hdb he hpl) (topBF h2)

/-! ### methods that change nothing -/
def isTy : String → D → Bool
  | "str", .str _ => true
  | "list", .list _ => true
  | _, _ => false
theorem tyV_of {K : PySem.W.Frag} {G H : Hp} {v : V} {d : D} {T : String} (r : RB K G H v d) (s : Same G H) (h : isTy T d = true) : tyV K T v H := by
  unfold isTy at h
  split at h
  · rw [r.str]
    exact (rfl : ("str" : String) = "str")
  · obtain ⟨q, vs, rfl, h1, _⟩ := r.lst s
    exact .inl ⟨rfl, vs, SqL.of h1⟩
  · cases h
def SrvM (K : PySem.W.Frag) (r : V → List V → Hp → VK → Prop) (f : D → List D → Option D) : Prop := ∀ x vs d ds G H (Q : VK), Same G H → RB K G H x d → RBL K G H vs ds → ∀ z, f d ds = some z → (∀ v G' H', Gw G H G' H' → Rep K G' v z → Q v H') → r x vs H Q
def SrvMF (K : PySem.W.Frag) (r : V → List V → Hp → VK → Prop) (f : D → List D → Option (List D)) : Prop := ∀ x vs d ds G H (Q : VK), Same G H → RB K G H x d → RBL K G H vs ds → ∀ z, f d ds = some z → (∀ p ws G' H', Gw G H G' H' → H p = none → G' p = none → H' p = some (.lst ws) → RepL K G' ws z → Q (.ref p) H') → r x vs H Q
def Mt1 (X : Cx) (id : String) (f : D → List D → Option D) : Prop := ∃ r, MtR X id r ∧ SrvM X.K r f
def MtF (X : Cx) (id : String) (f : D → List D → Option (List D)) : Prop := ∃ r, MtR X id r ∧ SrvMF X.K r f
def eM {α : Type} (T : String) (f : D → List D → Option α) (fo : Env → R D) (fa : Env → R (List D)) : Env → R α := fun ρ => (fo ρ).bind fun d => if isTy T d = true then (fa ρ).bind fun ds => ofO (f d ds) else .bad
theorem je_meth {T id : String} {name : Str} {apos cpos : Pos} {o : Expr} {f : D → List D → Option D} {fo : Env → R D} {fa : Env → R (List D)} (h : Mt1 X id f) (pa : PlainAttrs T) (slot : Slot T name id) (hty : typeOf (.builtin id) = pure (.type "method_descriptor"))
    (ho : JB X E o fo) (ha : JA X E (e :: es) fa) (hbase : attributeBase o name X.env (eval o X.env) = eval o X.env := by rfl)
    (hfew : ((backTo cpos (starEach (e :: es) X.env)).all (fun x => !x.1) && (backToKw cpos (keywordEach [] X.env)).all (fun x => x.1.isSome)
      && decide ((e :: es).length + ([] : List Keyword).length + (if ([] : List Keyword).isEmpty then 0 else 1) < 30)) = true := by rfl)
    (hline : (apos.endLine == cpos.line) = true := by rfl) (hs : starEach (e :: es) X.env = (false, eval e X.env) :: starEach es X.env := by rfl) (hplain : (backTo cpos (starEach es X.env)).any (·.1) = false := by rfl) :
    JE X E (.Call (.Attribute o name apos) (e :: es) [] cpos) (eM T f fo fa) := by
  obtain ⟨r, h1, h2⟩ := h
  refine pe_imp (pe_bm pa slot hty h1 ho ha hbase hfew hline hs hplain) fun σ H Q ⟨B, G, ρ, rl, oo⟩ => ⟨B, G, ρ, rl, oo.bind.imp fun d G1 H1 g1 o1 v rv => ?_⟩
  by_cases ht : isTy T d = true
  · rw [if_pos ht] at o1
    refine ⟨tyV_of rv g1.2.2.1 ht, B, G1, ρ, rl.gw g1, o1.bind.imp fun ds G2 H2 g2 o2 vs rvs => ?_⟩
    cases hf : f d ds with
    | none => rw [hf] at o2; exact o2.elim
    | some z =>
      rw [hf] at o2
      exact h2 v vs d ds G2 H2 Q g2.2.2.1 (rv.gw g2) rvs z hf fun v' G' H' g' r' => o2 G' H' g' v' r'
  · rw [if_neg ht] at o1; exact o1.elim
theorem jf_meth {T id : String} {name : Str} {apos cpos : Pos} {o : Expr} {f : D → List D → Option (List D)} {fo : Env → R D} {fa : Env → R (List D)} (h : MtF X id f) (pa : PlainAttrs T) (slot : Slot T name id) (hty : typeOf (.builtin id) = pure (.type "method_descriptor"))
    (ho : JB X E o fo) (ha : JA X E (e :: es) fa) (hbase : attributeBase o name X.env (eval o X.env) = eval o X.env := by rfl)
    (hfew : ((backTo cpos (starEach (e :: es) X.env)).all (fun x => !x.1) && (backToKw cpos (keywordEach [] X.env)).all (fun x => x.1.isSome)
      && decide ((e :: es).length + ([] : List Keyword).length + (if ([] : List Keyword).isEmpty then 0 else 1) < 30)) = true := by rfl)
    (hline : (apos.endLine == cpos.line) = true := by rfl) (hs : starEach (e :: es) X.env = (false, eval e X.env) :: starEach es X.env := by rfl) (hplain : (backTo cpos (starEach es X.env)).any (·.1) = false := by rfl) :
    JF X E (.Call (.Attribute o name apos) (e :: es) [] cpos) (eM T f fo fa) := by
  obtain ⟨r, h1, h2⟩ := h
  refine pe_imp (pe_bm pa slot hty h1 ho ha hbase hfew hline hs hplain) fun σ H Q ⟨B, G, ρ, rl, oo⟩ => ⟨B, G, ρ, rl, oo.bind.imp fun d G1 H1 g1 o1 v rv => ?_⟩
  by_cases ht : isTy T d = true
  · rw [if_pos ht] at o1
    refine ⟨tyV_of rv g1.2.2.1 ht, B, G1, ρ, rl.gw g1, o1.bind.imp fun ds G2 H2 g2 o2 vs rvs => ?_⟩
    cases hf : f d ds with
    | none => rw [hf] at o2; exact o2.elim
    | some z =>
      rw [hf] at o2
      exact h2 v vs d ds G2 H2 Q g2.2.2.1 (rv.gw g2) rvs z hf fun p ws G' H' g' hp hn hl hr => o2 G' H' g' p ws ((g1.trans g2).2.1.free hp) hn hl hr
  · rw [if_neg ht] at o1; exact o1.elim

/-! ### places and slices -/
def Ix2 (X : Cx) (f : D → D → Option D) : Prop := ∃ r, IxR X r ∧ Srv2 X.K r f
theorem Ix2.or {f g : D → D → Option D} (h : Ix2 X f) (h' : Ix2 X g) : Ix2 X (fun x y => (f x y).orElse fun _ => g x y) := by
  obtain ⟨r, h1, h2⟩ := h
  obtain ⟨r', h1', h2'⟩ := h'
  refine ⟨_, h1.or h1', fun x y d e G H Q s rx ry z hz k => ?_⟩
  dsimp only at hz
  cases hf : f d e with
  | some w =>
    have : w = z := by
      rw [hf] at hz
      exact Option.some.inj hz
    subst this
    exact .inl (h2 x y d e G H Q s rx ry w hf k)
  | none =>
    rw [hf] at hz
    exact .inr (h2' x y d e G H Q s rx ry z hz k)
theorem je_ix {f : D → D → Option D} {fa fb : Env → R D} (h : Ix2 X f) (ha : JB X E a fa) (hb : JB X E b fb) (hs : PlainIx b) : JE X E (.Subscript a b pos) (e2 f fa fb) := by
  obtain ⟨r, h1, h2⟩ := h
  exact pe_imp (pe_ix h1 ha hb hs) (top2 h2)
/-- a part of a slice: left out, or a whole number -/
def rdO (K : PySem.W.Frag) (E : EX) (f : Env → R (Option Int)) : TO := fun σ H Q => ∃ B G ρ, Rel K B G H ρ σ ∧ Out E G H (f ρ) fun i G' H' => Q i H'
abbrev JO (X : Cx) (E : EX) (e : Option Expr) (f : Env → R (Option Int)) : Prop := PO X e (rdO X.K E f)
theorem po_imp {o : Option Expr} {t t' : TO} (h : PO X o t) (m : ∀ σ H Q, t' σ H Q → t σ H Q) : PO X o t' := ⟨fun pins s σ H Q I q => h.run pins s σ H Q I (m σ H Q q)⟩
def oNo : Env → R (Option Int) := fun _ => .ok none
def oSo (f : Env → R D) : Env → R (Option Int) := fun ρ => (f ρ).bind fun
  | .int i => .ok (some i)
  | _ => .bad
theorem jo_none : JO X E none oNo := po_imp po_none fun σ H Q ⟨B, G, ρ, rl, o⟩ => Out.here (k := fun i G' H' => Q i H') o rl.ex
theorem jo_some {f : Env → R D} (h : JE X E e f) : JO X E (some e) (oSo f) := po_imp (po_some h) fun σ H Q ⟨B, G, ρ, rl, o⟩ => ⟨B, G, ρ, rl, o.bind.imp fun d G1 H1 g1 o1 v rv => by
  cases d with
  | int i =>
    cases rv
    exact ⟨i, rfl, Out.here (k := fun i G' H' => Q i H') o1 g1.2.2.1⟩
  | _ => exact o1.elim⟩
def SrvS (K : PySem.W.Frag) (r : V → Option Int → Option Int → Hp → VK → Prop) (f : D → Option Int → Option Int → Option D) : Prop := ∀ x d lo hi G H (Q : VK), Same G H → RB K G H x d → ∀ z, f d lo hi = some z → (∀ v G' H', Gw G H G' H' → Rep K G' v z → Q v H') → r x lo hi H Q
def SrvSF (K : PySem.W.Frag) (r : V → Option Int → Option Int → Hp → VK → Prop) (f : D → Option Int → Option Int → Option (List D)) : Prop := ∀ x d lo hi G H (Q : VK), Same G H → RB K G H x d → ∀ z, f d lo hi = some z → (∀ p ws G' H', Gw G H G' H' → H p = none → G' p = none → H' p = some (.lst ws) → RepL K G' ws z → Q (.ref p) H') → r x lo hi H Q
def Sl1 (X : Cx) (f : D → Option Int → Option Int → Option D) : Prop := ∃ r, SlR X r ∧ SrvS X.K r f
def SlF (X : Cx) (f : D → Option Int → Option Int → Option (List D)) : Prop := ∃ r, SlR X r ∧ SrvSF X.K r f
def eS {α : Type} (f : D → Option Int → Option Int → Option α) (fa : Env → R D) (fl fh : Env → R (Option Int)) : Env → R α := fun ρ => (fa ρ).bind fun d => (fl ρ).bind fun l => (fh ρ).bind fun h => ofO (f d l h)
theorem je_sl {p2 : Pos} {lo hi : Option Expr} {f : D → Option Int → Option Int → Option D} {fa : Env → R D} {fl fh : Env → R (Option Int)} (h : Sl1 X f) (ha : JB X E a fa) (hl : JO X E lo fl) (hh : JO X E hi fh) : JE X E (.Subscript a (.Slice lo hi none p2) pos) (eS f fa fl fh) := by
  obtain ⟨r, h1, h2⟩ := h
  exact pe_imp (pe_slice h1 ha hl hh) fun σ H Q ⟨B, G, ρ, rl, oo⟩ => ⟨B, G, ρ, rl, oo.bind.imp fun d G1 H1 g1 o1 v rv => ⟨B, G1, ρ, rl.gw g1, o1.bind.imp fun l G2 H2 g2 o2 => ⟨B, G2, ρ, (rl.gw g1).gw g2, o2.bind.imp fun u G3 H3 g3 o3 => by
    cases hf : f d l u with
    | none => rw [hf] at o3; exact o3.elim
    | some z =>
      rw [hf] at o3
      exact h2 v d l u G3 H3 Q g3.2.2.1 ((rv.gw g2).gw g3) z hf fun v' G' H' g' r' => o3 G' H' g' v' r'⟩⟩⟩
theorem jf_sl {p2 : Pos} {lo hi : Option Expr} {f : D → Option Int → Option Int → Option (List D)} {fa : Env → R D} {fl fh : Env → R (Option Int)} (h : SlF X f) (ha : JB X E a fa) (hl : JO X E lo fl) (hh : JO X E hi fh) : JF X E (.Subscript a (.Slice lo hi none p2) pos) (eS f fa fl fh) := by
  obtain ⟨r, h1, h2⟩ := h
  exact pe_imp (pe_slice h1 ha hl hh) fun σ H Q ⟨B, G, ρ, rl, oo⟩ => ⟨B, G, ρ, rl, oo.bind.imp fun d G1 H1 g1 o1 v rv => ⟨B, G1, ρ, rl.gw g1, o1.bind.imp fun l G2 H2 g2 o2 => ⟨B, G2, ρ, (rl.gw g1).gw g2, o2.bind.imp fun u G3 H3 g3 o3 => by
    cases hf : f d l u with
    | none => rw [hf] at o3; exact o3.elim
    | some z =>
      rw [hf] at o3
      exact h2 v d l u G3 H3 Q g3.2.2.1 ((rv.gw g2).gw g3) z hf fun p ws G' H' g' hp hn hl hr => o3 G' H' g' p ws ((g1.trans (g2.trans g3)).2.1.free hp) hn hl hr⟩⟩⟩

/-! ### what is walked -/
/-- the items come one by one, as long as P holds of the heap -/
def ItOk (K : PySem.W.Frag) (J : It) (ds : List D) (G : Hp) (P : Hp → Prop) : Prop := ∀ i G2 H2, Same G G2 → Same G2 H2 → P H2 →
  (∀ d, ds[i]? = some d → J.go i H2 ∧ ∀ x H3, J.yld i H2 x H3 → ∃ G3, Gw G2 H2 G3 H3 ∧ Rep K G3 x d) ∧ (ds.length ≤ i → J.stop i H2)
/-- P stays as the heap grows -/
def Stays (P : Hp → Prop) (H : Hp) : Prop := ∀ H2, Same H H2 → P H2
def rdI (K : PySem.W.Frag) (E : EX) (f : Env → R (List D)) : TI := fun σ H R => ∃ B G ρ, Rel K B G H ρ σ ∧ Out E G H (f ρ) fun ds G' H' => ∀ J P, ItOk K J ds G' P → Stays P H' → R J H'
def rdI0 (K : PySem.W.Frag) (E : EX) (f : Env → R (List D)) : TI := fun σ H R => ∃ B G ρ, Rel K B G H ρ σ ∧ Out E G H (f ρ) fun ds G' H' => ∀ J, ItOk K J ds G' (fun _ => True) → R J H'
abbrev JI (X : Cx) (E : EX) (tg e : Expr) (f : Env → R (List D)) : Prop := PI X tg e (rdI X.K E f)
abbrev JI0 (X : Cx) (E : EX) (tg e : Expr) (f : Env → R (List D)) : Prop := PI X tg e (rdI0 X.K E f)
variable {tg it : Expr}
theorem pi_imp {t t' : TI} (h : PI X tg it t) (m : ∀ σ H R, t' σ H R → t σ H R) : PI X tg it t' := ⟨fun pins s σ H R I q => h.run pins s σ H R I (m σ H R q)⟩
theorem JI.of0 {f : Env → R (List D)} (h : JI0 X E tg it f) : JI X E tg it f := pi_imp h fun σ H R ⟨B, G, ρ, rl, o⟩ => ⟨B, G, ρ, rl, o.imp fun ds G' H' g q J hJ => q J _ hJ fun _ _ => True.intro⟩
def iL (f : Env → R D) : Env → R (List D) := fun ρ => (f ρ).bind fun
  | .list ds => .ok ds
  | _ => .bad
def iT (f : Env → R D) : Env → R (List D) := fun ρ => (f ρ).bind fun
  | .tuple ds => .ok ds
  | _ => .bad
theorem ji0_list {f : Env → R D} (h : JE X E it f) : JI0 X E tg it (iL f) := pi_imp (pi_list h) fun σ H R ⟨B, G, ρ, rl, o⟩ => ⟨B, G, ρ, rl, o.bind.imp fun d G1 H1 g1 o1 v rv => by
  cases d with
  | list ds =>
    cases rv with
    | @lst a xs _ h1 h2 =>
      refine ⟨a, rfl, ⟨xs, SqL.of (g1.2.2.1 _ _ h1)⟩, Out.here (k := fun ds G' H' => ∀ J, ItOk X.K J ds G' (fun _ => True) → R J H') o1 g1.2.2.1 _ fun i G2 H2 s2 s3 _ => ⟨fun d hd => ?_, fun hi => ⟨xs, SqL.of (s3 _ _ (s2 _ _ h1)), by rw [h2.length]; exact hi⟩⟩⟩
      obtain ⟨v, hv, rv⟩ := h2.get hd
      refine ⟨⟨xs, v, SqL.of (s3 _ _ (s2 _ _ h1)), hv⟩, fun x H3 y => ?_⟩
      obtain ⟨rfl, y⟩ := y
      have e := y xs (SqL.of (s3 _ _ (s2 _ _ h1)))
      rw [hv] at e
      cases e
      exact ⟨G2, Gw.refl s3, rv.mono s2⟩
  | _ => exact o1.elim⟩
theorem ji0_tup {f : Env → R D} (h : JE X E it f) : JI0 X E tg it (iT f) := pi_imp (pi_tup h) fun σ H R ⟨B, G, ρ, rl, o⟩ => ⟨B, G, ρ, rl, o.bind.imp fun d G1 H1 g1 o1 v rv => by
  cases d with
  | tuple ds =>
    cases rv with
    | @tup a xs _ h1 h2 =>
      refine ⟨a, rfl, ⟨xs, same_seqT g1.2.2.1 h1⟩, Out.here (k := fun ds G' H' => ∀ J, ItOk X.K J ds G' (fun _ => True) → R J H') o1 g1.2.2.1 _ fun i G2 H2 s2 s3 _ => ⟨fun d hd => ?_, fun hi => ⟨xs, same_seqT s3 (same_seqT s2 h1), by rw [h2.length]; exact hi⟩⟩⟩
      obtain ⟨v, hv, rv⟩ := h2.get hd
      refine ⟨⟨xs, v, same_seqT s3 (same_seqT s2 h1), hv⟩, fun x H3 y => ?_⟩
      obtain ⟨rfl, y⟩ := y
      have e := y xs (same_seqT s3 (same_seqT s2 h1))
      rw [hv] at e
      cases e
      exact ⟨G2, Gw.refl s3, rv.mono s2⟩
  | _ => exact o1.elim⟩
/-- a list that may be one's own -/
theorem ji_list {f : Env → R D} (h : JB X E it f) : JI X E tg it (iL f) := pi_imp (pi_list h) fun σ H R ⟨B, G, ρ, rl, o⟩ => ⟨B, G, ρ, rl, o.bind.imp fun d G1 H1 g1 o1 v rv => by
  cases d with
  | list ds =>
    obtain ⟨a, xs, rfl, h1, h2⟩ := rv.lst g1.2.2.1
    refine ⟨a, rfl, ⟨xs, SqL.of h1⟩, Out.here (k := fun ds G' H' => ∀ J P, ItOk X.K J ds G' P → Stays P H' → R J H') o1 g1.2.2.1 _ (fun H2 => H2 a = some (.lst xs)) (fun i G2 H2 s2 s3 hp => ⟨fun d hd => ?_, fun hi => ⟨xs, SqL.of hp, by rw [h2.length]; exact hi⟩⟩) fun H2 s => s _ _ h1⟩
    obtain ⟨v, hv, rv⟩ := h2.get hd
    refine ⟨⟨xs, v, SqL.of hp, hv⟩, fun x H3 y => ?_⟩
    obtain ⟨rfl, y⟩ := y
    have e := y xs (SqL.of hp)
    rw [hv] at e
    cases e
    exact ⟨G2, Gw.refl s3, rv.mono s2⟩
  | _ => exact o1.elim⟩
def rng (lo : Int) (n : Nat) : List D := (List.range n).map fun i => .int (lo + (i : Nat))
def iR1 (fa : Env → R (List D)) : Env → R (List D) := fun ρ => (fa ρ).bind fun
  | [.int j] => if -(2 ^ 62) ≤ j ∧ j < 2 ^ 62 then .ok (rng 0 j.toNat) else .bad
  | _ => .bad
def iR2 (fa : Env → R (List D)) : Env → R (List D) := fun ρ => (fa ρ).bind fun
  | [.int i, .int j] => if -(2 ^ 62) ≤ i ∧ i < 2 ^ 62 ∧ -(2 ^ 62) ≤ j ∧ j < 2 ^ 62 then .ok (rng i (j - i).toNat) else .bad
  | _ => .bad
theorem rng_get {lo : Int} {n i : Nat} : (rng lo n)[i]? = if i < n then some (.int (lo + (i : Nat))) else none := by
  unfold rng
  rw [List.getElem?_map]
  by_cases h : i < n
  · rw [if_pos h, List.getElem?_range h] <;> rfl
  · rw [if_neg h, List.getElem?_eq_none (by simpa using h)] <;> rfl
theorem rng_len {lo : Int} {n : Nat} : (rng lo n).length = n := by simp [rng]
theorem itr_ok {K : PySem.W.Frag} {lo : Int} {n : Nat} {G : Hp} : ItOk K (Itr lo n) (rng lo n) G (fun _ => True) := fun i G2 H2 s2 s3 _ => by
  refine ⟨fun d hd => ?_, fun hi => by rw [rng_len] at hi; exact hi⟩
  rw [rng_get] at hd
  by_cases h : i < n
  · rw [if_pos h] at hd
    cases hd
    refine ⟨h, fun x H3 y => ?_⟩
    obtain ⟨rfl, rfl⟩ := y
    exact ⟨G2, Gw.refl s3, .int _⟩
  · rw [if_neg h] at hd; cases hd
theorem ji0_range1 {fa : Env → R (List D)} {a : Expr} (hg : Gl X "range") (hm : X.mg "range" = none) (ha : JA X E [a] fa) (hs : starEach [a] X.env = [(false, eval a X.env)] := by rfl) : JI0 X E tg (.Call (.Name "range" p) [a] [] pos) (iR1 fa) :=
  pi_imp (pi_range1 hg hm ha hs) fun σ H R ⟨B, G, ρ, rl, o⟩ => ⟨B, G, ρ, rl, o.bind.imp fun ds G1 H1 g1 o1 vs rvs => by
    split at o1
    · rename_i j
      cases rvs with
      | cons r1 t =>
        cases t
        split at o1
        · rename_i hj
          exact ⟨j, by rw [r1.int], hj.1, hj.2, Out.here (k := fun ds G' H' => ∀ J, ItOk X.K J ds G' (fun _ => True) → R J H') o1 g1.2.2.1 _ itr_ok⟩
        · exact o1.elim
    · exact o1.elim⟩
theorem ji0_range2 {fa : Env → R (List D)} {a b : Expr} (hg : Gl X "range") (hm : X.mg "range" = none) (ha : JA X E [a, b] fa) (hs : starEach [a, b] X.env = [(false, eval a X.env), (false, eval b X.env)] := by rfl) (hs2 : starEach [b] X.env = [(false, eval b X.env)] := by rfl) : JI0 X E tg (.Call (.Name "range" p) [a, b] [] pos) (iR2 fa) :=
  pi_imp (pi_range2 hg hm ha hs hs2) fun σ H R ⟨B, G, ρ, rl, o⟩ => ⟨B, G, ρ, rl, o.bind.imp fun ds G1 H1 g1 o1 vs rvs => by
    split at o1
    · rename_i i j
      cases rvs with
      | cons r1 t =>
        cases t with
        | cons r2 t =>
          cases t
          split at o1
          · rename_i hj
            exact ⟨i, j, by rw [r1.int, r2.int], hj, Out.here (k := fun ds G' H' => ∀ J, ItOk X.K J ds G' (fun _ => True) → R J H') o1 g1.2.2.1 _ itr_ok⟩
          · exact o1.elim
    · exact o1.elim⟩
def signs (x : Str) : List D := x.cps.toList.map fun c => .str ⟨#[c]⟩
def iS (f : Env → R D) : Env → R (List D) := fun ρ => (f ρ).bind fun
  | .str x => .ok (signs x)
  | _ => .bad
theorem ji0_str {f : Env → R D} (h : JE X E it f) : JI0 X E tg it (iS f) := pi_imp (pi_str h) fun σ H R ⟨B, G, ρ, rl, o⟩ => ⟨B, G, ρ, rl, o.bind.imp fun d G1 H1 g1 o1 v rv => by
  cases d with
  | str x =>
    cases rv
    refine ⟨x, rfl, Out.here (k := fun ds G' H' => ∀ J, ItOk X.K J ds G' (fun _ => True) → R J H') o1 g1.2.2.1 _ fun i G2 H2 s2 s3 _ => ⟨fun d hd => ?_, fun hi => (show x.cps.size ≤ i by simpa [signs] using hi)⟩⟩
    unfold signs at hd
    rw [List.getElem?_map] at hd
    cases hc : x.cps.toList[i]? with
    | none => rw [hc] at hd; cases hd
    | some c =>
      rw [hc] at hd
      cases hd
      have hi := (List.getElem?_eq_some_iff.mp hc).1
      rw [Array.length_toList] at hi
      refine ⟨hi, fun x' H3 y => ?_⟩
      obtain ⟨rfl, c', e, rfl⟩ := y
      rw [Array.getElem?_toList] at hc
      rw [hc] at e
      cases e
      exact ⟨G2, Gw.refl s3, .str _⟩
  | _ => exact o1.elim⟩
def enums : Nat → List D → List D
  | _, [] => []
  | i, d :: ds => .tuple [.int (i : Nat), d] :: enums (i + 1) ds
theorem enums_get : ∀ (ds : List D) (j i : Nat), (enums j ds)[i]? = (ds[i]?).map fun d => .tuple [.int ((j + i : Nat) : Int), d]
  | [], j, i => by simp [enums]
  | d :: ds, j, 0 => by simp [enums]
  | d :: ds, j, i + 1 => by
    show (enums (j + 1) ds)[i]? = _
    rw [enums_get ds (j + 1) i, show j + 1 + i = j + (i + 1) by omega]
    rfl
theorem enums_len : ∀ (ds : List D) (j : Nat), (enums j ds).length = ds.length
  | [], _ => rfl
  | _ :: ds, j => congrArg (· + 1) (enums_len ds (j + 1))
def iE (fa : Env → R (List D)) : Env → R (List D) := fun ρ => (fa ρ).bind fun
  | [.list ds] => .ok (enums 0 ds)
  | _ => .bad
def zips : List D → List D → List D
  | x :: xs, y :: ys => .tuple [x, y] :: zips xs ys
  | _, _ => []
theorem zips_get : ∀ (xs ys : List D) (i : Nat), (zips xs ys)[i]? = (xs[i]?).bind fun x => (ys[i]?).map fun y => .tuple [x, y]
  | [], ys, i => by simp [zips]
  | x :: xs, [], i => by
    simp only [zips, List.getElem?_nil, Option.map_none]
    cases (x :: xs)[i]? <;> rfl
  | x :: xs, y :: ys, 0 => by simp [zips]
  | x :: xs, y :: ys, i + 1 => by
    show (zips xs ys)[i]? = _
    rw [zips_get xs ys i]
    rfl
theorem zips_len : ∀ (xs ys : List D), (zips xs ys).length = min xs.length ys.length
  | [], ys => by simp [zips]
  | x :: xs, [] => by simp [zips]
  | x :: xs, y :: ys => by
    show (zips xs ys).length + 1 = _
    rw [zips_len xs ys, List.length_cons, List.length_cons]
    omega
def iZ (fa : Env → R (List D)) : Env → R (List D) := fun ρ => (fa ρ).bind fun
  | [.list xs, .list ys] => .ok (zips xs ys)
  | _ => .bad
theorem ji_enum {elts : List Expr} {kk : Nat} {tpos : Pos} {a : Expr} {fa : Env → R (List D)} (hg : Gl X "enumerate") (hm : X.mg "enumerate" = none) (ha : JA X E [a] fa) (hs : starEach [a] X.env = [(false, eval a X.env)] := by rfl) :
    JI X E (.Tuple elts kk tpos) (.Call (.Name "enumerate" p) [a] [] pos) (iE fa) := pi_imp (pi_enum hg hm ha hs) fun σ H R ⟨B, G, ρ, rl, o⟩ => ⟨B, G, ρ, rl, o.bind.imp fun ds G1 H1 g1 o1 vs rvs => by
    split at o1
    · rename_i ds
      cases rvs with
      | cons r1 t =>
        cases t
        obtain ⟨a, xs, rfl, h1, h2⟩ := r1.lst g1.2.2.1
        refine ⟨a, xs, rfl, SqL.of h1, Out.here (k := fun ds G' H' => ∀ J P, ItOk X.K J ds G' P → Stays P H' → R J H') o1 g1.2.2.1 _ (fun H2 => H2 a = some (.lst xs)) (fun i G2 H2 s2 s3 hp => ⟨fun d hd => ?_, fun hi => ⟨xs, SqL.of hp, by rw [h2.length]; rw [enums_len] at hi; exact hi⟩⟩) fun H2 s => s _ _ h1⟩
        rw [enums_get] at hd
        cases hz : ds[i]? with
        | none => rw [hz] at hd; cases hd
        | some d' =>
          rw [hz] at hd
          cases hd
          obtain ⟨v, hv, rv⟩ := h2.get hz
          refine ⟨⟨xs, v, SqL.of hp, hv⟩, fun x H3 y => ?_⟩
          obtain ⟨T, x', rfl, hT, rfl, y⟩ := y
          have e := y xs (SqL.of hp)
          rw [hv] at e
          cases e
          refine ⟨_, Gw.new s3 hT, .tup (SqT.of upd_same) (.cons ?_ (.cons ((rv.mono s2).mono (same_new (s3.free hT))) .nil))⟩
          rw [Nat.zero_add]
          exact .int _
    · exact o1.elim⟩
theorem ji_zip {elts : List Expr} {kk : Nat} {tpos : Pos} {a b : Expr} {fa : Env → R (List D)} (hg : Gl X "zip") (hm : X.mg "zip" = none) (ha : JA X E [a, b] fa) (hs : starEach [a, b] X.env = (false, eval a X.env) :: starEach [b] X.env := by rfl) (hs2 : (backTo pos (starEach [b] X.env)).any (·.1) = false := by rfl) :
    JI X E (.Tuple elts kk tpos) (.Call (.Name "zip" p) [a, b] [] pos) (iZ fa) := pi_imp (pi_zip hg hm ha hs hs2) fun σ H R ⟨B, G, ρ, rl, o⟩ => ⟨B, G, ρ, rl, o.bind.imp fun ds G1 H1 g1 o1 vs rvs => by
    split at o1
    · rename_i ds es
      cases rvs with
      | cons r1 t =>
        cases t with
        | cons r2 t =>
          cases t
          obtain ⟨a, xs, rfl, h1, h2⟩ := r1.lst g1.2.2.1
          obtain ⟨b, ys, rfl, k1, k2⟩ := r2.lst g1.2.2.1
          refine ⟨a, b, xs, ys, rfl, SqL.of h1, SqL.of k1, Out.here (k := fun ds G' H' => ∀ J P, ItOk X.K J ds G' P → Stays P H' → R J H') o1 g1.2.2.1 _ (fun H2 => H2 a = some (.lst xs) ∧ H2 b = some (.lst ys)) (fun i G2 H2 s2 s3 hp => ⟨fun d hd => ?_, fun hi => ⟨xs, ys, SqL.of hp.1, SqL.of hp.2, by rw [h2.length, k2.length]; rw [zips_len] at hi; omega⟩⟩) fun H2 s => ⟨s _ _ h1, s _ _ k1⟩⟩
          rw [zips_get] at hd
          cases hz : ds[i]? with
          | none => rw [hz] at hd; cases hd
          | some d' =>
            rw [hz] at hd
            cases hz2 : es[i]? with
            | none => rw [hz2] at hd; cases hd
            | some e' =>
              rw [hz2] at hd
              cases hd
              obtain ⟨v, hv, rv⟩ := h2.get hz
              obtain ⟨u, hu, ru⟩ := k2.get hz2
              refine ⟨⟨xs, ys, v, u, SqL.of hp.1, SqL.of hp.2, hv, hu⟩, fun x H3 y => ?_⟩
              obtain ⟨T, x', y', rfl, hT, rfl, q1, q2⟩ := y
              have e := q1 xs (SqL.of hp.1)
              rw [hv] at e
              cases e
              have e := q2 ys (SqL.of hp.2)
              rw [hu] at e
              cases e
              exact ⟨_, Gw.new s3 hT, .tup (SqT.of upd_same) (.cons ((rv.mono s2).mono (same_new (s3.free hT))) (.cons ((ru.mono s2).mono (same_new (s3.free hT))) .nil))⟩
    · exact o1.elim⟩
end
end Mp

set_option Elab.async false
set_option linter.all false
set_option maxRecDepth 100000
/-! Mp4: targets, comprehensions, statements, defs. -/
namespace Mp
open PySem L2

/-! ### targets -/
def rdG (K : PySem.W.Frag) (t : D → Env → R Env) (ws : List Nat) : TG := fun v σ H Q => ∃ B G ρ d ρ', Rel K B G H ρ σ ∧ Rep K G v d ∧ t d ρ = .ok ρ' ∧ ∀ σ', Rel K B G H ρ' σ' → (∀ vs : List Nat, (∀ j ∈ ws, j ∈ vs) → wipe σ' vs = wipe σ vs) → Q σ' H
def rdGs (K : PySem.W.Frag) (t : List D → Env → R Env) (ws : List Nat) : TGs := fun vs σ H Q => ∃ B G ρ ds ρ', Rel K B G H ρ σ ∧ RepL K G vs ds ∧ t ds ρ = .ok ρ' ∧ ∀ σ', Rel K B G H ρ' σ' → (∀ vs : List Nat, (∀ j ∈ ws, j ∈ vs) → wipe σ' vs = wipe σ vs) → Q σ' H
abbrev JG (X : Cx) (tg : Expr) (t : D → Env → R Env) (ws : List Nat) : Prop := PG X tg (rdG X.K t ws)
abbrev JGs (X : Cx) (tgs : List Expr) (t : List D → Env → R Env) (ws : List Nat) : Prop := PGs X tgs (rdGs X.K t ws)
theorem wipe_get (σ : L2.St) : ∀ (vs : List Nat) (i : Nat), (wipe σ vs)[i]? = if i ∈ vs then (σ[i]?).map (fun _ => none) else σ[i]?
  | [], i => by simp [wipe]
  | v :: vs, i => by
    unfold wipe
    by_cases h : v = i
    · subst h
      rw [if_pos List.mem_cons_self, List.getElem?_set_self']
      rw [wipe_get σ vs v]
      by_cases hv : v ∈ vs
      · rw [if_pos hv]
        cases σ[v]? <;> rfl
      · rw [if_neg hv]
        cases σ[v]? <;> rfl
    · rw [List.getElem?_set_ne h, wipe_get σ vs i]
      have : (i ∈ v :: vs) = (i ∈ vs) := by simp [Ne.symm h]
      simp only [this]
theorem wipe_set (σ : L2.St) (i : Nat) (x : Option V) (vs : List Nat) (h : i ∈ vs) : wipe (σ.set i x) vs = wipe σ vs := by
  apply List.ext_getElem?
  intro j
  rw [wipe_get, wipe_get]
  by_cases hj : i = j
  · subst hj
    rw [if_pos h, if_pos h, List.getElem?_set_self']
    cases σ[i]? <;> rfl
  · rw [List.getElem?_set_ne hj]
theorem wipe_wipe (σ : L2.St) (vs : List Nat) : wipe (wipe σ vs) vs = wipe σ vs := by
  apply List.ext_getElem?
  intro j
  rw [wipe_get, wipe_get]
  by_cases hj : j ∈ vs
  · rw [if_pos hj, if_pos hj]
    cases σ[j]? <;> rfl
  · rw [if_neg hj, if_neg hj]
def tName (i : Nat) : D → Env → R Env := fun d ρ => match ρ[i]? with
  | some (.hold _) => .bad
  | none => .bad
  | _ => .ok (ρ.set i (.val d))
def tsNil : List D → Env → R Env := fun ds ρ => match ds with
  | [] => .ok ρ
  | _ => .bad
def tsCons (t : D → Env → R Env) (u : List D → Env → R Env) : List D → Env → R Env := fun ds ρ => match ds with
  | d :: r => (t d ρ).bind (u r)
  | _ => .bad
def tTupT (n : Nat) (u : List D → Env → R Env) : D → Env → R Env := fun d ρ => match d with
  | .tuple ds => if ds.length = n then u ds ρ else .bad
  | _ => .bad
def tLstT (n : Nat) (u : List D → Env → R Env) : D → Env → R Env := fun d ρ => match d with
  | .list ds => if ds.length = n then u ds ρ else .bad
  | _ => .bad
section
variable {X : Cx} {pos : Pos} {tg : Expr} {tgs : List Expr}
theorem pg_imp {t t' : TG} (h : PG X tg t) (m : ∀ v σ H Q, t' v σ H Q → t v σ H Q) : PG X tg t' := ⟨fun pins s σ H v u Q I r q => h.run pins s σ H v u Q I r (m v σ H Q q)⟩
theorem pgs_imp {t t' : TGs} (h : PGs X tgs t) (m : ∀ v σ H Q, t' v σ H Q → t v σ H Q) : PGs X tgs t' := ⟨fun pins s σ H v u Q I r q => h.run pins s σ H v u Q I r (m v σ H Q q)⟩
theorem R.ok_bind {α β : Type} {x : R α} {f : α → R β} {b : β} (h : x.bind f = .ok b) : ∃ a, x = .ok a ∧ f a = .ok b := by
  cases x with
  | ok a => exact ⟨a, rfl, h⟩
  | exc c => cases h
  | bad => cases h
theorem R.ok_map {α β : Type} {x : R α} {f : α → β} {b : β} (h : x.map f = .ok b) : ∃ a, x = .ok a ∧ f a = b := by
  cases x with
  | ok a => exact ⟨a, rfl, by cases h; rfl⟩
  | exc c => cases h
  | bad => cases h
theorem jg_name {i : Nat} {x : Str} (h : PG X (.Name x pos) (gName i)) : JG X (.Name x pos) (tName i) [i] := pg_imp h fun v σ H Q ⟨B, G, ρ, d, ρ', rl, rv, ht, k⟩ => by
  unfold tName at ht
  have e : ρ' = ρ.set i (.val d) := by
    split at ht
    · cases ht
    · cases ht
    · cases ht; rfl
  subst e
  exact k _ (rl.setVal i rv) fun vs hv => wipe_set _ _ _ _ (hv i (by simp))
theorem jgs_nil : JGs X [] tsNil [] := pgs_imp pgs_nil fun vs σ H Q ⟨B, G, ρ, ds, ρ', rl, rv, ht, k⟩ => by
  cases rv with
  | nil =>
    cases ht
    exact ⟨rfl, k σ rl fun _ _ => rfl⟩
  | cons _ _ => cases ht
theorem jgs_cons {e : Expr} {es : List Expr} {t : D → Env → R Env} {u : List D → Env → R Env} {ws ws' : List Nat} (h1 : JG X e t ws) (h2 : JGs X es u ws')
    (hs : (assignEach (e :: es) X.env).map (·.2) = assign e X.env :: (assignEach es X.env).map (·.2) := by rfl) : JGs X (e :: es) (tsCons t u) (ws ++ ws') := pgs_imp (pgs_cons h1 h2 hs) fun vs σ H Q ⟨B, G, ρ, ds, ρ', rl, rv, ht, k⟩ => by
  cases rv with
  | nil => cases ht
  | @cons v vs d ds r1 r2 =>
    obtain ⟨ρ1, h3, h4⟩ := R.ok_bind ht
    refine ⟨v, vs, rfl, B, G, ρ, d, ρ1, rl, r1, h3, fun σ' rl' hw => ⟨B, G, ρ1, ds, ρ', rl', r2, h4, fun σ2 rl2 hw2 => k σ2 rl2 fun vs hv => ?_⟩⟩
    rw [hw2 vs fun j hj => hv j (List.mem_append_right _ hj), hw vs fun j hj => hv j (List.mem_append_left _ hj)]
theorem jg_tup {es : List Expr} {kk : Nat} {u : List D → Env → R Env} {n : Nat} {ws : List Nat} (hc : X.calm = true) (h : JGs X es u ws)
    (hn : (assignEach es X.env).length = n := by rfl) (hst : (assignEach es X.env).findIdx? (·.1) = none := by rfl) : JG X (.Tuple es kk pos) (tTupT n u) ws := pg_imp (pg_tup hc h hn hst) fun v σ H Q ⟨B, G, ρ, d, ρ', rl, rv, ht, k⟩ => by
  unfold tTupT at ht
  split at ht
  · rename_i ds
    split at ht
    · rename_i hl
      cases rv with
      | @tup a xs _ h1 h2 => exact ⟨a, xs, rfl, same_seqT rl.ex h1, by rw [h2.length]; exact hl, B, G, ρ, ds, ρ', rl, h2, ht, k⟩
    · cases ht
  · cases ht
theorem jg_lst {es : List Expr} {kk : Nat} {u : List D → Env → R Env} {n : Nat} {ws : List Nat} (hc : X.calm = true) (h : JGs X es u ws)
    (hn : (assignEach es X.env).length = n := by rfl) (hst : (assignEach es X.env).findIdx? (·.1) = none := by rfl) : JG X (.Tuple es kk pos) (tLstT n u) ws := pg_imp (pg_lst hc h hn hst) fun v σ H Q ⟨B, G, ρ, d, ρ', rl, rv, ht, k⟩ => by
  unfold tLstT at ht
  split at ht
  · rename_i ds
    split at ht
    · rename_i hl
      cases rv with
      | @lst a xs _ h1 h2 => exact ⟨a, xs, rfl, SqL.of (rl.ex _ _ h1), by rw [h2.length]; exact hl, B, G, ρ, ds, ρ', rl, h2, ht, k⟩
    · cases ht
  · cases ht
end

/-! ### comprehensions -/
def compR (h : D → R (Option D)) : List D → R (List D)
  | [] => .ok []
  | d :: ds => match h d with
    | .ok none => compR h ds
    | .ok (some x) => (compR h ds).map (x :: ·)
    | _ => .bad
def wipeS (ρ : Env) : List Nat → Env
  | [] => ρ
  | v :: vs => (wipeS ρ vs).set v .emp
theorem Rel.wipe {K : PySem.W.Frag} {B : Bs} {G H : Hp} {ρ : Env} {σ : L2.St} (r : Rel K B G H ρ σ) : ∀ vs : List Nat, Rel K B G H (wipeS ρ vs) (L2.wipe σ vs)
  | [] => r
  | v :: vs => (r.wipe vs).setEmp v none
def compH (vs : List Nat) (t : D → Env → R Env) (ft : Env → R Bool) (fe : Env → R D) (ρ : Env) : D → R (Option D) := fun d =>
  (t d (wipeS ρ vs)).bind fun ρ' => (ft ρ').bind fun b => if b = true then (fe ρ').map some else .ok none
def lLc (vs : List Nat) (t : D → Env → R Env) (ft : Env → R Bool) (fe : Env → R D) (fi : Env → R (List D)) : Env → R (List D) := fun ρ => (fi ρ).bind fun ds => match compR (compH vs t ft fe ρ) ds with
  | .ok xs => if xs.length ≤ LIM then .ok xs else .bad
  | _ => .bad
abbrev JTs (X : Cx) (E : EX) (ifs : List Expr) (f : Env → R Bool) : Prop := PTs X ifs (rdT X.K E f)
def tYesE : Env → R Bool := fun _ => .ok true
section
variable {X : Cx} {E : EX} {k : Nat} {pos : Pos}
theorem jts_nil : JTs X E [] tYesE := ⟨fun pins s σ H Q I ⟨B, G, ρ, rl, o⟩ => pts_nil.run pins s σ H Q I (Out.here (k := fun b G' H' => Q b H') o rl.ex)⟩
theorem jts_one {c : Expr} {f : Env → R Bool} (h : JT X E c f) : JTs X E [c] f := pts_one h
theorem Out.of_ok {α : Type} {E : EX} {G H : Hp} {x : R α} {a : α} {k : α → Hp → Hp → Prop} (e : x = .ok a) (h : ∀ G' H', Gw G H G' H' → k a G' H') : Out E G H x k := by
  rw [e]
  exact h
/-- the reading of a comprehension -/
theorem lc_top {fi : Env → R (List D)} {t : D → Env → R Env} {ws vs : List Nat} {ft : Env → R Bool} {fe : Env → R D} (hw : ∀ j ∈ ws, j ∈ vs) : ∀ σ H Q, rdF X.K E (lLc vs t ft fe fi) σ H Q → tLc (rdI X.K E fi) (rdG X.K t ws) (rdT X.K FX ft) (rdE X.K FX fe) vs σ H Q := fun σ H Q ⟨B, G, ρ, rl, o⟩ =>
  ⟨B, G, ρ, rl, o.bind.imp fun ds G1 H1 g1 o1 J P hJ hP Da hD => by
    split at o1
    case h_2 => exact o1.elim
    case h_1 xs hx =>
    split at o1
    case isFalse => exact o1.elim
    case isTrue hlim =>
    have rl1 := rl.gw g1
    have hB : B.H0 Da = none := rl1.gw0.2.1.free hD
    have hG1 : G1 Da = none := g1.2.2.1.free hD
    have nD := rl1.fresh hD
    refine ⟨fun i m H2 => m = ds.length - i ∧ i ≤ ds.length ∧ ∃ G2 acc done rest, Gw G1 H1 G2 H2 ∧ Rel X.K B G2 H2 ρ σ ∧ G2 Da = none ∧ H2 Da = some (.lst acc) ∧ RepL X.K G2 acc done ∧ compR (compH vs t ft fe ρ) (ds.drop i) = .ok rest ∧ done ++ rest = xs,
      ⟨_, rfl, Nat.zero_le _, G1, [], [], xs, Gw.own g1.2.2.1 hD, rl1.gw (Gw.own g1.2.2.1 hD), hG1, upd_same, .nil, hx, rfl⟩, ?_⟩
    rintro i m H2 ⟨rfl, hi, G2, acc, done, rest, g2, rl2, hG2, hH2, hacc, hr, hxs⟩
    obtain ⟨q1, q2⟩ := hJ i G2 H2 g2.1 rl2.ex (hP H2 g2.2.1)
    by_cases hlt : i < ds.length
    · have hd : ds[i]? = some ds[i] := List.getElem?_eq_getElem hlt
      obtain ⟨hgo, hy⟩ := q1 _ hd
      rw [List.drop_eq_getElem_cons hlt] at hr
      refine .inr ⟨hgo, fun H' => i + 1 ≤ ds.length ∧ ∃ G2 acc done rest, Gw G1 H1 G2 H' ∧ Rel X.K B G2 H' ρ σ ∧ G2 Da = none ∧ H' Da = some (.lst acc) ∧ RepL X.K G2 acc done ∧ compR (compH vs t ft fe ρ) (ds.drop (i + 1)) = .ok rest ∧ done ++ rest = xs,
        fun H' n => ⟨ds.length - (i + 1), by omega, rfl, n.1, n.2⟩, fun x H3 hyl => ?_⟩
      obtain ⟨G3, g3, rx⟩ := hy x H3 hyl
      have rl3 := rl2.gw g3
      have hG3 : G3 Da = none := g3.2.2.2 _ _ hH2 hG2
      unfold compR at hr
      have main : ∃ ρ' b, t ds[i] (wipeS ρ vs) = .ok ρ' ∧ ft ρ' = .ok b ∧ (b = true → ∃ y rest', fe ρ' = .ok y ∧ compR (compH vs t ft fe ρ) (ds.drop (i + 1)) = .ok rest' ∧ rest = y :: rest') ∧ (b = false → compR (compH vs t ft fe ρ) (ds.drop (i + 1)) = .ok rest) := by
        cases hc : compH vs t ft fe ρ ds[i] with
        | exc c => rw [hc] at hr; cases hr
        | bad => rw [hc] at hr; cases hr
        | ok oy =>
          rw [hc] at hr
          obtain ⟨ρ', h1, h2⟩ := R.ok_bind hc
          obtain ⟨b, h3, h4⟩ := R.ok_bind h2
          refine ⟨ρ', b, h1, h3, fun hb => ?_, fun hb => ?_⟩
          · subst hb
            rw [if_pos rfl] at h4
            obtain ⟨y, h5, h6⟩ := R.ok_map h4
            subst h6
            obtain ⟨r', h7, h8⟩ := R.ok_map hr
            exact ⟨y, r', h5, h7, h8.symm⟩
          · subst hb
            rw [if_neg (by decide)] at h4
            cases h4
            exact hr
      obtain ⟨ρ', b, h1, h3, hT, hF⟩ := main
      refine ⟨B, G3, wipeS ρ vs, ds[i], ρ', rl3.wipe vs, rx, h1, fun σ' rl' hwp => ⟨by rw [hwp vs hw, wipe_wipe], B, G3, ρ', rl', Out.of_ok h3 fun G4 H4 g4 => ?_⟩⟩
      have hH4 : H4 Da = some (.lst acc) := g4.2.1 _ _ (g3.2.1 _ _ hH2)
      have hG4 : G4 Da = none := g4.2.2.2 _ _ (g3.2.1 _ _ hH2) hG3
      cases b with
      | true =>
        obtain ⟨y, rest', h5, h7, h8⟩ := hT rfl
        refine iteT ?_
        refine ⟨B, G4, ρ', rl'.gw g4, Out.of_ok h5 fun G5 H5 g5 v rv => ⟨acc, g5.2.1 _ _ hH4, ?_, hlt, G5, acc ++ [v], done ++ [y], rest', ?_, ?_, ?_, upd_same, ?_, h7, ?_⟩⟩
        · have e1 := hacc.length
          have e2 := congrArg List.length hxs
          rw [h8, List.length_append, List.length_cons] at e2
          refine lim_lt ?_
          omega
        · have g := (g2.trans g3).trans (g4.trans g5)
          exact ⟨g.1, same_up g.2.1 hD, same_up g.2.2.1 (g5.2.2.2 _ _ hH4 hG4), g.2.2.2⟩
        · exact ((rl3.gw g4).gw g5).other (g5.2.2.2 _ _ hH4 hG4) hB nD
        · exact g5.2.2.2 _ _ hH4 hG4
        · exact (((hacc.mono g3.1).mono g4.1).mono g5.1).snoc rv
        · rw [← hxs, h8, List.append_assoc]
          rfl
      | false =>
        refine iteF ?_
        exact ⟨hlt, G4, acc, done, rest, (g2.trans g3).trans g4, rl3.gw g4, hG4, hH4, (hacc.mono g3.1).mono g4.1, hF rfl, hxs⟩
    · have e : i = ds.length := by omega
      subst e
      rw [List.drop_length] at hr
      cases hr
      refine .inl ⟨q2 (Nat.le_refl _), ?_⟩
      rw [List.append_nil] at hxs
      subst hxs
      exact o1 G2 H2 g2 Da acc (g1.2.1.free hD) hG2 hH2 hacc⟩
theorem jf_lc {elt tg iter : Expr} {ifs : List Expr} {scope : Scope} {own : List (Str × Nat)} {fi : Env → R (List D)} {t : D → Env → R Env} {ws : List Nat} {ft : Env → R Bool} {fe : Env → R D} (C : Cxt X E k) (hi : JI X E tg iter fi) (ok : BlkOk X.N X.env.scope scope own)
    (hg : ∀ (s : Shared) (H : Hp) (C : Addr) (cl : List (Str × Addr)) (fp : List Addr), JG (X.blk s H scope (compEnvC scope cl C X.env) fp) tg t ws) (ht : ∀ (s : Shared) (H : Hp) (C : Addr) (cl : List (Str × Addr)) (fp : List Addr), JTs (X.blk s H scope (compEnvC scope cl C X.env) fp) FX ifs ft)
    (he : ∀ (s : Shared) (H : Hp) (C : Addr) (cl : List (Str × Addr)) (fp : List Addr), JE (X.blk s H scope (compEnvC scope cl C X.env) fp) FX elt fe) (hw : ∀ j ∈ ws, j ∈ own.map (·.2)) (hs : ∀ x, foldedSetIterable iter X.env x = pure x := by intro _; rfl) :
    JF X E (.ListComp elt [⟨tg, iter, ifs, 0⟩] scope pos) (lLc (own.map (·.2)) t ft fe fi) := pe_imp (pe_lc C.calm C.nd hi ok hg ht he hs) (lc_top hw)
end
end Mp

set_option Elab.async false
set_option linter.all false
set_option maxRecDepth 100000
/-! Mp5: statements, loops, defs. -/
namespace Mp
open PySem L2

inductive SR where
  | nx (ρ : Env)
  | rt (d : D)
  | rl (xs : List D)
  | bk (ρ : Env)
  | ct (ρ : Env)
  | exc (c : Str)
  | bad
def fin (K : PySem.W.Frag) (E : EX) (B : Bs) (Dn : Ends) (G : Hp) : SR → Prop
  | .nx ρ' => ∀ σ' G' H', Rel K B G' H' ρ' σ' → Same G G' → Dn.nx σ' H'
  | .bk ρ' => ∀ σ' G' H', Rel K B G' H' ρ' σ' → Same G G' → Dn.bk σ' H'
  | .ct ρ' => ∀ σ' G' H', Rel K B G' H' ρ' σ' → Same G G' → Dn.ct σ' H'
  | .rt d => ∀ v G' H', Gw B.G0 B.H0 G' H' → Rep K G' v d → Dn.rt v H'
  | .rl xs => ∀ p vs G' H', Gw B.G0 B.H0 G' H' → B.H0 p = none → G' p = none → H' p = some (.lst vs) → RepL K G' vs xs → Dn.rt (.ref p) H'
  | .exc c => ∀ G' H', Gw B.G0 B.H0 G' H' → E c H'
  | .bad => False
theorem fin.mono {K : PySem.W.Frag} {E : EX} {B : Bs} {Dn : Ends} {G G1 : Hp} (s : Same G G1) : ∀ {r : SR}, fin K E B Dn G r → fin K E B Dn G1 r
  | .nx _, h => fun σ' G' H' rl s' => h σ' G' H' rl (s.trans s')
  | .bk _, h => fun σ' G' H' rl s' => h σ' G' H' rl (s.trans s')
  | .ct _, h => fun σ' G' H' rl s' => h σ' G' H' rl (s.trans s')
  | .rt _, h => h
  | .rl _, h => h
  | .exc _, h => h
  | .bad, h => h
def rdS (K : PySem.W.Frag) (E : EX) (f : Env → SR) : TS := fun Dn σ H => ∃ B G ρ, Rel K B G H ρ σ ∧ fin K E B Dn G (f ρ)
abbrev JS (X : Cx) (E : EX) (st : Stmt) (f : Env → SR) : Prop := PS X st (rdS X.K E f)
abbrev JSs (X : Cx) (E : EX) (sts : List Stmt) (f : Env → SR) : Prop := PSs X sts (rdS X.K E f)
def lift {α : Type} (x : R α) (k : α → SR) : SR := match x with
  | .ok a => k a
  | .exc c => .exc c
  | .bad => .bad
/-- an expression's value is used -/
theorem fin.lift {α : Type} {K : PySem.W.Frag} {E : EX} {B : Bs} {Dn : Ends} {G H : Hp} {ρ : Env} {σ : L2.St} {x : R α} {k : α → SR} (rl : Rel K B G H ρ σ) (h : fin K E B Dn G (lift x k)) : Out E G H x fun a G' H' => fin K E B Dn G' (k a) := by
  cases x with
  | ok a => exact fun G' H' g => fin.mono g.1 h
  | exc c => exact fun G' H' g => h G' H' (rl.gw0.trans g)
  | bad => exact h
section
variable {X : Cx} {E : EX} {st : Stmt} {sts rest : List Stmt} {k : Nat} {e : Expr} {pos : Pos} {f g : Env → SR}
theorem ps_imp {t t' : TS} (h : PS X st t) (m : ∀ D σ H, t' D σ H → t D σ H) : PS X st t' := ⟨fun pins s σ H D I q => h.run pins s σ H D I (m D σ H q)⟩
theorem pss_imp {t t' : TS} (h : PSs X sts t) (m : ∀ D σ H, t' D σ H → t D σ H) : PSs X sts t' := ⟨fun pins s σ H D I q => h.run pins s σ H D I (m D σ H q)⟩
def sNx : Env → SR := fun ρ => .nx ρ
def sSeq (f g : Env → SR) : Env → SR := fun ρ => match f ρ with
  | .nx ρ' => g ρ'
  | r => r
theorem jss_nil : JSs X E [] sNx := pss_imp pss_nil fun D σ H ⟨B, G, ρ, rl, o⟩ => o σ G H rl (Same.refl _)
theorem jss_one (h : JS X E st f) : JSs X E [st] f := pss_one h
theorem jss_cons (h1 : JS X E st f) (h2 : JSs X E rest g) : JSs X E (st :: rest) (sSeq f g) := pss_imp (pss_cons h1 h2) fun D σ H ⟨B, G, ρ, rl, o⟩ => ⟨B, G, ρ, rl, by
  unfold sSeq at o
  cases hf : f ρ with
  | nx ρ' =>
    rw [hf] at o
    exact fun σ' G' H' rl' s => ⟨B, G', ρ', rl', fin.mono s o⟩
  | rt d => rw [hf] at o; exact o
  | rl xs => rw [hf] at o; exact o
  | bk ρ' => rw [hf] at o; exact o
  | ct ρ' => rw [hf] at o; exact o
  | exc c => rw [hf] at o; exact o
  | bad => rw [hf] at o; exact o⟩
/-- an own list is shared from here on -/
def frz (i : Nat) (ρ : Env) : Env := match ρ[i]? with
  | some (.own xs) => ρ.set i (.val (.list xs))
  | _ => ρ
def sFrz (i : Nat) (f : Env → SR) : Env → SR := fun ρ => f (frz i ρ)
theorem jss_frz (i : Nat) (h : JSs X E sts f) : JSs X E sts (sFrz i f) := pss_imp h fun D σ H ⟨B, G, ρ, rl, o⟩ => by
  unfold sFrz frz at o
  cases e : ρ[i]? with
  | none => rw [e] at o; exact ⟨B, G, ρ, rl, o⟩
  | some s =>
    cases s with
    | own xs =>
      rw [e] at o
      obtain ⟨G', g, s, r'⟩ := rl.freeze e
      exact ⟨B, G', _, r', fin.mono s o⟩
    | emp => rw [e] at o; exact ⟨B, G, ρ, rl, o⟩
    | pin => rw [e] at o; exact ⟨B, G, ρ, rl, o⟩
    | exn a => rw [e] at o; exact ⟨B, G, ρ, rl, o⟩
    | val d => rw [e] at o; exact ⟨B, G, ρ, rl, o⟩
    | hold xs => rw [e] at o; exact ⟨B, G, ρ, rl, o⟩
    | dct xs => rw [e] at o; exact ⟨B, G, ρ, rl, o⟩
theorem js_pass : JS X E (.Pass pos) sNx := ps_imp ps_pass fun D σ H ⟨B, G, ρ, rl, o⟩ => o σ G H rl (Same.refl _)
def sBk : Env → SR := fun ρ => .bk ρ
def sCt : Env → SR := fun ρ => .ct ρ
theorem js_break : JS X E (.Break pos) sBk := ps_imp ps_break fun D σ H ⟨B, G, ρ, rl, o⟩ => o σ G H rl (Same.refl _)
theorem js_cont : JS X E (.Continue pos) sCt := ps_imp ps_continue fun D σ H ⟨B, G, ρ, rl, o⟩ => o σ G H rl (Same.refl _)
/-! ### return -/
def sRet (f : Env → R D) : Env → SR := fun ρ => lift (f ρ) .rt
def sRetL (f : Env → R (List D)) : Env → SR := fun ρ => lift (f ρ) .rl
def sRetO (i : Nat) : Env → SR := fun ρ => match ρ[i]? with
  | some (.own xs) => .rl xs
  | _ => .bad
def sRetN : Env → SR := fun _ => .rt .none
theorem js_ret {f : Env → R D} (h : JE X E e f) : JS X E (.Return (some e) pos) (sRet f) := ps_imp (ps_ret h) fun D σ H ⟨B, G, ρ, rl, o⟩ => ⟨B, G, ρ, rl, (fin.lift rl o).imp fun d G' H' g q v rv => q v G' H' (rl.gw0.trans g) rv⟩
theorem js_retL {f : Env → R (List D)} (h : JF X E e f) : JS X E (.Return (some e) pos) (sRetL f) := ps_imp (ps_ret h) fun D σ H ⟨B, G, ρ, rl, o⟩ => ⟨B, G, ρ, rl, (fin.lift rl o).imp fun d G' H' g q p vs hp hn hl hr => q p vs G' H' (rl.gw0.trans g) (rl.gw0.2.1.free hp) hn hl hr⟩
theorem js_retO {i : Nat} {x : Str} {p : Pos} (h : PE X (.Name x p) (tVar i)) : JS X E (.Return (some (.Name x p)) pos) (sRetO i) := ps_imp (ps_ret h) fun D σ H ⟨B, G, ρ, rl, o⟩ => by
  unfold sRetO at o
  cases e : ρ[i]? with
  | none => rw [e] at o; exact o.elim
  | some s =>
    cases s with
    | own xs =>
      rw [e] at o
      obtain ⟨p, vs, e1, h1, h2, h3, h4⟩ := rl.sl i _ e
      exact ⟨.ref p, e1, o p vs G H rl.gw0 h3 h2 h1 h4⟩
    | emp => rw [e] at o; exact o.elim
    | pin => rw [e] at o; exact o.elim
    | exn a => rw [e] at o; exact o.elim
    | val d => rw [e] at o; exact o.elim
    | hold xs => rw [e] at o; exact o.elim
    | dct xs => rw [e] at o; exact o.elim
theorem js_retN : JS X E (.Return none pos) sRetN := ps_imp ps_retN fun D σ H ⟨B, G, ρ, rl, o⟩ => o .non G H rl.gw0 .non
/-- an expression for its errors alone -/
def sExpr (f : Env → R D) : Env → SR := fun ρ => lift (f ρ) fun _ => .nx ρ
theorem js_expr {f : Env → R D} (h : JE X E e f) (hs : swapsWith e none pos.line X.env = pure false := by rfl) : JS X E (.Expr e pos) (sExpr f) := ps_imp (ps_expr h hs) fun D σ H ⟨B, G, ρ, rl, o⟩ => ⟨B, G, ρ, rl, (fin.lift rl o).imp fun d G' H' g q v rv => q σ G' H' (rl.gw g) (Same.refl _)⟩
/-- raise C("..") of an own class of errors -/
structure Err (K : PySem.W.Frag) (mg : Str → Option Value) (x : Str) : Prop where
  ex : ∃ C, mg x = some (.ref C) ∧ PySem.W.excIn K C [.type "ValueError", .type "Exception", .type "BaseException", .type "object"] "ValueError.__new__" = true ∧ PySem.W.keepIn K (.ref C) = true ∧
    PySem.W.subIn K (.ref C) (.type "BaseException") = some true ∧ PySem.W.typeIn K (.ref C) = some (.type "type")
def sRaise (x : Str) : Env → SR := fun _ => .exc x
theorem js_raise {x m : Str} {j : Nat} {p p2 p3 : Pos} (C : Cxt X E k) (S : Cxs X E) (Er : Err X.K X.mg x) (hg : Gl X x) (hdb : (x == ("__debug__" : Str)) = false := by decide) : JS X E (.Raise (some (.Call (.Name x p) [.Constant (.str m) j p2] [] p3)) none pos) (sRaise x) := by
  obtain ⟨Ca, h1, h2, h3, h4, h5⟩ := Er.ex
  obtain ⟨EE, tk, hE⟩ := S.tk
  exact ps_imp (ps_raise C.calm tk (pmk_own PySem.F.excBase_ValueError h2 h1 h3 (raises_own h4 h5) hg hdb)) fun D σ H ⟨B, G, ρ, rl, o⟩ => hE _ _ (o G H rl.gw0) Ca h1
/-! ### if -/
def sIf (c : Env → R Bool) (f g : Env → SR) : Env → SR := fun ρ => lift (c ρ) fun b => if b = true then f ρ else g ρ
theorem js_if {c : Expr} {a b : List Stmt} {t : Env → R Bool} (hc : JT X E c t) (ha : JSs X E a f) (hb : JSs X E b g) : JS X E (.If c a b pos) (sIf t f g) := ps_imp (ps_if hc ha hb) fun D σ H ⟨B, G, ρ, rl, o⟩ => ⟨B, G, ρ, rl, (fin.lift rl o).imp fun k G' H' g' q => by
  cases k with
  | true => exact ⟨B, G', ρ, rl.gw g', q⟩
  | false => exact ⟨B, G', ρ, rl.gw g', q⟩⟩
/-! ### assignments -/
def ofR (x : R Env) : SR := match x with
  | .ok ρ => .nx ρ
  | _ => .bad
def sAsg (t : D → Env → R Env) (f : Env → R D) : Env → SR := fun ρ => lift (f ρ) fun d => ofR (t d ρ)
def sSet (i : Nat) (f : Env → R D) : Env → SR := sAsg (tName i) f
def setL (i : Nat) (xs : List D) (ρ : Env) : SR := match ρ[i]? with
  | some (.hold _) => .bad
  | none => .bad
  | _ => .nx (ρ.set i (.own xs))
def sSetL (i : Nat) (f : Env → R (List D)) : Env → SR := fun ρ => lift (f ρ) fun xs => setL i xs ρ
theorem asg_top {te : TE} {f : Env → R D} {t : D → Env → R Env} {ws : List Nat} (m : ∀ σ H Q, rdE X.K E f σ H Q → te σ H Q) : ∀ D σ H, rdS X.K E (sAsg t f) D σ H → tAsg te (rdG X.K t ws) D σ H := fun D σ H ⟨B, G, ρ, rl, o⟩ => m σ H _ ⟨B, G, ρ, rl, (fin.lift rl o).imp fun d G' H' g q v rv => by
  cases ht : t d ρ with
  | ok ρ' =>
    rw [ht] at q
    exact ⟨B, G', ρ, d, ρ', rl.gw g, rv, ht, fun σ' rl' _ => q σ' G' H' rl' (Same.refl _)⟩
  | exc c => rw [ht] at q; exact q.elim
  | bad => rw [ht] at q; exact q.elim⟩
theorem set_top {te : TE} {i : Nat} {f : Env → R D} (m : ∀ σ H Q, rdE X.K E f σ H Q → te σ H Q) : ∀ D σ H, rdS X.K E (sSet i f) D σ H → tAsg te (gName i) D σ H := fun D σ H ⟨B, G, ρ, rl, o⟩ => m σ H _ ⟨B, G, ρ, rl, (fin.lift rl o).imp fun d G' H' g q v rv => by
  unfold tName at q
  split at q
  · exact q.elim
  · exact q.elim
  · exact q (σ.set i (some v)) G' H' ((rl.gw g).setVal i rv) (Same.refl _)⟩
theorem setL_top {te : TE} {i : Nat} {f : Env → R (List D)} (m : ∀ σ H Q, rdF X.K E f σ H Q → te σ H Q) : ∀ D σ H, rdS X.K E (sSetL i f) D σ H → tAsg te (gName i) D σ H := fun D σ H ⟨B, G, ρ, rl, o⟩ => m σ H _ ⟨B, G, ρ, rl, (fin.lift rl o).imp fun xs G' H' g q p vs hp hn hl hr => by
  unfold setL at q
  split at q
  · exact q.elim
  · exact q.elim
  · exact q (σ.set i (some (.ref p))) G' H' ((rl.gw g).setMut i (rl.fresh hp) ⟨p, vs, rfl, hl, hn, rl.gw0.2.1.free hp, hr⟩) (Same.refl _)⟩
theorem js_asg {tg : Expr} {f : Env → R D} {t : D → Env → R Env} {ws : List Nat} (he : JE X E e f) (hg : JG X tg t ws) (hs : swapsWithSole [tg] e pos.line X.env = pure false := by rfl) (hw : swappedStores [tg] e X.env = pure none := by rfl)
    (h1 : (assignEach [tg] X.env).map (·.2) = [assign tg X.env] := by rfl) : JS X E (.Assign [tg] e pos) (sAsg t f) := ps_imp (ps_asg he hg hs hw h1) (asg_top fun _ _ _ q => q)
theorem js_set {i : Nat} {x : Str} {f : Env → R D} {pos' : Pos} (hN : X.N.Nodup) (hi : X.N[i]? = some x) (hx : Loc X.env.scope x) (he : JE X E e f) (hs : swapsWith e (some (.Name x pos')) pos.line X.env = pure false := by rfl) (hf : X.fn x = true ∨ X.env.scope.names.lookup x = some .local := by first | exact .inl rfl | exact .inr rfl | assumption) :
    JS X E (.Assign [.Name x pos'] e pos) (sSet i f) := ps_imp (ps_set hN hi hx he hs hf) (set_top fun _ _ _ q => q)
theorem js_setL {i : Nat} {x : Str} {f : Env → R (List D)} {pos' : Pos} (hN : X.N.Nodup) (hi : X.N[i]? = some x) (hx : Loc X.env.scope x) (he : JF X E e f) (hs : swapsWith e (some (.Name x pos')) pos.line X.env = pure false := by rfl) (hf : X.fn x = true ∨ X.env.scope.names.lookup x = some .local := by first | exact .inl rfl | exact .inr rfl | assumption) :
    JS X E (.Assign [.Name x pos'] e pos) (sSetL i f) := ps_imp (ps_set hN hi hx he hs hf) (setL_top fun _ _ _ q => q)
/-- y = [..] on one line, y a local: the list y's own, or shared -/
theorem js_lcL {i : Nat} {y : Str} {py spos : Pos} {elt tg iter : Expr} {ifs : List Expr} {scope : Scope} {own : List (Str × Nat)} {fi : Env → R (List D)} {t : D → Env → R Env} {ws : List Nat} {ft : Env → R Bool} {fe : Env → R D} (C : Cxt X E k)
    (hy : X.N[i]? = some y) (hyl : X.env.scope.names.lookup y = some .local) (hsw : swapsWith (.ListComp elt [⟨tg, iter, ifs, 0⟩] scope pos) (some (.Name y py)) spos.line X.env = pure true) (hi : JI X E tg iter fi) (ok : BlkOk X.N X.env.scope scope own)
    (hg : ∀ (s : Shared) (H : Hp) (C : Addr) (cl : List (Str × Addr)) (fp : List Addr), JG (X.blk s H scope (compEnvC scope cl C X.env) fp) tg t ws) (ht : ∀ (s : Shared) (H : Hp) (C : Addr) (cl : List (Str × Addr)) (fp : List Addr), JTs (X.blk s H scope (compEnvC scope cl C X.env) fp) FX ifs ft)
    (he : ∀ (s : Shared) (H : Hp) (C : Addr) (cl : List (Str × Addr)) (fp : List Addr), JE (X.blk s H scope (compEnvC scope cl C X.env) fp) FX elt fe) (hw : ∀ j ∈ ws, j ∈ own.map (·.2)) (hs : ∀ x, foldedSetIterable iter X.env x = pure x := by intro _; rfl) :
    JS X E (.Assign [.Name y py] (.ListComp elt [⟨tg, iter, ifs, 0⟩] scope pos) spos) (sSetL i (lLc (own.map (·.2)) t ft fe fi)) := ps_imp (ps_setLc C.calm C.nd hy hyl hsw hi ok hg ht he hs) (setL_top (lc_top hw))
theorem rdF_E {f : Env → R (List D)} : ∀ σ H Q, rdE X.K E (eL f) σ H Q → rdF X.K E f σ H Q := fun σ H Q ⟨B, G, ρ, r, o⟩ => ⟨B, G, ρ, r, by
  unfold eL at o
  cases hf : f ρ with
  | ok xs =>
    rw [hf] at o
    intro G' H' g p vs hp hn hl hr
    exact o _ H' (g.share hp hn hl) (.ref p) (.lst upd_same (hr.mono (same_new hn)))
  | exc c => rw [hf] at o; exact o
  | bad => rw [hf] at o; exact o⟩
theorem js_lc {i : Nat} {y : Str} {py spos : Pos} {elt tg iter : Expr} {ifs : List Expr} {scope : Scope} {own : List (Str × Nat)} {fi : Env → R (List D)} {t : D → Env → R Env} {ws : List Nat} {ft : Env → R Bool} {fe : Env → R D} (C : Cxt X E k)
    (hy : X.N[i]? = some y) (hyl : X.env.scope.names.lookup y = some .local) (hsw : swapsWith (.ListComp elt [⟨tg, iter, ifs, 0⟩] scope pos) (some (.Name y py)) spos.line X.env = pure true) (hi : JI X E tg iter fi) (ok : BlkOk X.N X.env.scope scope own)
    (hg : ∀ (s : Shared) (H : Hp) (C : Addr) (cl : List (Str × Addr)) (fp : List Addr), JG (X.blk s H scope (compEnvC scope cl C X.env) fp) tg t ws) (ht : ∀ (s : Shared) (H : Hp) (C : Addr) (cl : List (Str × Addr)) (fp : List Addr), JTs (X.blk s H scope (compEnvC scope cl C X.env) fp) FX ifs ft)
    (he : ∀ (s : Shared) (H : Hp) (C : Addr) (cl : List (Str × Addr)) (fp : List Addr), JE (X.blk s H scope (compEnvC scope cl C X.env) fp) FX elt fe) (hw : ∀ j ∈ ws, j ∈ own.map (·.2)) (hs : ∀ x, foldedSetIterable iter X.env x = pure x := by intro _; rfl) :
    JS X E (.Assign [.Name y py] (.ListComp elt [⟨tg, iter, ifs, 0⟩] scope pos) spos) (sSet i (eL (lLc (own.map (·.2)) t ft fe fi))) := ps_imp (ps_setLc C.calm C.nd hy hyl hsw hi ok hg ht he hs) (set_top fun σ H Q q => lc_top hw σ H Q (rdF_E σ H Q q))
/-- x op= e, both whole numbers -/
def sAug (i : Nat) (h : Int → Int → Int) (f : Env → R D) : Env → SR := fun ρ => match ρ[i]? with
  | some (.val (.int a)) => lift (f ρ) fun d => match d with
    | .int b => .nx (ρ.set i (.val (.int (h a b))))
    | _ => .bad
  | _ => .bad
theorem js_aug {i : Nat} {x : Str} {op : Operator} {h : Int → Int → Int} {f : Env → R D} {pos' : Pos} (hN : X.N.Nodup) (hi : X.N[i]? = some x) (hx : Loc X.env.scope x) (he : JE X E e f) (ho : PIp X op (ipI h)) (hf : X.fn x = true ∨ X.env.scope.names.lookup x = some .local := by first | exact .inl rfl | exact .inr rfl | assumption) :
    JS X E (.AugAssign (.Name x pos') op e pos) (sAug i h f) := ps_imp (ps_aug hN hi hx he ho hf) fun D σ H ⟨B, G, ρ, rl, o⟩ => by
  unfold sAug at o
  split at o
  · rename_i a ha
    obtain ⟨v, e1, r1⟩ := rl.sl i _ ha
    cases r1
    refine ⟨.int a, e1, B, G, ρ, rl, (fin.lift rl o).imp fun d G' H' g q v rv => ?_⟩
    split at q
    · rename_i b
      cases rv
      exact ⟨a, b, rfl, rfl, q _ G' H' ((rl.gw g).setVal i (.int _)) (Same.refl _)⟩
    · exact q.elim
  · exact o.elim
/-! ### an own list changes in place -/
def sApp (i : Nat) (f : Env → R D) : Env → SR := fun ρ => match ρ[i]? with
  | some (.own xs) => lift (f ρ) fun d => if xs.length < LIM then .nx (ρ.set i (.own (xs ++ [d]))) else .bad
  | _ => .bad
theorem js_app {i : Nat} {x : Str} {f : Env → R D} {p apos cpos : Pos} (hx : PE X (.Name x p) (tVar i)) (h : JE X E e f) (hbase : attributeBase (.Name x p) "append" X.env (eval (.Name x p) X.env) = eval (.Name x p) X.env := by rfl)
    (hfew : ((backTo cpos (starEach [e] X.env)).all (fun x => !x.1) && (backToKw cpos (keywordEach [] X.env)).all (fun x => x.1.isSome)
      && decide ([e].length + ([] : List Keyword).length + (if ([] : List Keyword).isEmpty then 0 else 1) < 30)) = true := by rfl)
    (hline : (apos.endLine == cpos.line) = true := by rfl) (hs : starEach [e] X.env = (false, eval e X.env) :: starEach [] X.env := by rfl) (hplain : (backTo cpos (starEach [] X.env)).any (·.1) = false := by rfl)
    (hsw : swapsWith (.Call (.Attribute (.Name x p) "append" apos) [e] [] cpos) none pos.line X.env = pure false := by rfl) : JS X E (.Expr (.Call (.Attribute (.Name x p) "append" apos) [e] [] cpos) pos) (sApp i f) :=
  ps_imp (ps_expr (pe_bm PySem.F.plainAttrs_list PySem.F.slot_list_append PySem.F.type_list_append mt_append hx (pa_cons h pa_nil hs) hbase hfew hline hs hplain) hsw) fun D σ H ⟨B, G, ρ, rl, o⟩ => by
  unfold sApp at o
  split at o
  · rename_i xs hx
    obtain ⟨p, vs, e1, h1, h2, h3, h4⟩ := rl.sl i _ hx
    refine ⟨.ref p, e1, .inl ⟨rfl, vs, SqL.of h1⟩, B, G, ρ, rl, (fin.lift rl o).imp fun d G' H' g q v rv => ?_⟩
    split at q
    · rename_i hl
      have k1 := g.2.1 _ _ h1
      refine ⟨p, vs, v, rfl, rfl, k1, by rw [h4.length]; exact lim_lt hl, q σ G' _ ((rl.gw g).change hx rfl e1 (s' := .own (xs ++ [d])) ⟨p, vs ++ [v], rfl, upd_same, g.2.2.2 _ _ h1 h2, h3, (h4.mono g.1).snoc rv⟩ rfl) (Same.refl _)⟩
    · exact q.elim
  · exact o.elim
def sExt (i : Nat) (f : Env → R D) : Env → SR := fun ρ => match ρ[i]? with
  | some (.own xs) => lift (f ρ) fun d => match d with
    | .list ys => if xs.length + ys.length ≤ LIM then .nx (ρ.set i (.own (xs ++ ys))) else .bad
    | _ => .bad
  | _ => .bad
theorem js_ext {i : Nat} {x : Str} {f : Env → R D} {p apos cpos : Pos} (hx : PE X (.Name x p) (tVar i)) (h : JB X E e f) (hbase : attributeBase (.Name x p) "extend" X.env (eval (.Name x p) X.env) = eval (.Name x p) X.env := by rfl)
    (hfew : ((backTo cpos (starEach [e] X.env)).all (fun x => !x.1) && (backToKw cpos (keywordEach [] X.env)).all (fun x => x.1.isSome)
      && decide ([e].length + ([] : List Keyword).length + (if ([] : List Keyword).isEmpty then 0 else 1) < 30)) = true := by rfl)
    (hline : (apos.endLine == cpos.line) = true := by rfl) (hs : starEach [e] X.env = (false, eval e X.env) :: starEach [] X.env := by rfl) (hplain : (backTo cpos (starEach [] X.env)).any (·.1) = false := by rfl)
    (hsw : swapsWith (.Call (.Attribute (.Name x p) "extend" apos) [e] [] cpos) none pos.line X.env = pure false := by rfl) : JS X E (.Expr (.Call (.Attribute (.Name x p) "extend" apos) [e] [] cpos) pos) (sExt i f) :=
  ps_imp (ps_expr (pe_bm PySem.F.plainAttrs_list PySem.F.slot_list_extend PySem.F.type_list_extend mt_extend hx (pa_cons h pa_nil hs) hbase hfew hline hs hplain) hsw) fun D σ H ⟨B, G, ρ, rl, o⟩ => by
  unfold sExt at o
  split at o
  · rename_i xs hx
    obtain ⟨p, vs, e1, h1, h2, h3, h4⟩ := rl.sl i _ hx
    refine ⟨.ref p, e1, .inl ⟨rfl, vs, SqL.of h1⟩, B, G, ρ, rl, (fin.lift rl o).imp fun d G' H' g q v rv => ?_⟩
    split at q
    · rename_i ys
      split at q
      · rename_i hl
        have k1 := g.2.1 _ _ h1
        obtain ⟨b, ws, rfl, k2, k3⟩ := rv.lst g.2.2.1
        refine ⟨p, b, vs, ws, rfl, rfl, k1, k2, by rw [h4.length, k3.length]; exact lim_le hl, q σ G' _ ((rl.gw g).change hx rfl e1 (s' := .own (xs ++ ys)) ⟨p, vs ++ ws, rfl, upd_same, g.2.2.2 _ _ h1 h2, h3, (h4.mono g.1).append k3⟩ rfl) (Same.refl _)⟩
      · exact q.elim
    · exact q.elim
  · exact o.elim
/-! ### loops -/
def loopS (h : D → Env → SR) : List D → Env → SR
  | [], ρ => .nx ρ
  | d :: ds, ρ => match h d ρ with
    | .nx ρ' => loopS h ds ρ'
    | .ct ρ' => loopS h ds ρ'
    | .bk ρ' => .nx ρ'
    | r => r
def bodyH (t : D → Env → R Env) (fb : Env → SR) : D → Env → SR := fun d ρ => match t d ρ with
  | .ok ρ' => fb ρ'
  | _ => .bad
def sFor (fi : Env → R (List D)) (t : D → Env → R Env) (fb : Env → SR) : Env → SR := fun ρ => lift (fi ρ) fun ds => loopS (bodyH t fb) ds ρ
/-- one turn of a loop -/
theorem turn_top {K : PySem.W.Frag} {B : Bs} {Dn : Ends} {G H : Hp} {ρ : Env} {σ : L2.St} {t : D → Env → R Env} {ws : List Nat} {fb : Env → SR} {d : D} {ds : List D} {v : V} {N : L2.St → Hp → Prop} (rl : Rel K B G H ρ σ) (rv : Rep K G v d)
    (o : fin K E B Dn G (loopS (bodyH t fb) (d :: ds) ρ)) (hN : ∀ σ' G' H' ρ', Rel K B G' H' ρ' σ' → Same G G' → fin K E B Dn G' (loopS (bodyH t fb) ds ρ') → N σ' H') :
    rdG K t ws v σ H fun σ2 H2 => rdS K E fb { Dn with nx := N, ct := N, bk := Dn.nx } σ2 H2 := by
  unfold loopS at o
  unfold bodyH at o
  cases ht : t d ρ with
  | exc c => rw [ht] at o; exact o.elim
  | bad => rw [ht] at o; exact o.elim
  | ok ρ' =>
    rw [ht] at o
    refine ⟨B, G, ρ, d, ρ', rl, rv, ht, fun σ' rl' _ => ⟨B, G, ρ', rl', ?_⟩⟩
    cases hf : fb ρ' with
    | nx ρ2 =>
      simp only [hf] at o
      exact fun σ2 G2 H2 rl2 s => hN σ2 G2 H2 ρ2 rl2 s (fin.mono s o)
    | ct ρ2 =>
      simp only [hf] at o
      exact fun σ2 G2 H2 rl2 s => hN σ2 G2 H2 ρ2 rl2 s (fin.mono s o)
    | bk ρ2 => simp only [hf] at o; exact o
    | rt d => simp only [hf] at o; exact o
    | rl xs => simp only [hf] at o; exact o
    | exc c => simp only [hf] at o; exact o
    | bad => simp only [hf] at o; exact o
theorem js_for {tg it : Expr} {body : List Stmt} {fi : Env → R (List D)} {t : D → Env → R Env} {ws : List Nat} {fb : Env → SR} (C : Cxt X E k) (S : Cxs X E) (hi : JI0 X E tg it fi) (hg : JG X tg t ws) (hb : JSs X E body fb)
    (hs : ∀ x, foldedSetIterable it X.env x = pure x := by intro _; rfl) : JS X E (.For tg it body [] pos) (sFor fi t fb) := ps_imp (ps_for S.own C.calm hi hg hb hs) fun Dn σ H ⟨B, G, ρ, rl, o⟩ => ⟨B, G, ρ, rl, (fin.lift rl o).imp fun ds G1 H1 g1 o1 J hJ => by
  refine ⟨fun i m σ H2 => m = ds.length - i ∧ i ≤ ds.length ∧ ∃ G2 ρ2, Rel X.K B G2 H2 ρ2 σ ∧ Same G1 G2 ∧ fin X.K E B Dn G2 (loopS (bodyH t fb) (ds.drop i) ρ2), ⟨_, rfl, Nat.zero_le _, G1, ρ, rl.gw g1, Same.refl _, o1⟩, ?_⟩
  rintro i m σ2 H2 ⟨rfl, hi, G2, ρ2, rl2, s2, o2⟩
  obtain ⟨q1, q2⟩ := hJ i G2 H2 s2 rl2.ex True.intro
  by_cases hlt : i < ds.length
  · have hd : ds[i]? = some ds[i] := List.getElem?_eq_getElem hlt
    obtain ⟨hgo, hy⟩ := q1 _ hd
    rw [List.drop_eq_getElem_cons hlt] at o2
    refine .inr ⟨hgo, fun σ' H' => i + 1 ≤ ds.length ∧ ∃ G2 ρ2, Rel X.K B G2 H' ρ2 σ' ∧ Same G1 G2 ∧ fin X.K E B Dn G2 (loopS (bodyH t fb) (ds.drop (i + 1)) ρ2), fun σ' H' n => ⟨ds.length - (i + 1), by omega, rfl, n.1, n.2⟩, fun x H3 hyl => ?_⟩
    obtain ⟨G3, g3, rx⟩ := hy x H3 hyl
    exact turn_top (rl2.gw g3) rx (fin.mono g3.1 o2) fun σ' G' H' ρ' rl' s' o' => ⟨hlt, G', ρ', rl', (s2.trans g3.1).trans s', o'⟩
  · have e : i = ds.length := by omega
    subst e
    rw [List.drop_length] at o2
    exact .inl ⟨q2 (Nat.le_refl _), o2 σ2 G2 H2 rl2 (Same.refl _)⟩⟩
/-- a walk over an own list, which the body leaves alone -/
def unhold (i : Nat) : SR → SR
  | .nx ρ => match ρ[i]? with
    | some (.hold xs) => .nx (ρ.set i (.own xs))
    | _ => .bad
  | .bk ρ => .bad
  | .ct ρ => .bad
  | r => r
def loopH (i : Nat) (h : D → Env → SR) : List D → Env → SR
  | [], ρ => .nx ρ
  | d :: ds, ρ => match ρ[i]? with
    | some (.hold _) => match h d ρ with
      | .nx ρ' => loopH i h ds ρ'
      | .ct ρ' => loopH i h ds ρ'
      | .bk ρ' => .nx ρ'
      | r => r
    | _ => .bad
def sForH (i : Nat) (t : D → Env → R Env) (fb : Env → SR) : Env → SR := fun ρ => match ρ[i]? with
  | some (.own xs) => unhold i (loopH i (bodyH t fb) xs (ρ.set i (.hold xs)))
  | _ => .bad
theorem js_forH {tg : Expr} {body : List Stmt} {i : Nat} {x : Str} {p : Pos} {t : D → Env → R Env} {ws : List Nat} {fb : Env → SR} (C : Cxt X E k) (S : Cxs X E) (hx : PE X (.Name x p) (tVar i)) (hg : JG X tg t ws) (hb : JSs X E body fb)
    (hs : ∀ y, foldedSetIterable (.Name x p) X.env y = pure y := by intro _; rfl) : JS X E (.For tg (.Name x p) body [] pos) (sForH i t fb) := ps_imp (ps_for S.own C.calm (pi_list hx) hg hb hs) fun Dn σ H ⟨B, G, ρ, rl, o⟩ => by
  unfold sForH at o
  cases e : ρ[i]? with
  | none => rw [e] at o; exact o.elim
  | some s =>
  cases s with
  | emp => rw [e] at o; exact o.elim
  | pin => rw [e] at o; exact o.elim
  | exn a => rw [e] at o; exact o.elim
  | val d => rw [e] at o; exact o.elim
  | hold xs => rw [e] at o; exact o.elim
  | dct xs => rw [e] at o; exact o.elim
  | own xs =>
  rw [e] at o
  obtain ⟨p, vs, hH, hr, hσ, rlh⟩ := rl.holdOn e
  refine ⟨.ref p, hσ, p, rfl, ⟨vs, SqL.of hH⟩, fun k m σ2 H2 => m = vs.length - k ∧ k ≤ vs.length ∧ ∃ G2 ρ2, Rel X.K { B with pi := fun j => if j = i then some (p, vs) else B.pi j } G2 H2 ρ2 σ2 ∧ Same G G2 ∧ fin X.K E B Dn G2 (unhold i (loopH i (bodyH t fb) (xs.drop k) ρ2)),
    ⟨_, rfl, Nat.zero_le _, G, _, rlh, Same.refl _, o⟩, ?_⟩
  rintro k m σ2 H2 ⟨rfl, hk, G2, ρ2, rl2, s2, o2⟩
  by_cases hlt : k < xs.length
  · rw [List.drop_eq_getElem_cons hlt] at o2
    unfold loopH at o2
    cases e2 : ρ2[i]? with
    | none => rw [e2] at o2; exact o2.elim
    | some s =>
    cases s with
    | emp => rw [e2] at o2; exact o2.elim
    | pin => rw [e2] at o2; exact o2.elim
    | exn a => rw [e2] at o2; exact o2.elim
    | val d => rw [e2] at o2; exact o2.elim
    | own ys => rw [e2] at o2; exact o2.elim
    | dct ys => rw [e2] at o2; exact o2.elim
    | hold ys =>
    simp only [e2] at o2
    obtain ⟨p', vs', f0, f1, f2, f3, f4, f5⟩ := rl2.sl i _ e2
    have f0' : some (p, vs) = some (p', vs') := by
      have : (if i = i then some (p, vs) else B.pi i) = some (p', vs') := f0
      rw [if_pos rfl] at this
      exact this
    cases f0'
    obtain ⟨v, hv, rv⟩ := hr.get (List.getElem?_eq_getElem hlt)
    refine .inr ⟨⟨vs, v, SqL.of f2, hv⟩, fun σ' H' => k + 1 ≤ vs.length ∧ ∃ G2 ρ2, Rel X.K { B with pi := fun j => if j = i then some (p, vs) else B.pi j } G2 H' ρ2 σ' ∧ Same G G2 ∧ fin X.K E B Dn G2 (unhold i (loopH i (bodyH t fb) (xs.drop (k + 1)) ρ2)), fun σ' H' n => ⟨vs.length - (k + 1), by omega, rfl, n.1, n.2⟩, fun x H3 y => ?_⟩
    obtain ⟨rfl, y⟩ := y
    have ex := y vs (SqL.of f2)
    rw [hv] at ex
    cases ex
    unfold bodyH at o2
    cases ht : t xs[k] ρ2 with
    | exc c => rw [ht] at o2; exact o2.elim
    | bad => rw [ht] at o2; exact o2.elim
    | ok ρ' =>
      simp only [ht] at o2
      refine ⟨_, G2, ρ2, xs[k], ρ', rl2, rv.mono s2, ht, fun σ' rl' _ => ⟨_, G2, ρ', rl', ?_⟩⟩
      have fini : ∀ ρ3, fin X.K E B Dn G2 (unhold i (.nx ρ3)) → ∀ σ' G' H', Rel X.K { B with pi := fun j => if j = i then some (p, vs) else B.pi j } G' H' ρ3 σ' → Same G2 G' → Dn.nx σ' H' := fun ρ3 o3 σ' G' H' rl3 s3 => by
        unfold unhold at o3
        cases e3 : ρ3[i]? with
        | none => simp only [e3] at o3; exact o3.elim
        | some s =>
        cases s with
        | emp => simp only [e3] at o3; exact o3.elim
        | pin => simp only [e3] at o3; exact o3.elim
        | exn a => simp only [e3] at o3; exact o3.elim
        | val d => simp only [e3] at o3; exact o3.elim
        | own ys => simp only [e3] at o3; exact o3.elim
        | dct ys => simp only [e3] at o3; exact o3.elim
        | hold ys =>
          simp only [e3] at o3
          exact o3 σ' G' H' (rl3.holdOff (fun j hj => if_neg hj) e3) s3
      cases hf : fb ρ' with
      | nx ρ3 =>
        simp only [hf] at o2
        exact fun σ3 G3 H3 rl3 s3 => ⟨by rw [hr.length]; exact hlt, G3, ρ3, rl3, s2.trans s3, fin.mono s3 o2⟩
      | ct ρ3 =>
        simp only [hf] at o2
        exact fun σ3 G3 H3 rl3 s3 => ⟨by rw [hr.length]; exact hlt, G3, ρ3, rl3, s2.trans s3, fin.mono s3 o2⟩
      | bk ρ3 =>
        simp only [hf] at o2
        exact fini ρ3 o2
      | rt d => simp only [hf] at o2; exact o2
      | rl ys => simp only [hf] at o2; exact o2
      | exc c => simp only [hf] at o2; exact o2
      | bad => simp only [hf] at o2; exact o2.elim
  · have ek : k = xs.length := by rw [hr.length] at hk; omega
    subst ek
    rw [List.drop_length] at o2
    unfold loopH unhold at o2
    cases e3 : ρ2[i]? with
    | none => simp only [e3] at o2; exact o2.elim
    | some s =>
    cases s with
    | emp => simp only [e3] at o2; exact o2.elim
    | pin => simp only [e3] at o2; exact o2.elim
    | exn a => simp only [e3] at o2; exact o2.elim
    | val d => simp only [e3] at o2; exact o2.elim
    | own ys => simp only [e3] at o2; exact o2.elim
    | dct ys => simp only [e3] at o2; exact o2.elim
    | hold ys =>
      simp only [e3] at o2
      obtain ⟨p', vs', f0, f1, f2, f3, f4, f5⟩ := rl2.sl i _ e3
      have f0' : some (p, vs) = some (p', vs') := by
        have : (if i = i then some (p, vs) else B.pi i) = some (p', vs') := f0
        rw [if_pos rfl] at this
        exact this
      cases f0'
      exact .inl ⟨⟨vs, SqL.of f2, by rw [hr.length]; exact Nat.le_refl _⟩, o2 σ2 G2 H2 (rl2.holdOff (fun j hj => if_neg hj) e3) (Same.refl _)⟩
/-- while: fu tells how many turns are enough -/
def loopW (c : Env → R Bool) (fb : Env → SR) : Nat → Env → SR
  | 0, _ => .bad
  | n + 1, ρ => lift (c ρ) fun b => if b = true then (match fb ρ with
      | .nx ρ' => loopW c fb n ρ'
      | .ct ρ' => loopW c fb n ρ'
      | .bk ρ' => .nx ρ'
      | r => r) else .nx ρ
def sWhile (fu : Env → Nat) (c : Env → R Bool) (fb : Env → SR) : Env → SR := fun ρ => loopW c fb (fu ρ) ρ
theorem js_while {c : Expr} {body : List Stmt} {fc : Env → R Bool} {fb : Env → SR} (fu : Env → Nat) (S : Cxs X E) (hc : JT X E c fc) (hb : JSs X E body fb) : JS X E (.While c body [] pos) (sWhile fu fc fb) := ps_imp (ps_while S.own hc hb) fun Dn σ H ⟨B, G, ρ, rl, o⟩ => by
  refine ⟨fun m σ2 H2 => ∃ G2 ρ2, Rel X.K B G2 H2 ρ2 σ2 ∧ Same G G2 ∧ fin X.K E B Dn G2 (loopW fc fb m ρ2), ⟨fu ρ, G, ρ, rl, Same.refl _, o⟩, fun m σ2 H2 ⟨G2, ρ2, rl2, s2, o2⟩ => ?_⟩
  cases m with
  | zero => exact o2.elim
  | succ n =>
    unfold loopW at o2
    refine ⟨B, G2, ρ2, rl2, (fin.lift rl2 o2).imp fun b G3 H3 g3 q => ?_⟩
    cases b with
    | false =>
      refine iteF ?_
      have q : fin X.K E B Dn G3 (.nx ρ2) := q
      exact q σ2 G3 H3 (rl2.gw g3) (Same.refl _)
    | true =>
      refine iteT ⟨fun σ' H' => ∃ G2 ρ2, Rel X.K B G2 H' ρ2 σ' ∧ Same G G2 ∧ fin X.K E B Dn G2 (loopW fc fb n ρ2), fun σ' H' w => ⟨n, Nat.lt_succ_self n, w⟩, B, G3, ρ2, rl2.gw g3, ?_⟩
      simp only [if_pos] at q
      cases hf : fb ρ2 with
      | nx ρ' => simp only [hf] at q; exact fun σ' G' H' rl' s' => ⟨G', ρ', rl', (s2.trans g3.1).trans s', fin.mono s' q⟩
      | ct ρ' => simp only [hf] at q; exact fun σ' G' H' rl' s' => ⟨G', ρ', rl', (s2.trans g3.1).trans s', fin.mono s' q⟩
      | bk ρ' => simp only [hf] at q; exact q
      | rt d => simp only [hf] at q; exact q
      | rl xs => simp only [hf] at q; exact q
      | exc c => simp only [hf] at q; exact q
      | bad => simp only [hf] at q; exact q.elim
end

/-! ### defs -/
def startS (n : Nat) (ds : List D) : Env := ds.map .val ++ List.replicate (n - ds.length) .emp
def runD (n : Nat) (f : Env → SR) (ds : List D) : R D := match f (startS n ds) with
  | .rt d => .ok d
  | .rl xs => .ok (.list xs)
  | .nx _ => .ok .none
  | .exc c => .exc c
  | _ => .bad
def runL (n : Nat) (f : Env → SR) (ds : List D) : R (List D) := match f (startS n ds) with
  | .rl xs => .ok xs
  | .exc c => .exc c
  | _ => .bad
theorem rel_start {K : PySem.W.Frag} {G H : Hp} {N : List Str} {vs : List V} {ds : List D} (s : Same G H) (r : RepL K G vs ds) : Rel K ⟨G, H, fun _ => none⟩ G H (startS N.length ds) (L2.start N vs) := by
  refine ⟨Gw.refl s, ?_, fun i t e => ?_, fun a b t u p hab ea eb mt => ?_⟩
  · unfold startS L2.start
    rw [List.length_append, List.length_append, List.length_map, List.length_map, List.length_replicate, List.length_replicate, r.length]
  · unfold startS at e
    unfold L2.start
    by_cases hi : i < ds.length
    · rw [List.getElem?_append_left (by simpa using hi), List.getElem?_map] at e
      cases hd : ds[i]? with
      | none => rw [hd] at e; cases e
      | some d =>
        rw [hd] at e
        cases e
        obtain ⟨v, hv, rv⟩ := r.get hd
        refine ⟨v, ?_, rv⟩
        rw [List.getElem?_append_left (by rw [List.length_map, r.length]; exact hi), List.getElem?_map, hv]
        rfl
    · rw [List.getElem?_append_right (by simpa using hi), List.getElem?_replicate] at e
      split at e
      · cases e; exact True.intro
      · cases e
  · unfold startS at ea
    by_cases hi : a < ds.length
    · rw [List.getElem?_append_left (by simpa using hi), List.getElem?_map] at ea
      cases hd : ds[a]? with
      | none => rw [hd] at ea; cases ea
      | some d => rw [hd] at ea; cases ea; cases mt
    · rw [List.getElem?_append_right (by simpa using hi), List.getElem?_replicate] at ea
      split at ea
      · cases ea; cases mt
      · cases ea
section
variable {P : Program} {w : World} {K : PySem.W.Frag} {mg : Str → Option Value} {base : Heap}
/-- THE RULE for a def -/
theorem has_def {x : Str} {st : Stmt} {f : Addr} {fd : FuncData} {N ps : List Str} {k : Nat} {fb : Env → SR} (F : Fun K x x st f fd) (hm : mg x = some (.ref f)) (S : FnScope N ps (defScope st)) (hb : Binds K fd ps [])
    (body : ∀ (cdv : Value) (A : Around) (outer : List PySem.Env) (s : Shared) (H : Hp) (EE : XK), Cxt (cxOf (L2.CX P w) P w K mg base N x (defScope st) f cdv A outer s H EE) (exk mg EE) k → Cxs (cxOf (L2.CX P w) P w K mg base N x (defScope st) f cdv A outer s H EE) (exk mg EE) →
      JSs (cxOf (L2.CX P w) P w K mg base N x (defScope st) f cdv A outer s H EE) (exk mg EE) (defBody st) fb) : Has P w K mg base (k + 1) x ps.length (runD N.length fb) := by
  refine ⟨f, fd, ps, hm, F.okX S (fun vs H Q E h => h.1) (fun cdv A outer s H vs Q EE hr h => ?_), F.kp, hb⟩
  obtain ⟨hl, G, ds, s', r, o⟩ := h
  refine ⟨_, body cdv A outer s H EE ⟨rfl, S.nd, hr, ⟨EE, passes_call (W := fun cls d _ H => EE cls d H) (takes_of rfl rfl rfl rfl) (fun _ _ _ _ h => h), fun _ _ h => h⟩⟩ ⟨passes_of rfl, rfl, rfl, EE, takes_of rfl rfl rfl rfl, fun _ _ h => h⟩, ⟨G, H, fun _ => none⟩, G, startS N.length ds, rel_start s' r, ?_⟩
  unfold runD at o
  cases hf : fb (startS N.length ds) with
  | nx ρ => rw [hf] at o; exact fun σ' G' H' rl _ => o G' H' rl.gw0 _ .non
  | rt d => rw [hf] at o; exact fun v G' H' g rv => o G' H' g v rv
  | rl xs => rw [hf] at o; exact fun p vs G' H' g hp hn hl hr => o _ H' (g.share hp hn hl) (.ref p) (.lst upd_same (hr.mono (same_new hn)))
  | bk ρ => rw [hf] at o; exact o.elim
  | ct ρ => rw [hf] at o; exact o.elim
  | exc c => rw [hf] at o; exact fun G' H' g => o G' H' g
  | bad => rw [hf] at o; exact o.elim
/-- .. whose answer is a new list -/
theorem has_defL {x : Str} {st : Stmt} {f : Addr} {fd : FuncData} {N ps : List Str} {k : Nat} {fb : Env → SR} (F : Fun K x x st f fd) (hm : mg x = some (.ref f)) (S : FnScope N ps (defScope st)) (hb : Binds K fd ps [])
    (body : ∀ (cdv : Value) (A : Around) (outer : List PySem.Env) (s : Shared) (H : Hp) (EE : XK), Cxt (cxOf (L2.CX P w) P w K mg base N x (defScope st) f cdv A outer s H EE) (exk mg EE) k → Cxs (cxOf (L2.CX P w) P w K mg base N x (defScope st) f cdv A outer s H EE) (exk mg EE) →
      JSs (cxOf (L2.CX P w) P w K mg base N x (defScope st) f cdv A outer s H EE) (exk mg EE) (defBody st) fb) : HasL P w K mg base (k + 1) x ps.length (runL N.length fb) := by
  refine ⟨f, fd, ps, hm, F.okX S (fun vs H Q E h => h.1) (fun cdv A outer s H vs Q EE hr h => ?_), F.kp, hb⟩
  obtain ⟨hl, G, ds, s', r, o⟩ := h
  refine ⟨_, body cdv A outer s H EE ⟨rfl, S.nd, hr, ⟨EE, passes_call (W := fun cls d _ H => EE cls d H) (takes_of rfl rfl rfl rfl) (fun _ _ _ _ h => h), fun _ _ h => h⟩⟩ ⟨passes_of rfl, rfl, rfl, EE, takes_of rfl rfl rfl rfl, fun _ _ h => h⟩, ⟨G, H, fun _ => none⟩, G, startS N.length ds, rel_start s' r, ?_⟩
  unfold runL at o
  cases hf : fb (startS N.length ds) with
  | nx ρ => rw [hf] at o; exact o.elim
  | rt d => rw [hf] at o; exact o.elim
  | rl xs => rw [hf] at o; exact fun p vs G' H' g hp hn hl hr => o G' H' g p vs hp hn hl hr
  | bk ρ => rw [hf] at o; exact o.elim
  | ct ρ => rw [hf] at o; exact o.elim
  | exc c => rw [hf] at o; exact fun G' H' g => o G' H' g
  | bad => rw [hf] at o; exact o.elim
end
end Mp

set_option Elab.async false
set_option linter.all false
set_option maxRecDepth 100000
/-! Mp6: the built-ins over data. -/
namespace Mp
open PySem L2

theorem Op2.congr {X : Cx} {op : Value → Value → Sem Value} {f g : D → D → Option D} (h : Op2 X op f) (e : ∀ x y, f x y = g x y) : Op2 X op g := by
  have : f = g := funext fun x => funext fun y => e x y
  exact this ▸ h
def ii (g : Int → Int → Option D) : D → D → Option D := fun x y => match x, y with
  | .int i, .int j => g i j
  | _, _ => none
def ss (g : Str → Str → Option D) : D → D → Option D := fun x y => match x, y with
  | .str i, .str j => g i j
  | _, _ => none
theorem srv_ii {K : PySem.W.Frag} {C : Int → Int → Prop} [∀ i j, Decidable (C i j)] {g : Int → Int → V} {d : Int → Int → D} (h : ∀ G i j, Rep K G (g i j) (d i j)) : Srv2 K (rI C g) (ii fun i j => if C i j then some (d i j) else none) := fun x y dx dy G H Q s rx ry z hz k => by
  unfold ii at hz
  split at hz
  · rename_i i j
    dsimp only at hz
    split at hz
    · rename_i hc
      cases hz
      exact ⟨i, j, rx.int, ry.int, hc, k _ G H (Gw.refl s) (h G i j)⟩
    · cases hz
  · cases hz
theorem srv_ii0 {K : PySem.W.Frag} {g : Int → Int → V} {d : Int → Int → D} (h : ∀ G i j, Rep K G (g i j) (d i j)) : Srv2 K (rI0 g) (ii fun i j => some (d i j)) := fun x y dx dy G H Q s rx ry z hz k => by
  unfold ii at hz
  split at hz
  · rename_i i j
    cases hz
    exact ⟨i, j, rx.int, ry.int, k _ G H (Gw.refl s) (h G i j)⟩
  · cases hz
theorem srv_ss {K : PySem.W.Frag} {C : Str → Str → Prop} [∀ i j, Decidable (C i j)] {r : R2} {g : Str → Str → V} {d : Str → Str → D} (hr : ∀ i j H (Q : VK), C i j → Q (g i j) H → r (.str i) (.str j) H Q) (h : ∀ G i j, Rep K G (g i j) (d i j)) : Srv2 K r (ss fun i j => if C i j then some (d i j) else none) := fun x y dx dy G H Q s rx ry z hz k => by
  unfold ss at hz
  split at hz
  · rename_i i j
    dsimp only at hz
    split at hz
    · rename_i hc
      cases hz
      have e1 := rx.str
      have e2 := ry.str
      subst e1 e2
      exact hr i j H Q hc (k _ G H (Gw.refl s) (h G i j))
    · cases hz
  · cases hz
theorem srv_ss0 {K : PySem.W.Frag} {r : R2} {g : Str → Str → V} {d : Str → Str → D} (hr : ∀ i j H (Q : VK), Q (g i j) H → r (.str i) (.str j) H Q) (h : ∀ G i j, Rep K G (g i j) (d i j)) : Srv2 K r (ss fun i j => some (d i j)) := fun x y dx dy G H Q s rx ry z hz k => by
  unfold ss at hz
  split at hz
  · rename_i i j
    cases hz
    have e1 := rx.str
    have e2 := ry.str
    subst e1 e2
    exact hr i j H Q (k _ G H (Gw.refl s) (h G i j))
  · cases hz
section
variable {X : Cx} {E : EX} {k : Nat}
/-! ### arithmetic -/
def addD : D → D → Option D := fun x y => match x, y with
  | .int i, .int j => some (.int (i + j))
  | .str a, .str b => if a.length + b.length ≤ LIM then some (.str (a ++ b)) else none
  | .tuple a, .tuple b => if a.length + b.length ≤ LIM then some (.tuple (a ++ b)) else none
  | _, _ => none
def tt (x y : D) : Option D := match x, y with
  | .tuple a, .tuple b => if a.length + b.length ≤ LIM then some (.tuple (a ++ b)) else none
  | _, _ => none
theorem srv_tt : Srv2 X.K (rCatA X.K) tt := fun x y dx dy G H Q s rx ry z hz k => by
  unfold tt at hz
  split at hz
  · rename_i a b
    split at hz
    · rename_i hl
      cases hz
      obtain ⟨p, xs, rfl, h1, h2⟩ := rx.tup
      obtain ⟨q, ys, rfl, h3, h4⟩ := ry.tup
      refine ⟨p, q, xs, ys, rfl, rfl, same_seqT s h1, same_seqT s h3, by rw [h2.length, h4.length]; exact lim_le hl, fun e => ?_, fun e1 e2 => ?_, fun e1 e2 p' hp' => ?_⟩
      · subst e
        cases h2
        exact k _ G H (Gw.refl s) (.tup h3 h4)
      · subst e2
        cases h4
        refine k _ G H (Gw.refl s) ?_
        rw [List.append_nil]
        exact .tup h1 h2
      · exact k _ _ _ (Gw.new s hp') (.tup (SqT.of upd_same) ((h2.append h4).mono (same_new (s.free hp'))))
    · cases hz
  · cases hz
theorem o_add : Op2 X (binaryOp .Add) addD := by
  refine ((Op2.or ⟨_, op_add, srv_ii0 (d := fun i j => .int (i + j)) fun _ _ _ => .int _⟩ (.or ⟨_, op_add_str, srv_ss (C := fun i j => i.length + j.length ≤ LIM) (g := fun i j => .str (i ++ j)) (d := fun i j => .str (i ++ j)) (fun i j H Q hc q => ⟨i, j, rfl, rfl, lim_le hc, q⟩) fun _ _ _ => .str _⟩ ⟨_, op_catA, srv_tt⟩)).congr fun x y => ?_)
  cases x <;> cases y <;> simp [ii, ss, tt, addD]
def addL : D → D → Option (List D) := fun x y => match x, y with
  | .list a, .list b => if a.length + b.length ≤ LIM then some (a ++ b) else none
  | _, _ => none
theorem o_addL : OpF X (binaryOp .Add) addL := ⟨_, op_cat, fun x y dx dy G H Q s rx ry z hz k => by
  unfold addL at hz
  split at hz
  · rename_i a b
    split at hz
    · rename_i hl
      cases hz
      obtain ⟨p, xs, rfl, h1, h2⟩ := rx.lst s
      obtain ⟨q, ys, rfl, h3, h4⟩ := ry.lst s
      exact ⟨p, q, xs, ys, rfl, rfl, h1, h3, by rw [h2.length, h4.length]; exact lim_le hl, fun p' hp' => k p' _ G _ (Gw.own s hp') hp' (s.free hp') upd_same (h2.append h4)⟩
    · cases hz
  · cases hz⟩
theorem o_sub : Op2 X (binaryOp .Sub) (ii fun i j => some (.int (i - j))) := ⟨_, op_sub, srv_ii0 fun _ _ _ => .int _⟩
/-- one factor is small -/
def cMul (i j : Int) : Prop := (-(2 ^ 64) < i ∧ i < 2 ^ 64) ∨ (-(2 ^ 64) < j ∧ j < 2 ^ 64)
instance (i j : Int) : Decidable (cMul i j) := inferInstanceAs (Decidable (_ ∨ _))
def strRep (x : Str) (n : Nat) : Str := ⟨(List.replicate n x.cps.toList).flatten.toArray⟩
theorem o_mulI : Op2 X (binaryOp .Mult) (ii fun i j => if cMul i j then some (.int (i * j)) else none) := ⟨_, op_mul, srv_ii (C := cMul) fun _ _ _ => .int _⟩
def cDiv (j : Int) : Prop := 0 < j ∧ j < 1073741824
instance (j : Int) : Decidable (cDiv j) := inferInstanceAs (Decidable (_ ∧ _))
theorem o_div : Op2 X (binaryOp .FloorDiv) (ii fun i j => if cDiv j then some (.int (i / j)) else none) := ⟨_, op_fdiv, srv_ii (C := fun _ j => cDiv j) fun _ _ _ => .int _⟩
theorem o_mod : Op2 X (binaryOp .Mod) (ii fun i j => if 0 < j then some (.int (i % j)) else none) := ⟨_, op_mod, srv_ii (C := fun _ j => 0 < j) fun _ _ _ => .int _⟩
def cPow (i j : Int) : Prop := 0 ≤ j ∧ j ≤ 1000000 ∧ i.natAbs < 2 ^ 64
instance (i j : Int) : Decidable (cPow i j) := inferInstanceAs (Decidable (_ ∧ _))
theorem o_pow : Op2 X (binaryOp .Pow) (ii fun i j => if cPow i j then some (.int (i ^ j.toNat)) else none) := ⟨_, op_pow, srv_ii (C := cPow) fun _ _ _ => .int _⟩
theorem o_shl : Op2 X (binaryOp .LShift) (ii fun i j => if cPow i j then some (.int (i * 2 ^ j.toNat)) else none) := ⟨_, op_shl, srv_ii (C := cPow) fun _ _ _ => .int _⟩
theorem o_shr : Op2 X (binaryOp .RShift) (ii fun i j => if 0 ≤ j then some (.int (i / 2 ^ j.toNat)) else none) := ⟨_, op_shr, srv_ii (C := fun _ j => 0 ≤ j) fun _ _ _ => .int _⟩
theorem o_and : Op2 X (binaryOp .BitAnd) (ii fun i j => some (.int (Builtin.bitAnd i j))) := ⟨_, op_and, srv_ii0 fun _ _ _ => .int _⟩
theorem o_or : Op2 X (binaryOp .BitOr) (ii fun i j => some (.int (Builtin.bitOr i j))) := ⟨_, op_or, srv_ii0 fun _ _ _ => .int _⟩
theorem o_xor : Op2 X (binaryOp .BitXor) (ii fun i j => some (.int (Builtin.bitXor i j))) := ⟨_, op_xor, srv_ii0 fun _ _ _ => .int _⟩
def i1 (g : Int → D) : D → Option D := fun x => match x with
  | .int i => some (g i)
  | _ => none
theorem srv_i1 {K : PySem.W.Frag} {g : Int → V} {d : Int → D} (h : ∀ G i, Rep K G (g i) (d i)) : Srv1 K (rU g) (i1 d) := fun x dx G H Q s rx z hz k => by
  unfold i1 at hz
  split at hz
  · rename_i i
    cases hz
    exact ⟨i, rx.int, k _ G H (Gw.refl s) (h G i)⟩
  · cases hz
theorem o_neg : UnR X (unaryOp .USub) (rU fun i => .int (-i)) ∧ Srv1 X.K (rU fun i => .int (-i)) (i1 fun i => .int (-i)) := ⟨un_neg, srv_i1 fun _ _ => .int _⟩
theorem o_inv : UnR X (unaryOp .Invert) (rU fun i => .int (Builtin.bitNot i)) ∧ Srv1 X.K (rU fun i => .int (Builtin.bitNot i)) (i1 fun i => .int (Builtin.bitNot i)) := ⟨un_inv, srv_i1 fun _ _ => .int _⟩
theorem je_neg {a : Expr} {pos : Pos} {fa : Env → R D} (ha : JB X E a fa) : JE X E (.UnaryOp .USub a pos) (e1 (i1 fun i => .int (-i)) fa) := je_un o_neg.1 o_neg.2 ha
theorem je_inv {a : Expr} {pos : Pos} {fa : Env → R D} (ha : JB X E a fa) : JE X E (.UnaryOp .Invert a pos) (e1 (i1 fun i => .int (Builtin.bitNot i)) fa) := je_un o_inv.1 o_inv.2 ha

/-! ### comparisons -/
def strLt (a b : Str) : Bool := decide (a.cps.toList < b.cps.toList)
def cmpD (p : Int → Int → Bool) (q : Str → Str → Bool) : D → D → Option D := fun x y => match x, y with
  | .int i, .int j => some (.bool (p i j))
  | .str a, .str b => some (.bool (q a b))
  | _, _ => none
theorem o_lt : Op2 X (compareOp .Lt) (cmpD (fun i j => decide (i < j)) fun a b => strLt a b) := (Op2.or ⟨_, op_lt, srv_ii0 (d := fun i j => .bool (decide (i < j))) fun _ _ _ => .bl _⟩ ⟨_, op_lt_str, srv_ss0 (g := fun i j => .bl (strLt i j)) (d := fun i j => .bool (strLt i j)) (fun i j H Q q => ⟨i, j, rfl, rfl, q⟩) fun _ _ _ => .bl _⟩).congr fun x y => by cases x <;> cases y <;> rfl
theorem o_le : Op2 X (compareOp .LtE) (cmpD (fun i j => decide (i ≤ j)) fun a b => !strLt b a) := (Op2.or ⟨_, op_le, srv_ii0 (d := fun i j => .bool (decide (i ≤ j))) fun _ _ _ => .bl _⟩ ⟨_, op_le_str, srv_ss0 (g := fun i j => .bl (!strLt j i)) (d := fun i j => .bool (!strLt j i)) (fun i j H Q q => ⟨i, j, rfl, rfl, q⟩) fun _ _ _ => .bl _⟩).congr fun x y => by cases x <;> cases y <;> rfl
theorem o_gt : Op2 X (compareOp .Gt) (cmpD (fun i j => decide (j < i)) fun a b => strLt b a) := (Op2.or ⟨_, op_gt, srv_ii0 (d := fun i j => .bool (decide (j < i))) fun _ _ _ => .bl _⟩ ⟨_, op_gt_str, srv_ss0 (g := fun i j => .bl (strLt j i)) (d := fun i j => .bool (strLt j i)) (fun i j H Q q => ⟨i, j, rfl, rfl, q⟩) fun _ _ _ => .bl _⟩).congr fun x y => by cases x <;> cases y <;> rfl
theorem o_ge : Op2 X (compareOp .GtE) (cmpD (fun i j => decide (j ≤ i)) fun a b => !strLt a b) := (Op2.or ⟨_, op_ge, srv_ii0 (d := fun i j => .bool (decide (j ≤ i))) fun _ _ _ => .bl _⟩ ⟨_, op_ge_str, srv_ss0 (g := fun i j => .bl (!strLt i j)) (d := fun i j => .bool (!strLt i j)) (fun i j H Q q => ⟨i, j, rfl, rfl, q⟩) fun _ _ _ => .bl _⟩).congr fun x y => by cases x <;> cases y <;> rfl
def cEq (d e : D) : Prop := d.plain = true ∧ e.plain = true ∧ min d.depth e.depth ≤ 60
instance (d e : D) : Decidable (cEq d e) := inferInstanceAs (Decidable (_ ∧ _))
def eqD (d e : D) : Option D := if cEq d e then some (.bool (PyData.eqv d e)) else none
def neD (d e : D) : Option D := if cEq d e then some (.bool (!PyData.eqv d e)) else none
theorem op_eqP {n : Nat} (hr : Room n X.A) : OpR X (compareOp .Eq) (fun x y H Q => ∃ d e, Dp X.K H x d ∧ Dp X.K H y e ∧ cEq d e ∧ Q (.bl (PyData.eqv d e)) H) := by
  intro pins s σ H x y v u Q I rx ry h
  obtain ⟨d, e, hd, he, ⟨p1, p2, p3⟩, q⟩ := h
  obtain ⟨as, r1⟩ := Dp.reads I d x v hd rx
  obtain ⟨bs, r2⟩ := Dp.reads I e y u he ry
  have := hr.units
  exact PySem.SeqAt.eq_plain r1 r2 p1 p2 (by omega) ⟨.bl _, H, I, rfl, q⟩
theorem op_neP {n : Nat} (hr : Room n X.A) : OpR X (compareOp .NotEq) (fun x y H Q => ∃ d e, Dp X.K H x d ∧ Dp X.K H y e ∧ cEq d e ∧ Q (.bl (!PyData.eqv d e)) H) := by
  intro pins s σ H x y v u Q I rx ry h
  obtain ⟨d, e, hd, he, ⟨p1, p2, p3⟩, q⟩ := h
  obtain ⟨as, r1⟩ := Dp.reads I d x v hd rx
  obtain ⟨bs, r2⟩ := Dp.reads I e y u he ry
  have := hr.units
  exact PySem.SeqAt.ne_plain r1 r2 p1 p2 (by omega) ⟨.bl _, H, I, rfl, q⟩
theorem o_eq (C : Cxt X E k) : Op2 X (compareOp .Eq) eqD := ⟨_, op_eqP C.room, fun x y dx dy G H Q s rx ry z hz k => by
  unfold eqD at hz
  split at hz
  · rename_i hc
    cases hz
    exact ⟨dx, dy, Rep.dp _ (rx.rep s) hc.1, Rep.dp _ (ry.rep s) hc.2.1, hc, k _ G H (Gw.refl s) (.bl _)⟩
  · cases hz⟩
theorem o_ne (C : Cxt X E k) : Op2 X (compareOp .NotEq) neD := ⟨_, op_neP C.room, fun x y dx dy G H Q s rx ry z hz k => by
  unfold neD at hz
  split at hz
  · rename_i hc
    cases hz
    exact ⟨dx, dy, Rep.dp _ (rx.rep s) hc.1, Rep.dp _ (ry.rep s) hc.2.1, hc, k _ G H (Gw.refl s) (.bl _)⟩
  · cases hz⟩
/-- in: a sign in a text; a thing in a list or a tuple -/
def seqOf : D → Option (List D)
  | .list xs => some xs
  | .tuple xs => some xs
  | _ => none
def cIn (d : D) (xs : List D) : Prop := d.plain = true ∧ PyData.plainAll xs = true ∧ d.depth ≤ 50
instance (d : D) (xs : List D) : Decidable (cIn d xs) := inferInstanceAs (Decidable (_ ∧ _))
def inSeq (d e : D) : Option Bool := match seqOf e with
  | some xs => if cIn d xs then some (xs.any fun z => PyData.eqv z d) else none
  | none => none
def inStr (d e : D) : Option Bool := match d, e with
  | .str x, .str y => if x.cps.size = 1 then some (decide (x.cps.toList.headD 0 ∈ y.cps.toList)) else none
  | _, _ => none
def inD (d e : D) : Option D := ((inStr d e).orElse fun _ => inSeq d e).map .bool
def ninD (d e : D) : Option D := ((inStr d e).orElse fun _ => inSeq d e).map fun b => .bool (!b)
theorem one_sign {x : Str} (h : x.cps.size = 1) : x = ⟨#[x.cps.toList.headD 0]⟩ := by
  obtain ⟨⟨l⟩⟩ := x
  match l, h with
  | [c], _ => rfl
theorem in_list_op {n : Nat} (hr : Room n X.A) {pins : List (Addr × Obj)} {s : Shared} {σ : L2.St} {H : Hp} {x y : V} {v u : Value} {Q : VK} (I : Inv X pins σ H s) (rx : RelV x v) (ry : RelV y u) {d e : D} {xs : List D} (hd : Dp X.K H x d) (he : Dp X.K H y e) (hx : seqOf e = some xs) (hc : cIn d xs) :
    (Q (.bl (xs.any fun z => PyData.eqv z d)) H → wpAny (model X.prog X.w) X.A (compareOp .In v u) (EP X pins σ Q) X.xe s) ∧ (Q (.bl (!xs.any fun z => PyData.eqv z d)) H → wpAny (model X.prog X.w) X.A (compareOp .NotIn v u) (EP X pins σ Q) X.xe s) := by
  obtain ⟨as, r1⟩ := Dp.reads I d x v hd rx
  obtain ⟨bs, r2⟩ := Dp.reads I e y u he ry
  have := hr.units
  unfold seqOf at hx
  split at hx
  · cases hx
    exact ⟨fun q => PySem.SeqAt.in_list_data r2 r1 hc.2.1 hc.1 (by have := hc.2.2; omega) ⟨.bl _, H, I, rfl, q⟩, fun q => PySem.SeqAt.notIn_list_data r2 r1 hc.2.1 hc.1 (by have := hc.2.2; omega) ⟨.bl _, H, I, rfl, q⟩⟩
  · cases hx
    exact ⟨fun q => PySem.SeqAt.in_tuple_data r2 r1 hc.2.1 hc.1 (by have := hc.2.2; omega) ⟨.bl _, H, I, rfl, q⟩, fun q => PySem.SeqAt.notIn_tuple_data r2 r1 hc.2.1 hc.1 (by have := hc.2.2; omega) ⟨.bl _, H, I, rfl, q⟩⟩
  · cases hx
theorem seq_plain {e : D} {xs : List D} (h : seqOf e = some xs) : e.plain = PyData.plainAll xs := by
  unfold seqOf at h
  split at h <;> cases h <;> rfl
def rInP (K : PySem.W.Frag) (neg : Bool) : R2 := fun x y H Q => ∃ d e xs, Dp K H x d ∧ Dp K H y e ∧ seqOf e = some xs ∧ cIn d xs ∧ Q (.bl (if neg then !xs.any fun z => PyData.eqv z d else xs.any fun z => PyData.eqv z d)) H
theorem op_inP {n : Nat} (hr : Room n X.A) : OpR X (compareOp .In) (rInP X.K false) := by
  intro pins s σ H x y v u Q I rx ry h
  obtain ⟨d, e, xs, hd, he, hx, hc, q⟩ := h
  exact (in_list_op hr I rx ry hd he hx hc).1 q
theorem op_ninP {n : Nat} (hr : Room n X.A) : OpR X (compareOp .NotIn) (rInP X.K true) := by
  intro pins s σ H x y v u Q I rx ry h
  obtain ⟨d, e, xs, hd, he, hx, hc, q⟩ := h
  exact (in_list_op hr I rx ry hd he hx hc).2 q
theorem srv_in {neg : Bool} : Srv2 X.K (rInP X.K neg) (fun d e => (inSeq d e).map fun b => .bool (if neg then !b else b)) := fun x y dx dy G H Q s rx ry z hz k => by
  dsimp only at hz
  unfold inSeq at hz
  cases hs : seqOf dy with
  | none => rw [hs] at hz; cases hz
  | some xs =>
    rw [hs] at hz
    dsimp only at hz
    by_cases hc : cIn dx xs
    · rw [if_pos hc] at hz
      cases hz
      exact ⟨dx, dy, xs, Rep.dp _ (rx.rep s) hc.1, Rep.dp _ (ry.rep s) (by rw [seq_plain hs]; exact hc.2.1), hs, hc, k _ G H (Gw.refl s) (.bl _)⟩
    · rw [if_neg hc] at hz
      cases hz
theorem o_in (C : Cxt X E k) : Op2 X (compareOp .In) inD := (Op2.or (f := fun d e => (inStr d e).map .bool) ⟨_, op_in_sign, fun x y dx dy G H Q s rx ry z hz k => by
    dsimp only at hz
    unfold inStr at hz
    split at hz
    · rename_i a b
      split at hz
      · rename_i h1
        cases hz
        exact ⟨a.cps.toList.headD 0, b, by rw [rx.str, ← one_sign h1], ry.str, k _ G H (Gw.refl s) (.bl _)⟩
      · cases hz
    · cases hz⟩ ⟨_, op_inP C.room, srv_in⟩).congr fun x y => by
  unfold inD
  cases inStr x y with
  | some b => rfl
  | none =>
    show (inSeq x y).map _ = (inSeq x y).map _
    cases inSeq x y <;> rfl
theorem o_nin (C : Cxt X E k) : Op2 X (compareOp .NotIn) ninD := (Op2.or (f := fun d e => (inStr d e).map fun b => .bool (!b)) ⟨_, op_notIn_sign, fun x y dx dy G H Q s rx ry z hz k => by
    dsimp only at hz
    unfold inStr at hz
    split at hz
    · rename_i a b
      split at hz
      · rename_i h1
        cases hz
        exact ⟨a.cps.toList.headD 0, b, by rw [rx.str, ← one_sign h1], ry.str, k _ G H (Gw.refl s) (.bl _)⟩
      · cases hz
    · cases hz⟩ ⟨_, op_ninP C.room, srv_in⟩).congr fun x y => by
  unfold ninD
  cases inStr x y with
  | some b => rfl
  | none =>
    show (inSeq x y).map _ = (inSeq x y).map _
    cases inSeq x y <;> rfl
/-- is None -/
def isNonD : D → D → Option D := fun x y => match y with
  | .none => match x with
    | .none => some (.bool true)
    | _ => some (.bool false)
  | _ => none
def notNonD : D → D → Option D := fun x y => match y with
  | .none => match x with
    | .none => some (.bool false)
    | _ => some (.bool true)
  | _ => none
def isNon : D → Bool
  | .none => true
  | _ => false
theorem RB.isNon {K : PySem.W.Frag} {G H : Hp} {v : V} {d : D} (h : RB K G H v d) : decide (v = .non) = Mp.isNon d := by
  rcases h with h | ⟨p, vs, ds, rfl, rfl, _⟩ | ⟨p, vs, ds, rfl, rfl, _⟩
  · cases h <;> rfl
  · rfl
  · rfl
theorem o_is : Op2 X (compareOp .Is) isNonD := ⟨_, op_isN, fun x y dx dy G H Q s rx ry z hz k => by
  unfold isNonD at hz
  split at hz
  · refine ⟨ry.non, ?_⟩
    rw [rx.isNon]
    split at hz <;> cases hz
    · exact k _ G H (Gw.refl s) (.bl _)
    · rename_i hn
      have : Mp.isNon dx = false := by cases dx <;> first | rfl | exact absurd rfl hn
      rw [this]
      exact k _ G H (Gw.refl s) (.bl _)
  · cases hz⟩
theorem o_isnot : Op2 X (compareOp .IsNot) notNonD := ⟨_, op_notN, fun x y dx dy G H Q s rx ry z hz k => by
  unfold notNonD at hz
  split at hz
  · refine ⟨ry.non, ?_⟩
    rw [rx.isNon]
    split at hz <;> cases hz
    · exact k _ G H (Gw.refl s) (.bl _)
    · rename_i hn
      have : Mp.isNon dx = false := by cases dx <;> first | rfl | exact absurd rfl hn
      rw [this]
      exact k _ G H (Gw.refl s) (.bl _)
  · cases hz⟩
end
end Mp

set_option Elab.async false
set_option linter.all false
set_option maxRecDepth 100000
/-! Mp7: calls of built-ins, methods, places, slices over data. -/
namespace Mp
open PySem L2
theorem Call1.congr {X : Cx} {fv : Value} {f g : List D → Option D} (h : Call1 X fv f) (e : ∀ x, f x = g x) : Call1 X fv g := by
  have : f = g := funext fun x => e x
  exact this ▸ h
theorem RBL.one {K : PySem.W.Frag} {G H : Hp} {vs : List V} {d : D} (h : RBL K G H vs [d]) : ∃ v, vs = [v] ∧ RB K G H v d := by
  cases h with
  | cons r t => cases t; exact ⟨_, rfl, r⟩
theorem RBL.two {K : PySem.W.Frag} {G H : Hp} {vs : List V} {d e : D} (h : RBL K G H vs [d, e]) : ∃ v u, vs = [v, u] ∧ RB K G H v d ∧ RB K G H u e := by
  cases h with
  | cons r t =>
    cases t with
    | cons r' t => cases t; exact ⟨_, _, rfl, r, r'⟩
def c1 (f : D → Option D) : List D → Option D := fun ds => match ds with
  | [d] => f d
  | _ => none
def c2 (f : D → D → Option D) : List D → Option D := fun ds => match ds with
  | [d, e] => f d e
  | _ => none
def cl1 (f : D → Option (List D)) : List D → Option (List D) := fun ds => match ds with
  | [d] => f d
  | _ => none
section
variable {X : Cx} {E : EX} {k : Nat}
/-! ### len -/
def lenD : D → Option D := fun d => match d with
  | .list xs => some (.int xs.length)
  | .tuple xs => some (.int xs.length)
  | .str x => if x.length ≤ LIM then some (.int x.length) else none
  | .dict [(.none, .list xs)] => some (.int xs.length)
  | _ => none
theorem k_len : Call1 X (.builtin "len") (c1 lenD) := ⟨_, call_len, fun vs ds G H Q s rs z hz k => by
  unfold c1 at hz
  split at hz
  · obtain ⟨v, rfl, r⟩ := rs.one
    unfold lenD at hz
    split at hz
    · rename_i xs
      cases hz
      obtain ⟨p, ws, rfl, h1, h2⟩ := r.lst s
      refine ⟨.ref p, xs.length, rfl, .inl ⟨ws, SqL.of h1, h2.length.symm⟩, k _ G H (Gw.refl s) (.int _)⟩
    · rename_i xs
      cases hz
      obtain ⟨p, ws, rfl, h1, h2⟩ := r.tup
      refine ⟨.ref p, xs.length, rfl, .inr ⟨ws, same_seqT s h1, h2.length.symm⟩, k _ G H (Gw.refl s) (.int _)⟩
    · rename_i x
      split at hz
      · rename_i hl
        cases hz
        have e := r.str
        subst e
        exact ⟨.str x, x.length, rfl, ⟨lim_le hl, rfl⟩, k _ G H (Gw.refl s) (.int _)⟩
      · cases hz
    · rename_i xs
      cases hz
      obtain ⟨p, ws, rfl, h1, h2⟩ := r.scr
      refine ⟨.ref p, xs.length, rfl, .inl ⟨ws, s.seq h1, h2.length.symm⟩, k _ G H (Gw.refl s) (.int _)⟩
    · cases hz
  · cases hz⟩
/-! ### isinstance -/
def tyOf : D → String
  | .none => "NoneType"
  | .bool _ => "bool"
  | .int _ => "int"
  | .str _ => "str"
  | .list _ => "list"
  | .tuple _ => "tuple"
  | .dict _ => "dict"
def isiD (T : String) (d : D) : Option D := match d with
  | .dict _ => none
  | _ => (kitB (tyOf d) T).map .bool
theorem tyX_of {K : PySem.W.Frag} {G H : Hp} {v : V} {d : D} (r : RB K G H v d) (s : Same G H) (hd : ∀ kvs, d ≠ .dict kvs) : TyX K H v (.type (tyOf d)) := by
  cases d with
  | none => rw [r.non]; exact .base .non
  | bool b => rw [r.bl]; exact .base (.bl b)
  | int i => rw [r.int]; exact .base (.int i)
  | str x => rw [r.str]; exact .base (.str x)
  | list xs =>
    obtain ⟨p, ws, rfl, h1, _⟩ := r.lst s
    exact .base (.lst h1)
  | tuple xs =>
    obtain ⟨p, ws, rfl, h1, _⟩ := r.tup
    rcases same_seqT s h1 with (h | ⟨o, h⟩) | ⟨o, its, n, h, hc, _⟩
    · exact .base (.tup h)
    · exact .fTuple h
    · exact .kTuple h hc
  | dict kvs => exact (hd kvs rfl).elim
def eIsi (T : String) (f : Env → R D) : Env → R D := fun ρ => (f ρ).bind fun d => ofO (isiD T d)
theorem je_isi {T : String} {a : Expr} {x : Str} {p p2 pos : Pos} {f : Env → R D} (hg : Gl X "isinstance") (hm : X.mg "isinstance" = none) (ha : JB X E a f) (hg2 : Gl X x) (hm2 : X.mg x = none) (hv : bootBuiltins x = some (.type T))
    (hn : x ≠ "__name__" := by decide) (hd : (x == ("__debug__" : Str)) = false := by decide) (he : starEach [a, .Name x p2] X.env = (false, eval a X.env) :: starEach [.Name x p2] X.env := by rfl) (he2 : starEach [.Name x p2] X.env = (false, eval (.Name x p2) X.env) :: starEach [] X.env := by rfl) (hpl : (backTo pos (starEach [.Name x p2] X.env)).any (·.1) = false := by rfl) :
    JE X E (.Call (.Name "isinstance" p) [a, .Name x p2] [] pos) (eIsi T f) := pe_imp (pe_callB call_isi hg hm (by decide +kernel) (pa_cons ha (pa_cons (pe_bltn (v := .ty T) hg2 hm2 hv rfl hn hd) pa_nil he2) he) (by decide) (by decide) he hpl) fun σ H Q ⟨B, G, ρ, rl, o⟩ => ⟨B, G, ρ, rl, o.bind.imp fun d G1 H1 g1 o1 v rv => by
  unfold isiD at o1
  have main : (∀ kvs, d ≠ .dict kvs) → Out E G1 H1 (ofO ((kitB (tyOf d) T).map .bool)) (fun d G' H' => ∀ v, Rep X.K G' v d → Q v H') → rIsi X.K [v, .ty T] H1 Q := fun hd o1 => by
    cases hk : kitB (tyOf d) T with
    | none => rw [hk] at o1; exact o1.elim
    | some b =>
      rw [hk] at o1
      exact ⟨v, .ty T, _, _, b, rfl, .ty T, tyX_of rv g1.2.2.1 hd, kit_ty hk, Out.here (k := fun d G' H' => ∀ v, Rep X.K G' v d → Q v H') o1 g1.2.2.1 _ (.bl b)⟩
  cases d with
  | dict kvs => exact o1.elim
  | none => exact main (fun _ h => by cases h) o1
  | bool b => exact main (fun _ h => by cases h) o1
  | int i => exact main (fun _ h => by cases h) o1
  | str x => exact main (fun _ h => by cases h) o1
  | list xs => exact main (fun _ h => by cases h) o1
  | tuple xs => exact main (fun _ h => by cases h) o1⟩
/-! ### all, any, sum -/
def bls : List D → Option (List Bool)
  | [] => some []
  | .bool b :: ds => (bls ds).map (b :: ·)
  | _ => none
def intsOf : List D → Option (List Int)
  | [] => some []
  | .int b :: ds => (intsOf ds).map (b :: ·)
  | _ => none
def strsOf : List D → Option (List Str)
  | [] => some []
  | .str b :: ds => (strsOf ds).map (b :: ·)
  | _ => none
theorem bls_eq : ∀ {ds : List D} {bs : List Bool}, bls ds = some bs → ds = bs.map .bool
  | [], _, h => by cases h; rfl
  | .bool b :: ds, _, h => by
    simp only [bls] at h
    cases e : bls ds with
    | none => rw [e] at h; cases h
    | some r => rw [e] at h; cases h; rw [bls_eq e]; rfl
theorem intsOf_eq : ∀ {ds : List D} {bs : List Int}, intsOf ds = some bs → ds = bs.map .int
  | [], _, h => by cases h; rfl
  | .int b :: ds, _, h => by
    simp only [intsOf] at h
    cases e : intsOf ds with
    | none => rw [e] at h; cases h
    | some r => rw [e] at h; cases h; rw [intsOf_eq e]; rfl
theorem strsOf_eq : ∀ {ds : List D} {bs : List Str}, strsOf ds = some bs → ds = bs.map .str
  | [], _, h => by cases h; rfl
  | .str b :: ds, _, h => by
    simp only [strsOf] at h
    cases e : strsOf ds with
    | none => rw [e] at h; cases h
    | some r => rw [e] at h; cases h; rw [strsOf_eq e]; rfl
theorem bls_map : ∀ bs : List Bool, bls (bs.map .bool) = some bs
  | [] => rfl
  | b :: bs => by simp [bls, bls_map bs]
theorem intsOf_map : ∀ bs : List Int, intsOf (bs.map .int) = some bs
  | [] => rfl
  | b :: bs => by simp [intsOf, intsOf_map bs]
theorem strsOf_map : ∀ bs : List Str, strsOf (bs.map .str) = some bs
  | [] => rfl
  | b :: bs => by simp [strsOf, strsOf_map bs]
def allD : D → Option D := fun d => match d with
  | .list ds => (bls ds).map fun bs => .bool (bs.all id)
  | _ => none
def anyD : D → Option D := fun d => match d with
  | .list ds => (bls ds).map fun bs => .bool (bs.any id)
  | _ => none
def sumD : D → Option D := fun d => match d with
  | .list ds => (intsOf ds).map fun bs => .int bs.sum
  | _ => none
theorem k_all (C : Cxt X E k) : Call1 X (.builtin "all") (c1 allD) := ⟨_, cr_all C.calm, fun vs ds G H Q s rs z hz k => by
  unfold c1 at hz
  split at hz
  · obtain ⟨v, rfl, r⟩ := rs.one
    unfold allD at hz
    split at hz
    · rename_i xs
      cases e : bls xs with
      | none => rw [e] at hz; cases hz
      | some bs =>
        rw [e] at hz
        cases hz
        obtain ⟨p, ws, rfl, h1, h2⟩ := r.lst s
        rw [bls_eq e] at h2
        rw [h2.of_bls] at h1
        exact ⟨p, bs, rfl, SqL.of h1, k _ G H (Gw.refl s) (.bl _)⟩
    · cases hz
  · cases hz⟩
theorem k_any (C : Cxt X E k) : Call1 X (.builtin "any") (c1 anyD) := ⟨_, cr_any C.calm, fun vs ds G H Q s rs z hz k => by
  unfold c1 at hz
  split at hz
  · obtain ⟨v, rfl, r⟩ := rs.one
    unfold anyD at hz
    split at hz
    · rename_i xs
      cases e : bls xs with
      | none => rw [e] at hz; cases hz
      | some bs =>
        rw [e] at hz
        cases hz
        obtain ⟨p, ws, rfl, h1, h2⟩ := r.lst s
        rw [bls_eq e] at h2
        rw [h2.of_bls] at h1
        exact ⟨p, bs, rfl, SqL.of h1, k _ G H (Gw.refl s) (.bl _)⟩
    · cases hz
  · cases hz⟩
theorem k_sum (C : Cxt X E k) : Call1 X (.builtin "sum") (c1 sumD) := ⟨_, cr_sum C.calm, fun vs ds G H Q s rs z hz k => by
  unfold c1 at hz
  split at hz
  · obtain ⟨v, rfl, r⟩ := rs.one
    unfold sumD at hz
    split at hz
    · rename_i xs
      cases e : intsOf xs with
      | none => rw [e] at hz; cases hz
      | some bs =>
        rw [e] at hz
        cases hz
        obtain ⟨p, ws, rfl, h1, h2⟩ := r.lst s
        rw [intsOf_eq e] at h2
        rw [h2.of_ints] at h1
        exact ⟨p, bs, rfl, SqL.of h1, k _ G H (Gw.refl s) (.int _)⟩
    · cases hz
  · cases hz⟩
/-! ### list, tuple, int, str, abs, min, max -/
def listD : D → Option (List D) := seqOf
theorem k_list : CallF X (.type "list") (cl1 listD) := ⟨_, call_list_of, fun vs ds G H Q s rs z hz k => by
  unfold cl1 at hz
  split at hz
  · obtain ⟨v, rfl, r⟩ := rs.one
    unfold listD seqOf at hz
    split at hz
    · cases hz
      obtain ⟨p, ws, rfl, h1, h2⟩ := r.lst s
      exact ⟨p, ws, rfl, .inl (SqL.of h1), fun l hl => k l ws G _ (Gw.own s hl) hl (s.free hl) upd_same h2⟩
    · cases hz
      obtain ⟨p, ws, rfl, h1, h2⟩ := r.tup
      exact ⟨p, ws, rfl, .inr (same_seqT s h1), fun l hl => k l ws G _ (Gw.own s hl) hl (s.free hl) upd_same h2⟩
    · cases hz
  · cases hz⟩
def tupleD : D → Option D := fun d => match d with
  | .list xs => some (.tuple xs)
  | .tuple xs => some (.tuple xs)
  | _ => none
theorem k_tuple : Call1 X (.type "tuple") (c1 tupleD) := ⟨_, call_tuple_of, fun vs ds G H Q s rs z hz k => by
  unfold c1 at hz
  split at hz
  · obtain ⟨v, rfl, r⟩ := rs.one
    unfold tupleD at hz
    split at hz
    · cases hz
      obtain ⟨p, ws, rfl, h1, h2⟩ := r.lst s
      exact ⟨p, ws, rfl, .inl ⟨SqL.of h1, fun l hl => k _ _ _ (Gw.new s hl) (.tup (SqT.of upd_same) (h2.mono (same_new (s.free hl))))⟩⟩
    · cases hz
      obtain ⟨p, ws, rfl, h1, h2⟩ := r.tup
      exact ⟨p, ws, rfl, .inr ⟨same_seqT s h1, k _ G H (Gw.refl s) (.tup h1 h2)⟩⟩
    · cases hz
  · cases hz⟩
def intD : D → Option D := fun d => match d with
  | .int i => some (.int i)
  | .bool b => some (.int (if b then 1 else 0))
  | _ => none
theorem k_int : Call1 X (.type "int") (c1 intD) := ⟨_, call_int1, fun vs ds G H Q s rs z hz k => by
  unfold c1 at hz
  split at hz
  · obtain ⟨v, rfl, r⟩ := rs.one
    unfold intD at hz
    split at hz
    · cases hz
      rw [r.int]
      exact .inl ⟨_, rfl, k _ G H (Gw.refl s) (.int _)⟩
    · cases hz
      rw [r.bl]
      exact .inr ⟨_, rfl, k _ G H (Gw.refl s) (.int _)⟩
    · cases hz
  · cases hz⟩
def strD : D → Option D := fun d => match d with
  | .int i => if i.natAbs.log2 < 1920 then some (.str (toString i)) else none
  | _ => none
theorem k_str : Call1 X (.type "str") (c1 strD) := ⟨_, call_str_int, fun vs ds G H Q s rs z hz k => by
  unfold c1 at hz
  split at hz
  · obtain ⟨v, rfl, r⟩ := rs.one
    unfold strD at hz
    split at hz
    · split at hz
      · rename_i hl
        cases hz
        rw [r.int]
        exact ⟨_, rfl, hl, k _ G H (Gw.refl s) (.str _)⟩
      · cases hz
    · cases hz
  · cases hz⟩
def absD : D → Option D := i1 fun i => .int (if i < 0 then -i else i)
theorem k_abs : Call1 X (.builtin "abs") (c1 absD) := ⟨_, call_abs, fun vs ds G H Q s rs z hz k => by
  unfold c1 at hz
  split at hz
  · obtain ⟨v, rfl, r⟩ := rs.one
    unfold absD i1 at hz
    split at hz
    · cases hz
      rw [r.int]
      exact ⟨_, rfl, k _ G H (Gw.refl s) (.int _)⟩
    · cases hz
  · cases hz⟩
def minI : D → D → Option D := ii fun i j => some (.int (if j < i then j else i))
def maxI : D → D → Option D := ii fun i j => some (.int (if j > i then j else i))
theorem k_min2 (C : Cxt X E k) : Call1 X (.builtin "min") (c2 minI) := ⟨_, call_min2 C.calm, fun vs ds G H Q s rs z hz k => by
  unfold c2 at hz
  split at hz
  · obtain ⟨v, u, rfl, r1, r2⟩ := rs.two
    unfold minI ii at hz
    split at hz
    · cases hz
      rw [r1.int, r2.int]
      exact ⟨_, _, rfl, k _ G H (Gw.refl s) (.int _)⟩
    · cases hz
  · cases hz⟩
theorem k_max2 (C : Cxt X E k) : Call1 X (.builtin "max") (c2 maxI) := ⟨_, call_max2 C.calm, fun vs ds G H Q s rs z hz k => by
  unfold c2 at hz
  split at hz
  · obtain ⟨v, u, rfl, r1, r2⟩ := rs.two
    unfold maxI ii at hz
    split at hz
    · cases hz
      rw [r1.int, r2.int]
      exact ⟨_, _, rfl, k _ G H (Gw.refl s) (.int _)⟩
    · cases hz
  · cases hz⟩
/-! ### texts -/
def splitD : D → List D → Option (List D) := fun d ds => match d, ds with
  | .str a, [.str b] => if (b.length == 0) = false ∧ a.length ≤ LIM then some ((Txt.split a b).map .str) else none
  | _, _ => none
theorem m_split : MtF X "str.split" splitD := ⟨_, mt_split, fun x vs d ds G H Q s rx rs z hz k => by
  unfold splitD at hz
  split at hz
  · rename_i a b
    split at hz
    · rename_i hc
      cases hz
      obtain ⟨v, rfl, r⟩ := rs.one
      refine ⟨a, b, rx.str, by rw [r.str], hc.1, Nat.le_trans (Nat.add_le_add_right hc.2 2) (by decide), fun p hp => k p _ G _ (Gw.own s hp) hp (s.free hp) upd_same (RepL.strs _)⟩
    · cases hz
  · cases hz⟩
def partD : D → List D → Option D := fun d ds => match d, ds with
  | .str a, [.str b] => if (b.length == 0) = false ∧ a.length ≤ LIM then some (.tuple [.str (Txt.partition a b).1, .str (Txt.partition a b).2.1, .str (Txt.partition a b).2.2]) else none
  | _, _ => none
theorem m_part : Mt1 X "str.partition" partD := ⟨_, mt_partition, fun x vs d ds G H Q s rx rs z hz k => by
  unfold partD at hz
  split at hz
  · rename_i a b
    split at hz
    · rename_i hc
      cases hz
      obtain ⟨v, rfl, r⟩ := rs.one
      exact ⟨a, b, rx.str, by rw [r.str], hc.1, lim_le hc.2, fun p hp => k _ _ _ (Gw.new s hp) (.tup (SqT.of upd_same) (.cons (.str _) (.cons (.str _) (.cons (.str _) .nil))))⟩
    · cases hz
  · cases hz⟩
def joinD : D → List D → Option D := fun d ds => match d, ds with
  | .str a, [e] => match seqOf e with
    | some xs => match strsOf xs with
      | some ys => if (ys.map (·.length)).sum + ys.length * a.length ≤ LIM then some (.str (Txt.join a ys)) else none
      | none => none
    | none => none
  | _, _ => none
theorem m_join : Mt1 X "str.join" joinD := ⟨_, mt_join, fun x vs d ds G H Q s rx rs z hz k => by
  unfold joinD at hz
  split at hz
  · rename_i a e
    obtain ⟨v, rfl, r⟩ := rs.one
    cases e1 : seqOf e with
    | none => rw [e1] at hz; cases hz
    | some xs =>
      rw [e1] at hz
      dsimp only at hz
      cases e2 : strsOf xs with
      | none => rw [e2] at hz; cases hz
      | some ys =>
        rw [e2] at hz
        dsimp only at hz
        split at hz
        · rename_i hl
          cases hz
          have hl2 : (ys.map (·.length)).sum + ys.length * a.length ≤ 16777216 := Nat.le_trans hl (by decide)
          unfold seqOf at e1
          split at e1
          · cases e1
            obtain ⟨p, ws, rfl, h1, h2⟩ := r.lst s
            rw [strsOf_eq e2] at h2
            rw [h2.of_strs] at h1
            exact ⟨a, p, ys, rx.str, rfl, .inl (SqL.of h1), hl2, k _ G H (Gw.refl s) (.str _)⟩
          · cases e1
            obtain ⟨p, ws, rfl, h1, h2⟩ := r.tup
            rw [strsOf_eq e2] at h2
            rw [h2.of_strs] at h1
            exact ⟨a, p, ys, rx.str, rfl, .inr (same_seqT s h1), hl2, k _ G H (Gw.refl s) (.str _)⟩
          · cases e1
        · cases hz
  · cases hz⟩
/-! ### places -/
def idxD : D → D → Option D := fun x y => match x, y with
  | .list xs, .int i => atI xs i
  | .tuple xs, .int i => atI xs i
  | .str a, .int i => if a.length ≤ LIM then (atI a.cps.toList i).map fun c => .str ⟨#[c]⟩ else none
  | .dict [(.none, .list xs)], .int i => atI xs i
  | _, _ => none
theorem atI_rep {K : PySem.W.Frag} {G : Hp} {vs : List V} {ds : List D} {i : Int} {d : D} (r : RepL K G vs ds) (h : atI ds i = some d) : ∃ v, atI vs i = some v ∧ Rep K G v d := by
  unfold atI at h ⊢
  rw [r.length]
  cases e : ixN ds.length i with
  | none => rw [e] at h; cases h
  | some j =>
    rw [e] at h
    obtain ⟨v, h1, h2⟩ := r.get (i := j) h
    exact ⟨v, h1, h2⟩
theorem x_idx : Ix2 X idxD := ⟨_, ix_seq, fun x y dx dy G H Q s rx ry z hz k => by
  unfold idxD at hz
  split at hz
  · rename_i xs i
    obtain ⟨p, vs, rfl, h1, h2⟩ := rx.lst s
    obtain ⟨v, h3, h4⟩ := atI_rep h2 hz
    exact .inl ⟨p, vs, i, v, rfl, ry.int, SqL.of h1, h3, k _ G H (Gw.refl s) h4⟩
  · rename_i xs i
    obtain ⟨p, vs, rfl, h1, h2⟩ := rx.tup
    obtain ⟨v, h3, h4⟩ := atI_rep h2 hz
    exact .inr (.inl ⟨p, vs, i, v, rfl, ry.int, same_seqT s h1, h3, k _ G H (Gw.refl s) h4⟩)
  · rename_i a i
    split at hz
    · rename_i hl
      cases e : atI a.cps.toList i with
      | none => rw [e] at hz; cases hz
      | some c =>
        rw [e] at hz
        cases hz
        exact .inr (.inr ⟨a, i, c, rx.str, ry.int, lim_le hl, e, k _ G H (Gw.refl s) (.str _)⟩)
    · cases hz
  · rename_i xs i
    obtain ⟨p, vs, rfl, h1, h2⟩ := rx.scr
    obtain ⟨v, h3, h4⟩ := atI_rep h2 hz
    exact .inl ⟨p, vs, i, v, rfl, ry.int, s.seq h1, h3, k _ G H (Gw.refl s) h4⟩
  · cases hz⟩
/-! ### slices -/
def cutD (xs : List D) (lo hi : Option Int) : List D := (xs.drop (HT.sIx xs.length 0 lo)).take (HT.sIx xs.length xs.length hi - HT.sIx xs.length 0 lo)
theorem cut_rep {K : PySem.W.Frag} {G : Hp} {vs : List V} {ds : List D} {lo hi : Option Int} (r : RepL K G vs ds) : RepL K G (cutV vs lo hi) (cutD ds lo hi) := by
  unfold cutV cutD
  rw [r.length]
  exact (r.drop _).take _
def slL : D → Option Int → Option Int → Option (List D) := fun x lo hi => match x with
  | .list xs => some (cutD xs lo hi)
  | _ => none
theorem x_slL : SlF X slL := ⟨_, sl_list, fun x d lo hi G H Q s rx z hz k => by
  unfold slL at hz
  split at hz
  · cases hz
    obtain ⟨p, vs, rfl, h1, h2⟩ := rx.lst s
    exact ⟨p, vs, rfl, SqL.of h1, fun l hl => k l _ G _ (Gw.own s hl) hl (s.free hl) upd_same (cut_rep h2)⟩
  · cases hz⟩
def slS : D → Option Int → Option Int → Option D := fun x lo hi => match x with
  | .str a => if a.length ≤ LIM then some (.str (cutS a lo hi)) else none
  | _ => none
theorem x_slS : Sl1 X slS := ⟨_, sl_str, fun x d lo hi G H Q s rx z hz k => by
  unfold slS at hz
  split at hz
  · rename_i a
    split at hz
    · rename_i hl
      cases hz
      exact ⟨a, rx.str, lim_le hl, k _ G H (Gw.refl s) (.str _)⟩
    · cases hz
  · cases hz⟩
def slT : D → Option Int → Option Int → Option D := fun x lo hi => match x with
  | .tuple xs => some (.tuple (cutD xs lo hi))
  | _ => none
theorem cut_whole {α : Type} {xs : List α} {lo hi : Option Int} (h : HT.sIx xs.length 0 lo = 0 ∧ HT.sIx xs.length xs.length hi = xs.length) : (xs.drop (HT.sIx xs.length 0 lo)).take (HT.sIx xs.length xs.length hi - HT.sIx xs.length 0 lo) = xs := by
  rw [h.1, h.2, List.drop_zero, Nat.sub_zero, List.take_length]
theorem x_slT : Sl1 X slT := ⟨_, sl_tupA, fun x d lo hi G H Q s rx z hz k => by
  unfold slT at hz
  split at hz
  · rename_i xs
    cases hz
    obtain ⟨p, vs, rfl, h1, h2⟩ := rx.tup
    refine ⟨p, vs, rfl, same_seqT s h1, fun hw => ?_, fun hw p' hp' => k _ _ _ (Gw.new s hp') (.tup (SqT.of upd_same) ((cut_rep h2).mono (same_new (s.free hp'))))⟩
    rw [h2.length] at hw
    have e : cutD xs lo hi = xs := cut_whole hw
    rw [e] at k
    exact k _ G H (Gw.refl s) (.tup h1 h2)
  · cases hz⟩
/-! ### text * n, list * n -/
def mulOk (x : Str) (n : Int) : Prop := -1000 ≤ n ∧ n ≤ 1000 ∧ x.length ≤ 100
instance (x : Str) (n : Int) : Decidable (mulOk x n) := inferInstanceAs (Decidable (_ ∧ _))
theorem mulOk_ok {x : Str} {n : Int} (h : mulOk x n) : MulOk x n := by
  obtain ⟨h1, h2, h3⟩ := h
  refine ⟨?_, fun hn _ => ?_, fun hn _ => ?_⟩
  · rw [decide_eq_false (by omega), decide_eq_false (by omega)] <;> rfl
  · intro hgt
    have e : ((2 : Int) ^ 63 - 1) / n ≥ (2 ^ 63 - 1) / 1000 := by
      apply Int.le_ediv_of_mul_le (by omega)
      have : (2 ^ 63 - 1) / 1000 * n ≤ (2 ^ 63 - 1) / 1000 * 1000 := Int.mul_le_mul_of_nonneg_left h2 (by decide)
      exact Int.le_trans this (by decide)
    have : ((2 : Int) ^ 63 - 1) / 1000 ≥ 1000 := by decide
    omega
  · have hz : x.length * n.toNat ≤ 100 * 1000 := Nat.mul_le_mul h3 (by omega)
    unfold Builtin.Str.tooLong
    simp only [decide_eq_false_iff_not]
    have : sizeLine = 16777216 := sizeLine_eq
    omega
def mulS : D → D → Option D := fun x y => match x, y with
  | .str a, .int n => if mulOk a n then some (.str (Txt.mul a n)) else none
  | _, _ => none
theorem op_mulS : OpR X (binaryOp .Mult) (fun x y H Q => ∃ a n, x = .str a ∧ y = .int n ∧ mulOk a n ∧ Q (.str (Txt.mul a n)) H) := by
  intro pins s σ H x y v u Q I rx ry h
  obtain ⟨a, n, rfl, rfl, hc, q⟩ := h
  obtain ⟨t, rfl⟩ := rx
  obtain ⟨t', rfl⟩ := ry
  exact PySem.SB.mul (mulOk_ok hc) fun t2 k2 => ⟨.str _, H, I.tok k2, ⟨t2, rfl⟩, q⟩
theorem o_mulS : Op2 X (binaryOp .Mult) mulS := ⟨_, op_mulS, fun x y dx dy G H Q s rx ry z hz k => by
  unfold mulS at hz
  split at hz
  · rename_i a n
    split at hz
    · rename_i hc
      cases hz
      exact ⟨a, n, rx.str, ry.int, hc, k _ G H (Gw.refl s) (.str _)⟩
    · cases hz
  · cases hz⟩
def mulD : D → D → Option D := fun x y => match x, y with
  | .int i, .int j => if cMul i j then some (.int (i * j)) else none
  | .str a, .int n => if mulOk a n then some (.str (Txt.mul a n)) else none
  | _, _ => none
theorem o_mul : Op2 X (binaryOp .Mult) mulD := (Op2.or o_mulI o_mulS).congr fun x y => by
  cases x <;> cases y <;> simp [ii, mulS, mulD]
def mulL : D → D → Option (List D) := fun x y => match x, y with
  | .list xs, .int n => if -1000 ≤ n ∧ n ≤ 100000 ∧ xs.length * n.toNat ≤ LIM then some (List.replicate n.toNat xs).flatten else none
  | _, _ => none
theorem RepL.reps {K : PySem.W.Frag} {G : Hp} {vs : List V} {ds : List D} (r : RepL K G vs ds) : ∀ n : Nat, RepL K G (List.replicate n vs).flatten (List.replicate n ds).flatten
  | 0 => .nil
  | n + 1 => by
    rw [List.replicate_succ, List.replicate_succ, List.flatten_cons, List.flatten_cons]
    exact r.append (RepL.reps r n)
theorem o_mulL : OpF X (binaryOp .Mult) mulL := ⟨_, op_rep, fun x y dx dy G H Q s rx ry z hz k => by
  unfold mulL at hz
  split at hz
  · rename_i xs n
    split at hz
    · rename_i hc
      cases hz
      obtain ⟨p, vs, rfl, h1, h2⟩ := rx.lst s
      refine ⟨p, n, vs, rfl, ry.int, h1, by omega, by omega, by rw [h2.length]; exact lim_le hc.2.2, fun p' hp' => k p' _ G _ (Gw.own s hp') hp' (s.free hp') upd_same (h2.reps _)⟩
    · cases hz
  · cases hz⟩
/-! ### list.index -/
def indexD : D → List D → Option D := fun d ds => match d, ds with
  | .list xs, [y] => if cIn y xs ∧ SeqAt.shaped (.list xs) = true ∧ SeqAt.shaped y = true then (xs.findIdx? fun z => PyData.eqv z y).map fun j => .int (j : Nat) else none
  | _, _ => none
theorem hu_more (C : Cxt X E k) : X.A.units + 65 < cLine := by
  have := C.room.un
  omega
theorem m_index (C : Cxt X E k) : Mt1 X "list.index" indexD := ⟨_, mt_indexD (hu_more C), fun x vs d ds G H Q s rx rs z hz k => by
  unfold indexD at hz
  split at hz
  · rename_i xs y
    obtain ⟨v, rfl, r⟩ := rs.one
    split at hz
    · rename_i hc
      obtain ⟨hc, hs1, hs2⟩ := hc
      cases e : xs.findIdx? fun z => PyData.eqv z y with
      | none => rw [e] at hz; cases hz
      | some j =>
        rw [e] at hz
        cases hz
        obtain ⟨p, ws, rfl, h1, h2⟩ := rx.lst s
        obtain ⟨hj, hp, hno⟩ := List.findIdx?_eq_some_iff_getElem.mp e
        refine ⟨p, v, y, xs, j, xs[j], rfl, rfl, .lst (SqL.of h1) (RepL.dp xs (h2.mono s) hc.2.1), Rep.dp _ (r.rep s) hc.1, hs1, hs2, List.getElem?_eq_getElem hj, hp, fun m z' hm hz' => ?_, k _ G H (Gw.refl s) (.int _)⟩
        have := hno m hm
        have hm' : m < xs.length := by omega
        rw [List.getElem?_eq_getElem hm'] at hz'
        cases hz'
        simpa using this
    · cases hz
  · cases hz⟩
end
end Mp

set_option Elab.async false
set_option linter.all false
set_option maxRecDepth 100000
/-! Mp8: comprehensions whose element may raise. -/
namespace Mp
open PySem PySem.Spec PyProof.Rows L2

theorem ff_keep {h h' B B' : Heap} : ∀ {l : List PySem.Env}, (∀ b ∈ frs l, ∀ o, h.get? b = some o → h'.get? b = some o) → (∀ b, B.get? b = none → B'.get? b = none) → h.FunFrames B l → h'.FunFrames B' l
  | [], _, _, _ => trivial
  | env :: l, k, kb, ⟨h1, ⟨L, o, h2, h3, h4, h5⟩, h6⟩ => by
    have m : L ∈ frs (env :: l) := List.mem_filterMap.mpr ⟨env, List.mem_cons_self, h2⟩
    refine ⟨h1, ⟨L, o, h2, kb _ h3, k L m o h4, h5⟩, ff_keep (fun b hb => k b ?_) kb h6⟩
    obtain ⟨e, he, q⟩ := List.mem_filterMap.mp hb
    exact List.mem_filterMap.mpr ⟨e, List.mem_cons_of_mem _ he, q⟩
section
variable {X : Cx} {pins : List (Addr × Obj)} {σ : L2.St} {H : Hp} {s s' : Shared} {EE : XK}
/-- a call's exception, seen here: in flight -/
theorem fly_of_call (I : Inv X pins σ H s) {u : Value} (c : L2.CX X.prog X.w X.stack H s EE u s') : ∃ (a : Addr) (B : Heap) (sI : Shared) (pins' : List (Addr × Obj)) (σ' : L2.St) (H' : Hp) (cls : Value) (d : Option Addr),
    u = .ref a ∧ Inv X pins' σ' H' sI ∧ (∀ b o, sI.heap.get? b = some o → b ∉ frs X.stack → B.get? b = some o) ∧ sI.heap.UpToSlots s'.heap ∧ HandSPX.FlyingZ B X.stack a (Zc cls d) s'.heap ∧ H' a = none ∧ s'.os = sI.os ∧ AllBare s'.gens ∧ EE cls d H' := by
  obtain ⟨a, B, sI, pins', σ', H', cls, d, rfl, I', nb, up, sky, na, os, ag, w⟩ := XE.of_call (W := fun cls d _ H => EE cls d H) I (fun _ _ _ h => h) c
  obtain ⟨a0, B0, H0, cls0, d0, ea, fl, _⟩ := c
  cases ea
  obtain ⟨_, _, _, oe, vs, T, oT, ts, g1, _, g2, g3, _, _, g4, g5, g6⟩ := fl
  refine ⟨a, B, sI, pins', σ', H', cls, d, rfl, I', nb, up, ?_, na, os, ag, w⟩
  rcases sky with ⟨_, _, _, oe', vs', k1, _, k2, k3⟩ | fl' | ⟨_, _, _, oe', vs', T', oT', ts', k1, _, k2, k3, _, _, k4, k5, k6⟩
  · rw [g1] at k1; cases k1
    rw [g2] at k2; cases k2
    rw [g3] at k3; cases k3
  · exact fl'
  · rw [g1] at k1; cases k1
    rw [g2] at k2; cases k2
    rw [g3] at k3; cases k3
    rw [g4] at k4; cases k4
    rw [g5] at k5; cases k5
    rw [g6] at k6
    simp [rawInt] at k6
/-- a block's exception goes on in the def -/
theorem comp_fails {scope : Scope} {cl : List (Str × Addr)} {C : Addr} {fp : List Addr} {s3 : Shared} {H3 : Hp} (hst : X.stack = X.env :: X.outer) (hfm : X.env.frame = some X.env.locals) (tk : Takes X fun cls d _ H => EE cls d H)
    (I3 : Inv X pins σ H3 s3) (hfp : ∀ b ∈ fp, FpOk X pins H3 b) (hC : C = s3.heap.objs.size) : ∀ xe : Value → Shared → Prop, xe = (notedBy (model X.prog X.w) X.A (compEnvC scope cl C X.env) (CompFails (model X.prog X.w) X.A X.xe (compEnvC scope cl C X.env))) →
    Passes (L2.CX X.prog X.w) ((X.blk s3 H3 scope (compEnvC scope cl C X.env) fp).tr [] xe) EE := by
  intro xe hxe pins2 σ2 H2 s2 u s' I2 c
  show xe u s'
  rw [hxe]
  obtain ⟨a, B, sI, pins', σ', H', cls, d, rfl, I', nb, up, fl, na, os, ag, w⟩ := fly_of_call I2 c
  have fr2 : X.A.frames = some (X.env :: X.outer) := by
    rw [← hst]; exact I3.ok.frames
  have fl2 : HandSPX.FlyingZ B (X.env :: X.outer) a (Zc cls d) s'.heap := by
    rw [← hst]; exact fl
  -- back in the def
  have J : Inv X pins σ H' sI := I3.call' (ch := fp) I'.os I'.base I'.hok I'.bare fun b hb => by
    obtain ⟨q1, q2, q3, q4, q5, q6⟩ := hfp b hb
    exact ⟨q4, q2, q5, q6⟩
  have hCn : H' C = none := I'.free
  have fC : FpOk X pins H' C := I3.fpOk (Nat.le_of_eq hC.symm) hCn
  have Cst : C ∉ frs X.stack := fun hm => by
    rcases List.mem_cons.mp (I3.stkSub C hm) with z | z
    · exact fC.2.1 z
    · exact fC.2.2.1 z
  obtain ⟨m, oC, es, ep, hoC, hdC, hk1, hk2⟩ : ∃ m, sI.heap.Ns C m := let ⟨m, hn, _⟩ := I'.loc; ⟨m, hn⟩
  have bC : B.get? C = some oC := nb C oC hoC Cst
  show wpAny _ X.A (noteFrame (.ref a) X.env) _ _ s'
  refine HandSPX.looks_onZ Zc.steady fr2 hfm fl2 fun h1 held up1 => ?_
  obtain ⟨st1, na1, ff1, oe, vs, T, oT, ts, e1, e2, e3, e4, e5, e6, e7, e8, e9⟩ := held
  refine ⟨m, ⟨oC, es, ep, st1 C oC bC, hdC, hk1, hk2⟩, fun h2 m2 hn2 sb => ?_⟩
  have aC : a ≠ C := fun z => by rw [z, bC] at na1; cases na1
  have TC : T ≠ C := fun z => by rw [z, bC] at e5; cases e5
  have B2n : ∀ b, B.get? b = none → (PySem.W.hideAll B [C]).get? b = none := fun b hb => by
    cases q : (PySem.W.hideAll B [C]).get? b with
    | none => rfl
    | some o =>
      have z := PySem.W.of_hideAll _ q
      rw [hb] at z; cases z
  have ne_of : ∀ {h : Heap} {b : Addr} {o : Obj}, (PySem.W.hideAll h [C]).get? b = some o → b ≠ C := fun {h b o} q z => by
    subst z
    rw [PySem.W.hideAll_none [b] (by simp)] at q
    cases q
  unfold PySem.passOn
  have e1' : h2.get? a = some oe := by rw [sb.2 a aC]; exact e1
  refine wpAny_bind (wpAny_field e1' e3 e4 ?_)
  rw [if_neg (by simp)]
  refine wpAny_bind ?_
  show wpAny _ X.A (setFlight (.ref a) X.env.frame) _ _ _
  have stB : (PySem.W.hideAll B [C]).StaysIn h2 := fun b o q => by
    rw [sb.2 b (ne_of q)]
    exact st1 b o (PySem.W.of_hideAll _ q)
  have ffB : h2.FunFrames (PySem.W.hideAll B [C]) X.stack := ff_keep (fun b hb o q => by rw [sb.2 b fun z => Cst (by have z : b = C := z; rw [← z]; exact hb)]; exact q) B2n (by rw [hst]; exact ff1)
  refine HandSPX.setFlight_anyZ (base := PySem.W.hideAll B [C]) (l := X.stack) (Z := Zc cls d) (fl := rawInt X.env.locals) stB ffB ⟨oe, vs, T, oT, ts, e1', e2, e3, e4, B2n T e5, e6, by rw [sb.2 T TC]; exact e7, e8, e9⟩ fun h3 k1 k2 k3 k4 => ?_
  refine wpAny_throw (tk _ _ ?_)
  refine ⟨a, PySem.W.hideAll B [C], { sI with heap := PySem.W.hideAll sI.heap [C], toks := sI.toks }, pins, σ, H', cls, d, rfl, J.turnedL (ch := [C]) (fun b o hb e => PySem.W.hideAll_get _ e hb) (fun b hb => by cases List.mem_singleton.mp hb; exact fC),
    fun b o e hb => PySem.W.hideAll_get _ (nb b o (PySem.W.of_hideAll _ e) hb) (by simpa using ne_of e), fun b o e hnf => ?_, .inr (.inr ⟨k1, B2n a na1, k2, by rw [hfm] at k3; exact k3⟩), na, os, ag, w⟩
  obtain ⟨sl, q⟩ := (up.trans up1) b o (PySem.W.of_hideAll _ e) hnf
  have q2 : h2.get? b = some { o with slots := sl } := by rw [sb.2 b (ne_of e)]; exact q
  obtain ⟨sl2, q3⟩ := k4 b _ q2 hnf
  exact ⟨sl2, q3⟩

/-- the block's context, exceptions going on in the def -/
abbrev bx (X : Cx) (s : Shared) (H : Hp) (scope : Scope) (cenv : PySem.Env) (fp : List Addr) (xe : Value → Shared → Prop) : Cx := (X.blk s H scope cenv fp).tr [] xe
theorem lcx_core {σ : L2.St} {H : Hp} {s : Shared} {Q : VK} {elt tg iter : Expr} {ifs : List Expr} {scope : Scope} {own : List (Str × Nat)} {pos pos' : Pos} {wi : TI} {g : TG} {tt : TT} {te : TE} {use : Option (Value → Sem Unit)} {Qf : Value → Shared → Prop}
    (hst : X.stack = X.env :: X.outer) (hfm : X.env.frame = some X.env.locals) (tk : Takes X fun cls d _ H => EE cls d H) (hc : X.calm = true) (hN : X.N.Nodup) (I : Inv X pins σ H s) (hi : PI X tg iter wi) (ok : BlkOk X.N X.env.scope scope own)
    (hg : ∀ s H C cl fp xe, Passes (L2.CX X.prog X.w) (bx X s H scope (compEnvC scope cl C X.env) fp xe) EE → PG (bx X s H scope (compEnvC scope cl C X.env) fp xe) tg g)
    (ht : ∀ s H C cl fp xe, Passes (L2.CX X.prog X.w) (bx X s H scope (compEnvC scope cl C X.env) fp xe) EE → PTs (bx X s H scope (compEnvC scope cl C X.env) fp xe) ifs tt)
    (he : ∀ s H C cl fp xe, Passes (L2.CX X.prog X.w) (bx X s H scope (compEnvC scope cl C X.env) fp xe) EE → PE (bx X s H scope (compEnvC scope cl C X.env) fp xe) elt te)
    (hs : ∀ x, foldedSetIterable iter X.env x = pure x) (h : tLc wi g tt te (own.map (·.2)) σ H Q)
    (hR : ∀ D cenv s' m H', Inv X pins σ H' s' → Q (.ref D) H' → s'.heap.Ns cenv.locals m → FpOk X pins H' cenv.locals → compEnds (model X.prog X.w) X.A X.xe use Qf (.ref D) cenv (.ok .next) s') :
    wpAny (model X.prog X.w) X.A (comprehension (.ListComp elt [⟨tg, iter, ifs, 0⟩] scope pos) scope X.env pos' (newList []) false (eval iter X.env) use) Qf X.xe s := by
  have cells : ∀ y ∈ scope.names, y.2 = .free → ∃ c, X.env.cells.lookup y.1 = some c := fun y hy e => (ok.free y hy e).elim (fun z => I.ok.has _ (.inl z)) fun z => I.ok.has _ (.inr z)
  refine comprehension_at (use := use) rfl hs (closure_ok cells) ok.kind (fun y hy e => by rw [ok.uniq y hy, e]) (thn (hi.run pins s σ H _ I h) fun xv s1 q1 => thn q1 fun itv s2 q2 => ?_)
  obtain ⟨it, fp, tn, J, H2, rfl, I2, T, st2, f2, q⟩ := q2
  refine wpAny_newObj_type (newEnv_comp ?_) (Nat.zero_le _)
  obtain ⟨D, hD⟩ : ∃ D, D = s2.heap.objs.size := ⟨_, rfl⟩
  have hDn : H2 D = none := I2.hok.fresh (Nat.le_of_eq hD.symm)
  obtain ⟨W, ⟨m0, w0⟩, turn⟩ := q D hDn
  rw [← hD]
  obtain ⟨s3, hs3⟩ : ∃ s3 : Shared, s3 = { s2 with heap := s2.heap.push { cls := .type "list", data := .seq ([] : List Value).toArray } } := ⟨_, rfl⟩
  have h3 : s3.heap = s2.heap.push { cls := .type "list", data := .seq ([] : List Value).toArray } := by rw [hs3]
  obtain ⟨H3, hH3⟩ : ∃ H3, H3 = upd H2 D (.lst []) := ⟨_, rfl⟩
  rw [← hH3] at w0
  have I3 : Inv X pins σ H3 s3 := by
    rw [hs3, hH3]
    refine I2.laid (t' := s2.toks) (fun _ _ z => Heap.get?_push_of_some _ z) (Nat.le_of_eq hD.symm) ⟨Nat.zero_le _, [], 0, .nil, ?_⟩
    rw [hD]
    exact Heap.get?_push_size _ rfl
  have lt2 : ∀ b ∈ fp, b < s2.heap.objs.size := fun b hb => let ⟨_, z, _⟩ := T.obj _ _ st2 b hb; Heap.lt_size z
  have f3 : ∀ b ∈ fp, FpOk X pins H3 b ∧ b < s3.heap.objs.size := fun b hb => by
    have lt := lt2 b hb
    refine ⟨⟨?_, (f2 b hb).2⟩, by rw [h3, Heap.size_push]; exact Nat.lt_succ_of_lt lt⟩
    rw [hH3, upd_ne (by rw [hD]; exact Nat.ne_of_lt lt)]
    exact (f2 b hb).1
  have st3 : tn 0 s3.heap := T.keep _ _ _ st2 fun b _ o z => by rw [h3]; exact Heap.get?_push_of_some _ z
  obtain ⟨C, hC⟩ : ∃ C, C = s3.heap.objs.size := ⟨_, rfl⟩
  obtain ⟨cl, hcl⟩ : ∃ cl, cl = cellsFrom (s3.heap.objs.size + 1) scope.names (cloFrom X.env.cells scope.names []) := ⟨_, rfl⟩
  obtain ⟨s4, hs4⟩ : ∃ s4 : Shared, s4 = { s3 with heap := pushCells (s3.heap.push { cls := .type "dict", data := .dict #[] }) scope.names } := ⟨_, rfl⟩
  have I4 : Inv (X.blk s3 H3 scope (compEnvC scope cl C X.env) fp) [] (wipe σ (own.map (·.2))) H3 s4 := by
    rw [hs4, hcl, hC]
    exact block_start I3 ok hN f3
  have st4 : tn 0 s4.heap := T.keep _ _ _ st3 fun b _ o z => by rw [hs4]; exact pushCells_keeps _ _ _ _ (Heap.get?_push_of_some _ z)
  obtain ⟨xe, hxe⟩ : ∃ xe, xe = notedBy (model X.prog X.w) X.A (compEnvC scope cl C X.env) (CompFails (model X.prog X.w) X.A X.xe (compEnvC scope cl C X.env)) := ⟨_, rfl⟩
  have ps := comp_fails hst hfm tk I3 (fun b hb => (f3 b hb).1) hC xe hxe
  have pg := hg s3 H3 C cl fp xe ps
  have pt := ht s3 H3 C cl fp xe ps
  have pe := he s3 H3 C cl fp xe ps
  have I4x : Inv (bx X s3 H3 scope (compEnvC scope cl C X.env) fp xe) [] (wipe σ (own.map (·.2))) H3 s4 := I4.toTry xe
  clear I4
  have hR' : ∀ m s' H', Inv X pins σ H' s' → Q (.ref D) H' → s'.heap.Ns C m → FpOk X pins H' C → compEnds (model X.prog X.w) X.A X.xe use Qf (.ref D) (compEnvC scope cl C X.env) (.ok .next) s' := fun m s' H' a b c d => hR D (compEnvC scope cl C X.env) s' m H' a b c d
  have goal : codeAny (model X.prog X.w) X.A (.compStart (.ListComp elt [⟨tg, iter, ifs, 0⟩] scope pos) 0 (.ref it) (.ref D) (compEnvC scope cl C X.env)) (compEnds (model X.prog X.w) X.A X.xe use Qf (.ref D) (compEnvC scope cl C X.env)) s4 := by
    have cL : (compEnvC scope cl C X.env).locals = C := rfl
    generalize compEnvC scope cl C X.env = ce at I4x pg pt pe hxe ps hR' cL ⊢
    have nfp : ∀ b ∈ fp, H3 b = none := fun b hb => (f3 b hb).1.1
    have stat : ∀ {σ' : L2.St} {H' : Hp} {s' : Shared}, Inv (bx X s3 H3 scope ce fp xe) [] σ' H' s' → (∀ b ∈ fp, H' b = none) → ∀ b ∈ fp, FpOk (bx X s3 H3 scope ce fp xe) [] H' b := fun {_ _ _} Ix hn b hb =>
      ⟨hn b hb, (Ix.ok.exf b hb).1, Ix.ok.exfs b hb, .inl hb, fun x c z => (Ix.ok.exf b hb).2 x c z, fun p hp => absurd (show p ∈ ([] : List (Addr × Obj)) ++ [] from hp) (by simp)⟩
    have loop : codeAny (model X.prog X.w) X.A (.compLoop (.ListComp elt [⟨tg, iter, ifs, 0⟩] scope pos) 0 (.ref it) (.ref D) ce) (compEnds (model X.prog X.w) X.A X.xe use Qf (.ref D) ce) s4 := by
      refine compLoop_any (fun n s' => ∃ i H', Inv (bx X s3 H3 scope ce fp xe) [] (wipe σ (own.map (·.2))) H' s' ∧ tn i s'.heap ∧ (∀ b ∈ fp, H' b = none) ∧ W i n H') ?_ m0 ⟨0, H3, I4x, st4, nfp, w0⟩
      rintro n s5 ⟨i, H5, I5, st5, n5, w5⟩
      have hex : (notedBy (model X.prog X.w) X.A ce fun e s' => compEnds (model X.prog X.w) X.A X.xe use Qf (.ref D) ce (.error e) s') = xe := by
        rw [hxe]
        cases use <;> rfl
      rw [hex]
      rcases turn i n H5 w5 with ⟨stop, qq⟩ | ⟨go, Nx, hNx, step⟩
      · have td := T.done (bx X s3 H3 scope ce fp xe) rfl rfl rfl hc i [] s5 _ H5 (fun _ _ => False) I5 (stat I5 n5) st5 stop
        refine thnF td fun r s6 ⟨hr, I6⟩ => ?_
        subst hr
        have nC : H5 C = none := by
          have z : H5 ce.locals = none := I6.free
          rw [cL] at z
          exact z
        have I7 : Inv X pins σ H5 s6 := I3.call' (ch := fp) I6.os I6.base I6.hok I6.bare fun b hb => by
          obtain ⟨_, z2, _, z4, z5, z6⟩ := (f3 b hb).1
          exact ⟨z4, z2, z5, z6⟩
        obtain ⟨m, hn, _⟩ := I6.loc
        have hn : s6.heap.Ns ce.locals m := hn
        rw [cL] at hn
        exact hR' m s6 H5 I7 qq hn (I3.fpOk (Nat.le_of_eq hC.symm) nC)
      · have ti := T.item (bx X s3 H3 scope ce fp xe) rfl rfl rfl hc i [] s5 _ H5 (fun _ _ => False) I5 (stat I5 n5) st5 go
        refine thnF ti fun r s6 ⟨u, hr, h6⟩ => ?_
        subst hr
        refine thnF h6 fun _ s7 ⟨x, H7, I7, r7, y7, st7, n7⟩ => ?_
        have I7' := I7.pinned (stat I7 n7) (T.obj _ _ st7)
        refine thn (pg.run _ s7 _ H7 x u _ I7' r7 (step x H7 y7)) fun _ s8 ⟨σ8, H8, I8, hw8, q8⟩ => ?_
        refine thn (pt.run _ s8 σ8 H8 _ I8 q8) fun b s9 ⟨H9, I9, q9⟩ => ?_
        have next : ∀ {s' : Shared} {H' : Hp}, Inv (bx X s3 H3 scope ce fp xe) ([] ++ pinsAt fp s7.heap) σ8 H' s' → Nx H' → ∃ m, m < n ∧ ∃ i H', Inv (bx X s3 H3 scope ce fp xe) [] (wipe σ (own.map (·.2))) H' s' ∧ tn i s'.heap ∧ (∀ b ∈ fp, H' b = none) ∧ W i m H' := fun {s' H'} Iy nx => by
          obtain ⟨m', hm, w'⟩ := hNx H' nx
          have pin' : ∀ b ∈ fp, ∀ o, s7.heap.get? b = some o → s'.heap.get? b = some o ∧ H' b = none := fun b hb o z =>
            let r := Iy.pin (b, o) (List.mem_append_right _ (List.mem_append_right _ (mem_pinsAt hb z)))
            ⟨r.1, r.2.1⟩
          refine ⟨m', hm, i + 1, H', (Iy.unpinned (pins := [])).weak (by rw [← hw8, wipe_length]) fun j v z => ?_, T.keep _ _ _ st7 fun b hb o z => (pin' b hb o z).1, fun b hb => ?_, w'⟩
          · rw [← hw8] at z
            exact (wipe_some z).1
          · obtain ⟨o, z, _⟩ := T.obj _ _ st7 b hb
            exact (pin' b hb o z).2
        cases b with
        | false =>
          simp only [Bool.false_eq_true, if_false] at q9 ⊢
          exact next I9 q9
        | true =>
          simp only [if_true] at q9 ⊢
          refine thn (pe.run _ s9 σ8 H9 _ I9 q9) fun z s10 ⟨yv, H10, I10, r10, acc, hD10, hz10, nx⟩ => ?_
          exact app_ok (X := bx X s3 H3 scope ce fp xe) I10 hD10 hz10 r10 fun s11 I11 => next I11 nx
    exact codeAny_compStart_list loop (T.self X.A 0 _ _ _ st4 loop)
  rw [hs4, hC, hcl] at goal
  have q5 := goal
  rw [hs3] at q5
  exact q5
end
end Mp

set_option Elab.async false
set_option linter.all false
set_option maxRecDepth 100000
/-! Mp9: comprehensions whose element may raise, as meanings. -/
namespace Mp
open PySem L2

def compX (h : D → R (Option D)) : List D → R (List D)
  | [] => .ok []
  | d :: ds => match h d with
    | .ok none => compX h ds
    | .ok (some x) => (compX h ds).map (x :: ·)
    | .exc c => .exc c
    | .bad => .bad
def compHX (vs : List Nat) (t : D → Env → R Env) (ft : Env → R Bool) (fe : Env → R D) (ρ : Env) : D → R (Option D) := fun d => match t d (wipeS ρ vs) with
  | .ok ρ' => match ft ρ' with
    | .ok true => (fe ρ').map some
    | .ok false => .ok none
    | _ => .bad
  | _ => .bad
def lLx (vs : List Nat) (t : D → Env → R Env) (ft : Env → R Bool) (fe : Env → R D) (fi : Env → R (List D)) : Env → R (List D) := fun ρ => (fi ρ).bind fun ds => if ds.length ≤ LIM then compX (compHX vs t ft fe ρ) ds else .bad
section
variable {X : Cx} {E : EX} {k : Nat} {pos : Pos}
def xLeft (E : EX) (G1 H1 : Hp) (done : List D) (kx : List D → Hp → Hp → Prop) : R (List D) → Prop
  | .ok rest => Out E G1 H1 (.ok (done ++ rest)) kx
  | .exc c => Out E G1 H1 (.exc c : R (List D)) kx
  | .bad => False
theorem lx_top {fi : Env → R (List D)} {t : D → Env → R Env} {ws vs : List Nat} {ft : Env → R Bool} {fe : Env → R D} (hw : ∀ j ∈ ws, j ∈ vs) : ∀ σ H Q, rdF X.K E (lLx vs t ft fe fi) σ H Q → tLc (rdI X.K E fi) (rdG X.K t ws) (rdT X.K FX ft) (rdE X.K E fe) vs σ H Q := fun σ H Q ⟨B, G, ρ, rl, o⟩ =>
  ⟨B, G, ρ, rl, o.bind.imp fun ds G1 H1 g1 o1 J P hJ hP Da hD => by
    by_cases hlim : ds.length ≤ LIM
    case neg => rw [if_neg hlim] at o1; exact o1.elim
    rw [if_pos hlim] at o1
    have rl1 := rl.gw g1
    have hB : B.H0 Da = none := rl1.gw0.2.1.free hD
    have hG1 : G1 Da = none := g1.2.2.1.free hD
    have nD := rl1.fresh hD
    generalize hkx : (fun (xs : List D) (G' H' : Hp) => ∀ (p : Addr) (vs : List V), H p = none → G' p = none → H' p = some (HO.lst vs) → RepL X.K G' vs xs → Q (V.ref p) H') = kx at o1
    refine ⟨fun i m H2 => m = ds.length - i ∧ i ≤ ds.length ∧ ∃ G2 acc done, Gw G1 H1 G2 H2 ∧ Rel X.K B G2 H2 ρ σ ∧ G2 Da = none ∧ H2 Da = some (.lst acc) ∧ RepL X.K G2 acc done ∧ done.length ≤ i ∧ xLeft E G1 H1 done kx (compX (compHX vs t ft fe ρ) (ds.drop i)),
      ⟨_, rfl, Nat.zero_le _, G1, [], [], Gw.own g1.2.2.1 hD, rl1.gw (Gw.own g1.2.2.1 hD), hG1, upd_same, .nil, Nat.zero_le _, ?_⟩, ?_⟩
    · rw [List.drop_zero]
      cases hz : compX (compHX vs t ft fe ρ) ds with
      | ok xs => rw [hz] at o1; exact o1
      | exc c => rw [hz] at o1; exact o1
      | bad => rw [hz] at o1; exact o1
    rintro i m H2 ⟨rfl, hi, G2, acc, done, g2, rl2, hG2, hH2, hacc, hdl, hr⟩
    obtain ⟨q1, q2⟩ := hJ i G2 H2 g2.1 rl2.ex (hP H2 g2.2.1)
    by_cases hlt : i < ds.length
    · have hd : ds[i]? = some ds[i] := List.getElem?_eq_getElem hlt
      obtain ⟨hgo, hy⟩ := q1 _ hd
      rw [List.drop_eq_getElem_cons hlt] at hr
      refine .inr ⟨hgo, fun H' => i + 1 ≤ ds.length ∧ ∃ G2 acc done, Gw G1 H1 G2 H' ∧ Rel X.K B G2 H' ρ σ ∧ G2 Da = none ∧ H' Da = some (.lst acc) ∧ RepL X.K G2 acc done ∧ done.length ≤ i + 1 ∧ xLeft E G1 H1 done kx (compX (compHX vs t ft fe ρ) (ds.drop (i + 1))),
        fun H' n => ⟨ds.length - (i + 1), by omega, rfl, n.1, n.2⟩, fun x H3 hyl => ?_⟩
      obtain ⟨G3, g3, rx⟩ := hy x H3 hyl
      have rl3 := rl2.gw g3
      have hG3 : G3 Da = none := g3.2.2.2 _ _ hH2 hG2
      unfold compX compHX at hr
      cases h1 : t ds[i] (wipeS ρ vs) with
      | exc c => simp only [h1] at hr; exact hr.elim
      | bad => simp only [h1] at hr; exact hr.elim
      | ok ρ' =>
      cases h3 : ft ρ' with
      | exc c => simp only [h1, h3] at hr; exact hr.elim
      | bad => simp only [h1, h3] at hr; exact hr.elim
      | ok b =>
      simp only [h1, h3] at hr
      refine ⟨B, G3, wipeS ρ vs, ds[i], ρ', rl3.wipe vs, rx, h1, fun σ' rl' hwp => ⟨by rw [hwp vs hw, wipe_wipe], B, G3, ρ', rl', Out.of_ok h3 fun G4 H4 g4 => ?_⟩⟩
      have hH4 : H4 Da = some (.lst acc) := g4.2.1 _ _ (g3.2.1 _ _ hH2)
      have hG4 : G4 Da = none := g4.2.2.2 _ _ (g3.2.1 _ _ hH2) hG3
      cases b with
      | true =>
        refine iteT ?_
        dsimp only at hr
        cases h5 : fe ρ' with
        | bad => rw [h5] at hr; exact hr.elim
        | exc c =>
          rw [h5] at hr
          refine ⟨B, G4, ρ', rl'.gw g4, ?_⟩
          rw [h5]
          have hr : Out E G1 H1 (.exc c : R (List D)) kx := hr
          exact fun G5 H5 g5 => hr G5 H5 (((g2.trans g3).trans g4).trans g5)
        | ok y =>
          rw [h5] at hr
          have hr2 : xLeft E G1 H1 (done ++ [y]) kx (compX (compHX vs t ft fe ρ) (ds.drop (i + 1))) := by
            have hr : xLeft E G1 H1 done kx ((compX (compHX vs t ft fe ρ) (ds.drop (i + 1))).map (y :: ·)) := hr
            cases hz : compX (compHX vs t ft fe ρ) (ds.drop (i + 1)) with
            | ok rest =>
              rw [hz] at hr
              have hr : Out E G1 H1 (.ok (done ++ y :: rest)) kx := hr
              show Out E G1 H1 (.ok ((done ++ [y]) ++ rest)) kx
              rw [List.append_assoc]
              exact hr
            | exc c => rw [hz] at hr; exact hr
            | bad => rw [hz] at hr; exact hr
          refine ⟨B, G4, ρ', rl'.gw g4, Out.of_ok h5 fun G5 H5 g5 v rv => ⟨acc, g5.2.1 _ _ hH4, ?_, hlt, G5, acc ++ [v], done ++ [y], ?_, ?_, ?_, upd_same, ?_, ?_, hr2⟩⟩
          · have e1 := hacc.length
            refine lim_lt ?_
            omega
          · have g := (g2.trans g3).trans (g4.trans g5)
            exact ⟨g.1, same_up g.2.1 hD, same_up g.2.2.1 (g5.2.2.2 _ _ hH4 hG4), g.2.2.2⟩
          · exact ((rl3.gw g4).gw g5).other (g5.2.2.2 _ _ hH4 hG4) hB nD
          · exact g5.2.2.2 _ _ hH4 hG4
          · exact (((hacc.mono g3.1).mono g4.1).mono g5.1).snoc rv
          · rw [List.length_append]
            exact Nat.succ_le_succ hdl
      | false =>
        refine iteF ?_
        exact ⟨hlt, G4, acc, done, (g2.trans g3).trans g4, rl3.gw g4, hG4, hH4, (hacc.mono g3.1).mono g4.1, Nat.le_succ_of_le hdl, hr⟩
    · have e : i = ds.length := by omega
      subst e
      rw [List.drop_length] at hr
      have hr : Out E G1 H1 (.ok (done ++ [])) kx := hr
      rw [List.append_nil] at hr
      refine .inl ⟨q2 (Nat.le_refl _), ?_⟩
      have hq := hr G2 H2 g2
      rw [← hkx] at hq
      exact hq Da acc (g1.2.1.free hD) hG2 hH2 hacc⟩
/-- the block where its element may raise -/
theorem Cxt.bx (C : Cxt X E k) {EE : XK} (hE : ∀ c H, E c H → exk X.mg EE c H) {s : Shared} {H : Hp} {scope : Scope} {cenv : PySem.Env} {fp : List Addr} {xe : Value → Shared → Prop} (p : Passes (L2.CX X.prog X.w) (Mp.bx X s H scope cenv fp xe) EE) : Cxt (Mp.bx X s H scope cenv fp xe) E k :=
  ⟨C.calm, C.nd, C.room, ⟨EE, p, hE⟩⟩
theorem JTs.bx {s : Shared} {H : Hp} {scope : Scope} {cenv : PySem.Env} {fp : List Addr} : JTs (X.blk s H scope cenv fp) FX [] tYesE := jts_nil
theorem jf_lcx {elt tg iter : Expr} {ifs : List Expr} {scope : Scope} {own : List (Str × Nat)} {fi : Env → R (List D)} {t : D → Env → R Env} {ws : List Nat} {ft : Env → R Bool} {fe : Env → R D} (C : Cxt X E k) (S : Cxs X E) (hi : JI X E tg iter fi) (ok : BlkOk X.N X.env.scope scope own)
    (hg : ∀ s H C cl fp xe, JG (Mp.bx X s H scope (compEnvC scope cl C X.env) fp xe) tg t ws) (ht : ∀ s H C cl fp xe, JTs (Mp.bx X s H scope (compEnvC scope cl C X.env) fp xe) FX ifs ft)
    (he : ∀ s H Ca cl fp xe, Cxt (Mp.bx X s H scope (compEnvC scope cl Ca X.env) fp xe) E k → JE (Mp.bx X s H scope (compEnvC scope cl Ca X.env) fp xe) E elt fe) (hw : ∀ j ∈ ws, j ∈ own.map (·.2)) (hs : ∀ x, foldedSetIterable iter X.env x = pure x := by intro _; rfl) :
    JF X E (.ListComp elt [⟨tg, iter, ifs, 0⟩] scope pos) (lLx (own.map (·.2)) t ft fe fi) := by
  obtain ⟨EE, tk, hE⟩ := S.tk
  refine ⟨fun pins s σ H Q I h => ?_⟩
  rw [eval_ListComp]
  refine lcx_core S.stk S.frm tk C.calm C.nd I hi ok (fun s H C cl fp xe _ => hg s H C cl fp xe) (fun s H C cl fp xe _ => ht s H C cl fp xe) (fun s H Ca cl fp xe p => he s H Ca cl fp xe (C.bx hE p)) hs (lx_top hw σ H Q h) fun L cenv s' m H' I' q hn f => ⟨m, hn, fun h2 sb => ?_⟩
  obtain ⟨f0, f1, f2, f3, f4, f5⟩ := f
  exact ⟨.ref L, H', I'.turned (t' := s'.toks) (fun b o hb e => (sb.2 b hb).trans e) f0 f1 f3 f4 f5, rfl, q⟩
/-- y = [..], y a local -/
theorem ps_lcx {i : Nat} {y : Str} {py spos : Pos} {elt tg iter : Expr} {ifs : List Expr} {scope : Scope} {own : List (Str × Nat)} {fi : Env → R (List D)} {t : D → Env → R Env} {ws : List Nat} {ft : Env → R Bool} {fe : Env → R D} (C : Cxt X E k) (S : Cxs X E)
    (hy : X.N[i]? = some y) (hyl : X.env.scope.names.lookup y = some .local) (hsw : swapsWith (.ListComp elt [⟨tg, iter, ifs, 0⟩] scope pos) (some (.Name y py)) spos.line X.env = pure true) (hi : JI X E tg iter fi) (ok : BlkOk X.N X.env.scope scope own)
    (hg : ∀ s H C cl fp xe, JG (Mp.bx X s H scope (compEnvC scope cl C X.env) fp xe) tg t ws) (ht : ∀ s H C cl fp xe, JTs (Mp.bx X s H scope (compEnvC scope cl C X.env) fp xe) FX ifs ft)
    (he : ∀ s H Ca cl fp xe, Cxt (Mp.bx X s H scope (compEnvC scope cl Ca X.env) fp xe) E k → JE (Mp.bx X s H scope (compEnvC scope cl Ca X.env) fp xe) E elt fe) (hw : ∀ j ∈ ws, j ∈ own.map (·.2)) (hs : ∀ x, foldedSetIterable iter X.env x = pure x := by intro _; rfl) :
    PS X (.Assign [.Name y py] (.ListComp elt [⟨tg, iter, ifs, 0⟩] scope pos) spos) (tAsg (rdF X.K E (lLx (own.map (·.2)) t ft fe fi)) (gName i)) := by
  obtain ⟨EE, tk, hE⟩ := S.tk
  refine ⟨fun pins s σ H D I h => ?_⟩
  rw [exec_Assign_Name_used _ _ _ _ hsw]
  refine wpAny_bind (wpAny_standAt (wpAny_bind (wpAny_bind (thn (?_ : wpAny _ _ (comprehension (.ListComp elt [⟨tg, iter, ifs, 0⟩] scope pos) scope X.env (firstIterPos [⟨tg, iter, ifs, 0⟩] pos) (newList []) false (eval iter X.env) (some (assign (.Name y py) X.env))) (fun _ s' => SP X pins D .next s') _ _) fun _ s' hq => wpAny_pure (wpAny_pure hq)))))
  have h : rdF X.K E (lLx (own.map (·.2)) t ft fe fi) σ H (fun x H1 => gName i x σ H1 D.nx) := h
  refine lcx_core S.stk S.frm tk C.calm C.nd I hi ok (fun s H C cl fp xe _ => hg s H C cl fp xe) (fun s H C cl fp xe _ => ht s H C cl fp xe) (fun s H Ca cl fp xe p => he s H Ca cl fp xe (C.bx hE p)) hs (lx_top hw σ H _ h) fun L cenv s' m H' I' q hn f => ?_
  show wpAny _ _ (assign (.Name y py) X.env (.ref L)) _ _ _
  refine wpAny_assign_Name (store_ok2 (v := V.ref L) I' C.nd hy (.inl hyl) rfl (fun s2 I2 ⟨a, sb, ha⟩ => ?_) (.inr hyl))
  obtain ⟨f0, f1, f2, f3, f4, f5⟩ := f
  have hne : cenv.locals ≠ a := by
    rcases ha with z | z
    · rw [z]; exact f1
    · exact fun e => f4 y a z e.symm
  refine ⟨m, hn.sameBut sb hne, fun h3 sb3 => ⟨_, H', I2.turned (t' := s2.toks) (fun b o hb e => (sb3.2 b hb).trans e) f0 f1 f3 f4 f5, q⟩⟩
theorem js_lcx {i : Nat} {y : Str} {py spos : Pos} {elt tg iter : Expr} {ifs : List Expr} {scope : Scope} {own : List (Str × Nat)} {fi : Env → R (List D)} {t : D → Env → R Env} {ws : List Nat} {ft : Env → R Bool} {fe : Env → R D} (C : Cxt X E k) (S : Cxs X E)
    (hy : X.N[i]? = some y) (hyl : X.env.scope.names.lookup y = some .local) (hsw : swapsWith (.ListComp elt [⟨tg, iter, ifs, 0⟩] scope pos) (some (.Name y py)) spos.line X.env = pure true) (hi : JI X E tg iter fi) (ok : BlkOk X.N X.env.scope scope own)
    (hg : ∀ s H C cl fp xe, JG (Mp.bx X s H scope (compEnvC scope cl C X.env) fp xe) tg t ws) (ht : ∀ s H C cl fp xe, JTs (Mp.bx X s H scope (compEnvC scope cl C X.env) fp xe) FX ifs ft)
    (he : ∀ s H Ca cl fp xe, Cxt (Mp.bx X s H scope (compEnvC scope cl Ca X.env) fp xe) E k → JE (Mp.bx X s H scope (compEnvC scope cl Ca X.env) fp xe) E elt fe) (hw : ∀ j ∈ ws, j ∈ own.map (·.2)) (hs : ∀ x, foldedSetIterable iter X.env x = pure x := by intro _; rfl) :
    JS X E (.Assign [.Name y py] (.ListComp elt [⟨tg, iter, ifs, 0⟩] scope pos) spos) (sSet i (eL (lLx (own.map (·.2)) t ft fe fi))) :=
  ps_imp (ps_lcx C S hy hyl hsw hi ok hg ht he hw hs) (set_top fun σ H Q q => rdF_E σ H Q q)
theorem js_lcxL {i : Nat} {y : Str} {py spos : Pos} {elt tg iter : Expr} {ifs : List Expr} {scope : Scope} {own : List (Str × Nat)} {fi : Env → R (List D)} {t : D → Env → R Env} {ws : List Nat} {ft : Env → R Bool} {fe : Env → R D} (C : Cxt X E k) (S : Cxs X E)
    (hy : X.N[i]? = some y) (hyl : X.env.scope.names.lookup y = some .local) (hsw : swapsWith (.ListComp elt [⟨tg, iter, ifs, 0⟩] scope pos) (some (.Name y py)) spos.line X.env = pure true) (hi : JI X E tg iter fi) (ok : BlkOk X.N X.env.scope scope own)
    (hg : ∀ s H C cl fp xe, JG (Mp.bx X s H scope (compEnvC scope cl C X.env) fp xe) tg t ws) (ht : ∀ s H C cl fp xe, JTs (Mp.bx X s H scope (compEnvC scope cl C X.env) fp xe) FX ifs ft)
    (he : ∀ s H Ca cl fp xe, Cxt (Mp.bx X s H scope (compEnvC scope cl Ca X.env) fp xe) E k → JE (Mp.bx X s H scope (compEnvC scope cl Ca X.env) fp xe) E elt fe) (hw : ∀ j ∈ ws, j ∈ own.map (·.2)) (hs : ∀ x, foldedSetIterable iter X.env x = pure x := by intro _; rfl) :
    JS X E (.Assign [.Name y py] (.ListComp elt [⟨tg, iter, ifs, 0⟩] scope pos) spos) (sSetL i (lLx (own.map (·.2)) t ft fe fi)) :=
  ps_imp (ps_lcx C S hy hyl hsw hi ok hg ht he hw hs) (setL_top fun σ H Q q => q)
end
end Mp

set_option Elab.async false
set_option linter.all false
set_option maxRecDepth 100000
/-! Mp10: sorted, min, max over data. -/
namespace Mp
open PySem PySem.Spec PyProof.Rows L2 PySem.W

def isTup1 : D → Bool
  | .tuple (_ :: _) => true
  | _ => false
def notTN : D → Bool
  | .tuple _ => false
  | .none => false
  | _ => true
/-- what sorted takes -/
def srtOk (ks : List D) : Bool := PyData.plainAll ks && (ks.all fun d => ks.all fun e => alike d e) && (ks.all isTup1 || ks.all notTN) && (ks.all fun d => decide (d.depth ≤ 50)) && decide (ks.length ≤ LIM)
theorem srtOk_of {ks : List D} (h : srtOk ks = true) : PyData.plainAll ks = true ∧ AllAlike ks ∧ Sortable ks ∧ (∀ d ∈ ks, d.depth ≤ 50) ∧ ks.length ≤ LIM := by
  unfold srtOk at h
  simp only [Bool.and_eq_true, Bool.or_eq_true, List.all_eq_true, decide_eq_true_eq] at h
  obtain ⟨⟨⟨⟨h0, h1⟩, h2⟩, h3⟩, h4⟩ := h
  refine ⟨h0, h1, h2.imp (fun z d hd => ?_) (fun z d hd => ?_), h3, h4⟩
  · have q := z d hd
    unfold isTup1 at q
    split at q
    · exact ⟨_, _, rfl⟩
    · cases q
  · have q := z d hd
    unfold notTN at q
    split at q
    · cases q
    · cases q
    · rename_i h1 h2
      exact ⟨fun e => h2 e, fun xs e => h1 xs e⟩
def srtL (ds : List D) : List D := ds.mergeSort (dataLe false fun d => d)

/-- what the sorted values stand for -/
def StV (K : PySem.W.Frag) (G : Hp) (v : Value) (d : D) : Prop := ∃ x, RelV x v ∧ Rep K G x d
section
variable {K : PySem.W.Frag} {G H : Hp}
theorem stv_of : ∀ {xs : List V} {us : List Value} {ds : List D}, Vals xs us → RepL K G xs ds → EachIs (StV K G) us ds
  | _, _, _, .nil, h => by cases h; exact .nil
  | _, _, _, .cons r t, h => by
    cases h with
    | cons h1 h2 => exact .cons ⟨_, r, h1⟩ (stv_of t h2)
theorem of_stv : ∀ {us : List Value} {ds : List D}, EachIs (StV K G) us ds → ∃ xs, Vals xs us ∧ RepL K G xs ds
  | _, _, .nil => ⟨[], .nil, .nil⟩
  | _, _, .cons ⟨x, r, h⟩ t => by
    obtain ⟨xs, h1, h2⟩ := of_stv t
    exact ⟨x :: xs, .cons r h1, .cons h h2⟩
theorem plain_mem : ∀ {ds : List D}, PyData.plainAll ds = true → ∀ d ∈ ds, d.plain = true
  | [], _, d, hd => by cases hd
  | e :: ds, h, d, hd => by
    have h' : e.plain = true ∧ PyData.plainAll ds = true := by simpa [PyData.plainAll] using h
    rcases List.mem_cons.mp hd with z | z
    · rw [z]; exact h'.1
    · exact plain_mem h'.2 d z
variable {X : Cx} {pins : List (Addr × Obj)} {σ : L2.St} {s : Shared}
theorem reads_of (I : Inv X pins σ H s) (e : Same G H) : ∀ {xs : List V} {us : List Value} {ds : List D}, PyData.plainAll ds = true → Vals xs us → RepL X.K G xs ds → EachIs (fun v d => ∃ as, Reads s.heap v d as) us ds
  | _, _, _, _, .nil, h => by cases h; exact .nil
  | _, _, _, p, .cons r t, h => by
    cases h with
    | cons h1 h2 =>
      rename_i d ds
      have p' : d.plain = true ∧ PyData.plainAll ds = true := by simpa [PyData.plainAll] using p
      exact .cons (Dp.reads I d _ _ (Rep.dp d (h1.mono e) p'.1) r) (reads_of I e p'.2 t h2)
end
def rSortD (K : PySem.W.Frag) : List V → Hp → VK → Prop := fun vs H Q => ∃ (a : Addr) (xs : List V) (ds : List D) (G : Hp), vs = [V.ref a] ∧ H a = some (.lst xs) ∧ Same G H ∧ RepL K G xs ds ∧ srtOk ds = true ∧ ∀ p ys, H p = none → RepL K G ys (srtL ds) → Q (.ref p) (upd H p (.lst ys))
section
variable {X : Cx} {E : EX} {k : Nat}
theorem cr_sortD (hu : X.A.units + 65 < cLine) : CallR X (.builtin "sorted") (rSortD X.K) := by
  intro pins s σ H vs us Q I r h
  obtain ⟨a, xs, ds, G, rfl, ha, sm, rep, hok, q⟩ := h
  obtain ⟨hp, hal, hsb, hd, hlen⟩ := srtOk_of hok
  obtain ⟨its, rv, hl, hz⟩ := I.list (SqL.of (K := X.K) ha)
  rw [Vals.ref1 r]
  have em : ds.map (fun d : D => d) = ds := List.map_id' _
  refine sorted_data (enc := fun d : D => d) (R := StV X.K G) hl.isList (stv_of rv rep) (reads_of I sm hp rv rep) (by rw [em]; exact hal) (by rw [em]; exact hsb) (lim_le hlen) (fun d hm => by have := hd d hm; show X.A.units + 2 + d.depth < _; omega) fun out ho he => ?_
  obtain ⟨ys, h1, h2⟩ := of_stv he
  obtain ⟨ep, he'⟩ := sortedAll_at s.heap its out.toArray
  have hlen2 : ys.length ≤ sizeLine := by rw [h1.length, ho]; exact lim_le hlen
  exact ⟨.ref _, upd H (s.heap.objs.size + 1) (.lst ys), I.laid (t' := s.toks) (fun _ _ => sortedAll_old) (Nat.le_succ _) ⟨hlen2, out, ep, h1, he'⟩, rfl, q _ _ (I.hok.fresh (Nat.le_succ _)) h2⟩
def sortD : D → Option (List D) := fun d => match d with
  | .list ds => if srtOk ds = true then some (srtL ds) else none
  | _ => none
theorem k_sorted (C : Cxt X E k) : CallF X (.builtin "sorted") (cl1 sortD) := ⟨_, cr_sortD (hu_more C), fun vs ds G H Q s rs z hz k => by
  unfold cl1 at hz
  split at hz
  · obtain ⟨v, rfl, r⟩ := rs.one
    unfold sortD at hz
    split at hz
    · split at hz
      · rename_i ds hok
        cases hz
        obtain ⟨p, ws, rfl, h1, h2⟩ := r.lst s
        exact ⟨p, ws, ds, G, rfl, h1, s, h2, hok, fun l ys hl hy => k l ys G _ (Gw.own s hl) hl (s.free hl) upd_same hy⟩
      · cases hz
    · cases hz
  · cases hz⟩
/-! ### min, max of a list -/
theorem depth_mem : ∀ {ds : List D} {d : D}, d ∈ ds → d.depth ≤ PyData.depthAll ds
  | e :: ds, d, h => by
    rcases List.mem_cons.mp h with z | z
    · rw [z]; exact Nat.le_max_left _ _
    · exact Nat.le_trans (depth_mem z) (Nat.le_max_right _ _)
def mmOk (ks : List D) : Bool := PyData.plainAll ks && (ks.all fun d => ks.all fun e => alike d e) && (ks.all notTN || ks.all isTup1) && decide (PyData.depthAll ks ≤ 50)
theorem mmOk_of {ks : List D} (h : mmOk ks = true) : PyData.plainAll ks = true ∧ AlikeAll ks ∧ PyData.depthAll ks ≤ 50 := by
  unfold mmOk at h
  simp only [Bool.and_eq_true, Bool.or_eq_true, List.all_eq_true, decide_eq_true_eq] at h
  obtain ⟨⟨⟨h0, h1⟩, h2⟩, h3⟩ := h
  refine ⟨h0, ⟨h1, fun d hd e => ?_⟩, h3⟩
  subst e
  rcases h2 with z | z
  · exact Bool.false_ne_true (z _ hd)
  · exact Bool.false_ne_true (z _ hd)
def rMmD (K : PySem.W.Frag) (f : D → List D → D) : List V → Hp → VK → Prop := fun vs H Q => ∃ (a : Addr) (xs : List V) (d : D) (ds : List D) (G : Hp), vs = [V.ref a] ∧ H a = some (.lst xs) ∧ Same G H ∧ RepL K G xs (d :: ds) ∧ mmOk (d :: ds) = true ∧ ∀ x, Rep K G x (f d ds) → Q x H
theorem foldl_mem (p : D → D → Bool) : ∀ (ds : List D) (d : D), ds.foldl (fun a y => if p a y = true then y else a) d ∈ d :: ds
  | [], d => List.mem_singleton.mpr rfl
  | e :: ds, d => by
    rw [List.foldl_cons]
    have h := foldl_mem p ds (if p d e = true then e else d)
    rcases List.mem_cons.mp h with z | z
    · rw [z]
      by_cases c : p d e = true
      · rw [if_pos c]; exact List.mem_cons_of_mem _ List.mem_cons_self
      · rw [if_neg c]; exact List.mem_cons_self
    · exact List.mem_cons_of_mem _ (List.mem_cons_of_mem _ z)
theorem minD_mem (d : D) (ds : List D) : minD d ds ∈ d :: ds := foldl_mem (fun a y => dataLt y a) ds d
theorem maxD_mem (d : D) (ds : List D) : maxD d ds ∈ d :: ds := foldl_mem (fun a y => dataLt a y) ds d
theorem mm_top {f : D → List D → D} {id : String} (hf : ∀ d ds, f d ds ∈ d :: ds) (hc : X.calm = true) (hu : X.A.units + 65 < cLine)
    (w : ∀ (s : Shared) {l : Addr} {vs : Array Value} {x : PyData} {xs : List PyData} {as : List Addr} {Q : Value → Shared → Prop} (E : Value → Shared → Prop), X.A.handled = none → s.heap.IsList l vs → ReadsAll s.heap vs.toList (x :: xs) as → AlikeAll (x :: xs) → X.A.units + 1 + PyData.depthAll (x :: xs) < cLine →
      (∀ (i : Nat) v h' tk bs, vs[i]? = some v → Reads h' v (f x xs) bs → (∀ b o, s.heap.get? b = some o → h'.get? b = some o) → Q v { s with heap := h', toks := tk }) → wpAny (model X.prog X.w) X.A (call (.builtin id) [.ref l]) Q E s) : CallR X (.builtin id) (rMmD X.K f) := by
  intro pins s σ H vs us Q I r h
  obtain ⟨a, xs, d, ds, G, rfl, ha, sm, rep, hok, q⟩ := h
  obtain ⟨hp, hal, hd⟩ := mmOk_of hok
  obtain ⟨its, rv, hl, hz⟩ := I.list (SqL.of (K := X.K) ha)
  rw [Vals.ref1 r]
  obtain ⟨as, hr⟩ := Dp.readsAll I (d :: ds) xs its (RepL.dp _ (rep.mono sm) hp) rv
  refine w s X.xe (I.ok.hd hc) hl.isList (as := as) hr hal (by omega) fun i v h' tk bs hv hrd keep => ?_
  have hv' : its[i]? = some v := by simpa using hv
  obtain ⟨x, hx, rx⟩ : ∃ x, xs[i]? = some x ∧ RelV x v := by
    have hi : i < xs.length := by rw [rv.length]; exact (List.getElem?_eq_some_iff.mp hv').1
    obtain ⟨u, h1, h2⟩ := rv.get (List.getElem?_eq_getElem hi)
    rw [hv'] at h1
    cases h1
    exact ⟨_, List.getElem?_eq_getElem hi, h2⟩
  obtain ⟨e, he, re⟩ := rep.getV hx
  have I' : Inv X pins σ H { s with heap := h', toks := tk } := I.turnedL (ch := []) (fun b o _ z => keep b o z) (fun b hb => by cases hb)
  have hem : e ∈ d :: ds := List.mem_of_getElem? he
  obtain ⟨as2, hre⟩ := Dp.reads I' e x v (Rep.dp e (re.mono sm) (plain_mem hp e hem)) rx
  have ee : e = f d ds := alike_unique e (f d ds) v as2 bs (hal.1 e hem _ (hf d ds)) hre hrd
  exact ⟨x, H, I', rx, q x (ee ▸ re)⟩
theorem cr_minD (C : Cxt X E k) : CallR X (.builtin "min") (rMmD X.K minD) := mm_top minD_mem C.calm (hu_more C) fun s _ _ _ _ _ _ E a b c d e f => min_list_data a b c d e f
theorem cr_maxD (C : Cxt X E k) : CallR X (.builtin "max") (rMmD X.K maxD) := mm_top maxD_mem C.calm (hu_more C) fun s _ _ _ _ _ _ E a b c d e f => max_list_data a b c d e f
def mmLD (f : D → List D → D) : D → Option D := fun d => match d with
  | .list (d :: ds) => if mmOk (d :: ds) = true then some (f d ds) else none
  | _ => none
theorem srv_mm {f : D → List D → D} : SrvC X.K (rMmD X.K f) (c1 (mmLD f)) := fun vs ds G H Q s rs z hz k => by
  unfold c1 at hz
  split at hz
  · obtain ⟨v, rfl, r⟩ := rs.one
    unfold mmLD at hz
    split at hz
    · split at hz
      · rename_i d ds hok
        cases hz
        obtain ⟨p, ws, rfl, h1, h2⟩ := r.lst s
        exact ⟨p, ws, d, ds, G, rfl, h1, s, h2, hok, fun x hx => k x G H (Gw.refl s) hx⟩
      · cases hz
    · cases hz
  · cases hz
theorem k_minL (C : Cxt X E k) : Call1 X (.builtin "min") (c1 (mmLD minD)) := ⟨_, cr_minD C, srv_mm⟩
theorem k_maxL (C : Cxt X E k) : Call1 X (.builtin "max") (c1 (mmLD maxD)) := ⟨_, cr_maxD C, srv_mm⟩
end
end Mp

set_option Elab.async false
set_option linter.all false
set_option maxRecDepth 100000
set_option maxHeartbeats 4000000
/-! Mp11: set(texts), sorted(set(texts)). -/
namespace Mp
open PySem PySem.Spec PyProof.Rows L2 PySem.W PySem.Froz

/-! ### texts in order -/
def Asc (l : List Str) : Prop := l.Pairwise fun a b => a.cps.toList < b.cps.toList
theorem slt_irrefl (a : Str) : ¬ a.cps.toList < a.cps.toList := fun h => List.lt_irrefl _ h
theorem slt_trans {a b c : Str} (h : a.cps.toList < b.cps.toList) (k : b.cps.toList < c.cps.toList) : a.cps.toList < c.cps.toList := List.lt_trans h k
theorem slt_tri {a b : Str} (h : ¬ a.cps.toList < b.cps.toList) (k : ¬ b.cps.toList < a.cps.toList) : a = b := str_of_cps (List.le_antisymm (List.not_lt.mp k) (List.not_lt.mp h))
theorem asc_uniq : ∀ {l m : List Str}, Asc l → Asc m → (∀ x, x ∈ l ↔ x ∈ m) → l = m
  | [], [], _, _, _ => rfl
  | [], y :: m, _, _, h => by
    have z := (h y).mpr List.mem_cons_self
    cases z
  | x :: l, [], _, _, h => by
    have z := (h x).mp List.mem_cons_self
    cases z
  | x :: l, y :: m, hl, hm, h => by
    obtain ⟨l1, l2⟩ := List.pairwise_cons.mp hl
    obtain ⟨m1, m2⟩ := List.pairwise_cons.mp hm
    have e : x = y := by
      rcases List.mem_cons.mp ((h x).mp List.mem_cons_self) with z | z
      · exact z
      · rcases List.mem_cons.mp ((h y).mpr List.mem_cons_self) with w | w
        · exact w.symm
        · exact absurd (slt_trans (m1 x z) (l1 y w)) (slt_irrefl y)
    subst e
    rw [asc_uniq l2 m2 fun z => ?_]
    have hz := h z
    rw [List.mem_cons, List.mem_cons] at hz
    constructor
    · intro q
      rcases hz.mp (.inr q) with w | w
      · subst w; exact absurd (l1 z q) (slt_irrefl z)
      · exact w
    · intro q
      rcases hz.mpr (.inr q) with w | w
      · subst w; exact absurd (m1 z q) (slt_irrefl z)
      · exact w
def insS (x : Str) : List Str → List Str
  | [] => [x]
  | y :: ys => if x.cps.toList < y.cps.toList then x :: y :: ys else if y.cps.toList < x.cps.toList then y :: insS x ys else y :: ys
theorem mem_insS (x z : Str) : ∀ l : List Str, z ∈ insS x l ↔ z = x ∨ z ∈ l
  | [] => by simp [insS]
  | y :: ys => by
    unfold insS
    split
    · rw [List.mem_cons]
    · split
      · rw [List.mem_cons, mem_insS x z ys, List.mem_cons]
        constructor
        · rintro (h | h | h)
          · exact .inr (.inl h)
          · exact .inl h
          · exact .inr (.inr h)
        · rintro (h | h | h)
          · exact .inr (.inl h)
          · exact .inl h
          · exact .inr (.inr h)
      · rename_i h1 h2
        have e := slt_tri h1 h2
        subst e
        rw [List.mem_cons]
        constructor
        · rintro (h | h)
          · exact .inl h
          · exact .inr (.inr h)
        · rintro (h | h | h)
          · exact .inl h
          · exact .inl h
          · exact .inr h
theorem asc_insS (x : Str) : ∀ {l : List Str}, Asc l → Asc (insS x l)
  | [], _ => List.pairwise_singleton _ _
  | y :: ys, h => by
    obtain ⟨h1, h2⟩ := List.pairwise_cons.mp h
    unfold insS
    split
    · rename_i c
      refine List.pairwise_cons.mpr ⟨fun z hz => ?_, h⟩
      rcases List.mem_cons.mp hz with w | w
      · rw [w]; exact c
      · exact slt_trans c (h1 z w)
    · split
      · rename_i c
        refine List.pairwise_cons.mpr ⟨fun z hz => ?_, asc_insS x h2⟩
        rcases (mem_insS x z ys).mp hz with w | w
        · rw [w]; exact c
        · exact h1 z w
      · exact h
def setS : List Str → List Str
  | [] => []
  | x :: xs => insS x (setS xs)
theorem mem_setS (z : Str) : ∀ l : List Str, z ∈ setS l ↔ z ∈ l
  | [] => Iff.rfl
  | x :: xs => by
    show z ∈ insS x (setS xs) ↔ _
    rw [mem_insS, mem_setS z xs, List.mem_cons]
theorem asc_setS : ∀ l : List Str, Asc (setS l)
  | [] => List.Pairwise.nil
  | x :: xs => asc_insS x (asc_setS xs)
theorem asc_nodup {l : List Str} (h : Asc l) : l.Nodup := h.imp fun {a b} q e => by subst e; exact slt_irrefl a q
/-- what is sorted without two alike is the set's row -/
theorem setS_of {l m : List Str} (h : l.Pairwise fun a b => ¬ b.cps.toList < a.cps.toList) (nd : l.Nodup) (hm : ∀ x, x ∈ l ↔ x ∈ m) : l = setS m := by
  refine asc_uniq ?_ (asc_setS m) fun x => (hm x).trans (mem_setS x m).symm
  have : l.Pairwise fun a b => ¬ b.cps.toList < a.cps.toList ∧ a ≠ b := List.Pairwise.and h nd
  exact this.imp fun {a b} q => Classical.byContradiction fun n => q.2 (slt_tri n q.1)

/-! ### the table -/
def txtOf : Value → Str
  | .str x _ => x
  | _ => ""
def TxE (es : Array (Int × Value)) : Prop := ∀ e ∈ es.toList, ∃ x t, e.2 = Value.str x t
structure TxS (P : Program) (w : World) (D : SD) (l : List Str) : Prop where
  ok : TxOk P w D l
  nd : l.Nodup
  vl : TxE D.1
  pm : (D.1.toList.map fun e => txtOf e.2).Perm l
  ris : L2.Ris D.2.2.place.toList
  led : w.params.followText "set-order" = true ∨ D.2.2.led = true
section
variable {P : Program} {w : World} {A : Around} {E : Value → Shared → Prop} {s : Shared}
theorem TxS.add {D : SD} {l : List Str} {x : Str} (T : TxS P w D l) (t : Tok) (hx : x ∉ l) : TxS P w (addTx (hashStr w x) (.str x t) D) (x :: l) := by
  obtain ⟨es, ep, tb⟩ := D
  have hok := add_ok (P := P) (k := x) t T.ok
  have p1 := layNew_perm tb es (hashStr w x) (.str x t)
  have r1 := L2.layNew_ris tb es (hashStr w x) (.str x t) T.ris
  have l1 := L2.layNew_led tb es (hashStr w x) (.str x t)
  refine ⟨hok, List.nodup_cons.mpr ⟨hx, T.nd⟩, ?_, ?_, ?_, ?_⟩
  all_goals
    show _
    unfold addTx tailTx
    dsimp only
    generalize hL : layNew tb es (hashStr w x) (.str x t) = L at p1 r1 l1
    obtain ⟨es1, t1, wd, gv⟩ := L
    dsimp only at p1 r1 l1 ⊢
    have mem1 : ∀ e ∈ es1.toList, e = (hashStr w x, Value.str x t) ∨ e ∈ es.toList := fun e he => by
      have q := p1.mem_iff.mp he
      rw [Array.toList_push] at q
      rcases List.mem_append.mp q with z | z
      · exact .inr z
      · exact .inl (List.mem_singleton.mp z)
    have v1 : TxE es1 := fun e he => by
      rcases mem1 e he with z | z
      · exact ⟨x, t, by rw [z]⟩
      · exact T.vl e z
    have q1 : (es1.toList.map fun e => txtOf e.2).Perm (x :: l) := by
      have q := p1.map fun e : Int × Value => txtOf e.2
      rw [Array.toList_push, List.map_append] at q
      exact q.trans ((List.perm_append_comm (l₁ := es.toList.map fun e : Int × Value => txtOf e.2) (l₂ := [x])).trans (List.Perm.cons x T.pm))
    have r2 : L2.Ris (if t1.plain = true then { t1 with plain := false } else t1).place.toList := by split <;> exact r1
    have l2 : (if t1.plain = true then { t1 with plain := false } else t1).led = t1.led := by split <;> rfl
    generalize (if t1.plain = true then { t1 with plain := false } else t1) = t2 at r2 l2 ⊢
    split
  · have pm := relayAll_perm t2 es1 (SetTable.grown es1.size)
    exact fun e he => v1 e (pm.mem_iff.mp he)
  · exact v1
  · have pm := relayAll_perm t2 es1 (SetTable.grown es1.size)
    exact (pm.map fun e : Int × Value => txtOf e.2).trans q1
  · exact q1
  · exact L2.relayAll_ris t2 es1 (SetTable.grown es1.size)
  · exact r2
  · exact T.led.imp id fun z => by
      show (relayAll t2 es1 (SetTable.grown es1.size)).2.1.led = true
      rw [L2.relayAll_led, l2, l1]
      exact z
  · exact T.led.imp id fun z => by
      show t2.led = true
      rw [l2, l1]
      exact z
/-- it stands there already -/
theorem had_x {a : Addr} {T : String} {D : SD} {l : List Str} {k : Str} {u : Tok} {Q : Bool → Shared → Prop} (ho : s.heap.get? a = some (sObj T D)) (F : TxOk P w D l) (hk : k ∈ l) (hb : l.length < scanBound)
    (h : Q false s) : wpAny (model P w) A (setAddHashed a (.str k u) (hashStr w k)) Q E s := by
  obtain ⟨es, ep, t⟩ := D
  have hd : (sObj T (es, ep, t)).data = .set es ep t := rfl
  have hf : t.fits es.size = true := F.fit
  have hel : ElemsOf (strKind P w) es.toList := F.el
  have hb0 : es.size < scanBound := by
    have q : es.size = l.length := F.sz
    rw [q]; exact hb
  obtain ⟨j, hj⟩ : ∃ j, List.findIdx? (fun e => (strKind P w).is k e.2) es.toList = some j := by
    obtain ⟨e, he, hq⟩ := (F.mem k).mp hk
    cases hr : List.findIdx? (fun e => (strKind P w).is k e.2) es.toList with
    | some j => exact ⟨j, rfl⟩
    | none =>
      have q := List.findIdx?_eq_none_iff.mp hr e he
      rw [hq] at q; cases q
  unfold setAddHashed setAddHashedIn
  refine wpAny_holding (wpAny_bind (wpAny_setState_of ho hd hf ?_))
  dsimp only
  rw [byScan_of rfl hb0 hel]
  simp only [↓reduceIte]
  unfold setAddByScan
  refine wpAny_bind (wpAny_bind (wpAny_rule (wpAny_bind (wpAny_setScan_of (knd := strKind P w) (k := k) (is_str k u) ho hd hf hel ?_))))
  rw [hj]
  dsimp only
  exact wpAny_pure (wpAny_pure h)
def ddS (l : List Str) (x : Str) : List Str := if x ∈ l then l else x :: l
theorem mem_dd (ss : List Str) : ∀ (l : List Str) (x : Str), x ∈ ss.foldl ddS l ↔ x ∈ l ∨ x ∈ ss := by
  induction ss with
  | nil => intro l x; simp
  | cons y ys ih =>
    intro l x
    rw [List.foldl_cons, ih]
    have e : x ∈ ddS l y ↔ x ∈ l ∨ x = y := by
      unfold ddS
      split
      · rename_i hy
        exact ⟨.inl, fun z => z.elim id fun z => z ▸ hy⟩
      · rw [List.mem_cons]; exact or_comm
    rw [e, List.mem_cons, or_assoc]
theorem dd_len (ss : List Str) : ∀ l : List Str, (ss.foldl ddS l).length ≤ l.length + ss.length := by
  induction ss with
  | nil => intro l; exact Nat.le_refl _
  | cons y ys ih =>
    intro l
    rw [List.foldl_cons]
    have h := ih (ddS l y)
    have : (ddS l y).length ≤ l.length + 1 := by
      unfold ddS
      split
      · exact Nat.le_succ _
      · exact Nat.le_refl _
    rw [List.length_cons]
    omega
/-- one text goes in -/
theorem put_x {a : Addr} {D : SD} {l : List Str} {k : Str} {u : Tok} {Q : Bool → Shared → Prop} (ho : s.heap.get? a = some (sObj "set" D)) (F : TxS P w D l) (hb : l.length + 1 < scanBound)
    (h : ∀ b h' D', Heap.SameBut a s.heap h' → h'.get? a = some (sObj "set" D') → TxS P w D' (ddS l k) → Q b { s with heap := h' }) : wpAny (model P w) A (setAddHashed a (.str k u) (hashStr w k)) Q E s := by
  by_cases hk : k ∈ l
  · refine had_x ho F.ok hk (by omega) (h false s.heap D (Heap.SameBut.refl _ _) ho ?_)
    unfold ddS; rw [if_pos hk]; exact F
  · refine add_x ho F.ok hk hb (h true _ _ (Heap.SameBut.update _ _ _) (get_upd _ ho rfl) ?_)
    unfold ddS; rw [if_neg hk]; exact F.add u hk
end
end Mp

set_option Elab.async false
set_option linter.all false
set_option maxRecDepth 100000
set_option maxHeartbeats 4000000
/-! Mp12: set(texts), as a call. -/
namespace Mp
open PySem PySem.Spec PyProof.Rows L2 PySem.W PySem.Froz
section
variable {P : Program} {w : World} {A : Around} {E : Value → Shared → Prop} {s : Shared}
def ledO (w : World) : Obj := { cls := .type "set", dict := none, data := .set #[] 0 (.fresh 0 0 (!w.params.followText "set-order")) }
theorem code_new_led (x : Value) {Q₁ : Value → Shared → Prop} (h : Q₁ (.ref s.heap.objs.size) { s with heap := s.heap.push (ledO w) }) :
    codeAny (model P w) A (.call (.builtin "set.__new__") ⟨[.type "set", x], []⟩) (wants Q₁ E) s := by
  refine codeAny_of_tree ?_
  show wpAny _ A.in1 (checkBuiltinCall "set.__new__" ⟨[.type "set", x], []⟩ >>= fun _ => again (.builtin "set.__new__" ⟨[.type "set", x], []⟩)) _ _ s
  refine wpAny_bind (wpAny_of_eq (F.newCall_set_1 x) (wpAny_pure ⟨plainId_quiet F.plain_set_new _, codeAny_builtin F.entry_set_new ?_⟩))
  rw [Around.under_plainId F.plain_set_new _]
  unfold Builtin.«set.__new__» Builtin.Frozenset.newClass
  have hsub := sub_set_self
  obtain ⟨hp, gg, dd, tt, oo⟩ := s
  dsimp only
  wp_walk
  refine wpAny_askSetting (wpAny_pure ?_)
  dsimp only
  simp only [newObj]
  exact wpAny_bind (wpAny_alloc (wpAny_pure (wpAny_pure h)))
theorem TxS.zero : TxS P w (#[], 0, .fresh 0 0 (!w.params.followText "set-order")) [] where
  ok := TxOk.nil rfl
  nd := List.nodup_nil
  vl := fun e he => by simp at he
  pm := List.Perm.refl _
  ris := List.Pairwise.nil
  led := by
    show _ ∨ (!w.params.followText "set-order") = true
    cases w.params.followText "set-order" with
    | true => exact .inl rfl
    | false => exact .inr rfl
variable {R : Result → Shared → Prop} {I : Addr} {fp wr : List Addr} {G : Array GenState → Array GenState → Prop} {n : Nat} {Pv : Nat → Value → Prop} {St : Nat → Shared → Prop}
theorem update_texts (W : WalksS P w A.in1 I fp wr G n Pv St) (S : Addr) (hSf : S ∉ fp) (val : Nat → Str) (hval : ∀ i v, Pv i v → ∃ t, v = .str (val i) t) (hb : n + 1 < scanBound) :
    ∀ (k i : Nat) (s : Shared) (D : SD), n - i = k → i ≤ n → St i s → s.heap.get? S = some (sObj "set" D) → TxS P w D (((List.range i).map val).foldl ddS []) →
      (∀ s' D', Moved (S :: wr) G s s' → s'.heap.get? S = some (sObj "set" D') → TxS P w D' (((List.range n).map val).foldl ddS []) → R (.ok (.ret .none)) s') →
      codeAny (model P w) A (.builtin "set.update.loop" ⟨[.ref S, .ref I], []⟩) R s := by
  have hSw : S ∉ wr := fun z => hSf (W.sub _ z)
  have hsub : ∀ b ∈ wr, b ∈ S :: wr := fun b hb => List.mem_cons_of_mem _ hb
  intro k
  induction k with
  | zero =>
    intro i s D hk hi hst hS hT hR
    obtain rfl : i = n := by omega
    refine codeAny_builtin F.entry_set_update_loop ?_
    rw [Around.under_plainId F.plain_set_update_loop _]
    show wpAny _ A.in1 (pyNext (.ref I) >>= _) _ _ s
    refine wpAny_bind (W.done s _ _ hst fun s' hm => (?_ : wpAny _ A.in1 (ret Value.none) _ _ s'))
    exact wpAny_pure (hR s' D (hm.mono hsub) (hm.heap S _ hSw hS) hT)
  | succ k ih =>
    intro i s D hk hi hst hS hT hR
    have hlt : i < n := by omega
    refine codeAny_builtin F.entry_set_update_loop ?_
    rw [Around.under_plainId F.plain_set_update_loop _]
    show wpAny _ A.in1 (pyNext (.ref I) >>= _) _ _ s
    refine wpAny_bind (W.item i s _ _ hlt hst fun v s' hP hst' hm => ?_)
    obtain ⟨t, rfl⟩ := hval i v hP
    show wpAny _ A.in1 (holding [Value.str (val i) t] (setAdd S (.str (val i) t)) >>= _) _ _ s'
    refine wpAny_bind (wpAny_holding ?_)
    unfold setAdd
    refine wpAny_holding (wpAny_bind ((strKind P w).pyHash (k := val i) (is_str _ _) ?_))
    have hlen : (((List.range i).map val).foldl ddS []).length ≤ i := by
      have q := dd_len ((List.range i).map val) []
      rw [List.length_map, List.length_range, List.length_nil] at q
      omega
    refine put_x (s := { s' with toks := s'.toks + 1 }) (hm.heap S _ hSw hS) hT (by omega) fun b h' D' hsb hS' hT' => ?_
    have e : ((List.range (i + 1)).map val).foldl ddS [] = ddS (((List.range i).map val).foldl ddS []) (val i) := by
      rw [List.range_succ, List.map_append, List.foldl_append] <;> rfl
    refine wpAny_pure ⟨plainId_quiet F.plain_set_update_loop _, ih (i + 1) _ D' (by omega) hlt (W.frame _ s' _ _ hst' (Nat.le_succ _) fun b hb o z => ?_) hS' (by rw [e]; exact hT') fun s2 D2 hm2 hS2 hT2 => hR s2 D2 (Moved.trans W.gtrans ((hm.mono hsub).then_heap (Nat.le_succ _) fun b o hb z => ?_) hm2) hS2 hT2⟩
    · rw [hsb.2 b fun q => hSf (q ▸ hb)]; exact z
    · rw [hsb.2 b fun q => hb (q ▸ List.mem_cons_self)]; exact z
theorem range_get {l : List Str} : (List.range l.length).map (fun i => l.getD i "") = l := by
  apply List.ext_getElem
  · rw [List.length_map, List.length_range]
  · intro i h1 h2
    rw [List.getElem_map, List.getElem_range, List.getD_eq_getElem?_getD, List.getElem?_eq_getElem h2]
    rfl
theorem strs_at : ∀ {vs : List Value} {ss : List Str}, StrsAre vs ss → ∀ (i : Nat) (v : Value), vs[i]? = some v → ∃ t, v = .str (ss.getD i "") t
  | _, _, .nil, i, v, h => by simp at h
  | _, _, .cons y t r, 0, v, h => by
    cases h
    exact ⟨t, rfl⟩
  | _, _, .cons y t r, i + 1, v, h => by
    obtain ⟨t', e⟩ := strs_at r i v (by simpa using h)
    exact ⟨t', by rw [e]; simp⟩
theorem strs_len : ∀ {vs : List Value} {ss : List Str}, StrsAre vs ss → vs.length = ss.length
  | _, _, .nil => rfl
  | _, _, .cons _ _ r => congrArg (· + 1) (strs_len r)
/-- set(l), l a list of texts -/
theorem call_set_texts {l : Addr} {items : Array Value} {ss : List Str} {Q : Value → Shared → Prop} (hh : A.handled = none) (hl : s.heap.IsList l items) (hi : StrsAre items.toList ss) (hb : items.size + 1 < scanBound)
    (h : ∀ (h' : Heap) (tk : Nat) (D : SD), h'.get? s.heap.objs.size = some (sObj "set" D) → TxS P w D (ss.foldl ddS []) → (∀ b o, b < s.heap.objs.size → s.heap.get? b = some o → h'.get? b = some o) → Q (.ref s.heap.objs.size) { s with heap := h', toks := tk }) :
    wpAny (model P w) A (call (.type "set") [.ref l]) Q E s := by
  obtain ⟨c, tl, hmro⟩ := F.called_set.mro
  have hmade := F.called_set.made
  have hsub := F.called_set.sub
  refine wpAny_call (codeAny_of_tree ?_)
  show wpAny _ _ (callAny (.type "set") _) _ _ _
  refine wpAny_pure ⟨Code.quiet_builtin _ (by decide +kernel), codeAny_builtin F.entry_type_call ?_⟩
  rw [Around.under_plain (weight_type_call_type "set" [.ref l] []) rfl]
  have h1 := F.called_set.notType
  have h2 := F.called_set.canCreate
  have hct := F.typeCall_set_1 (.ref l)
  repeat (any_goals first | assumption | wp_step)
  refine codeAny_mono (code_new_led (.ref l) (E := E) (Q₁ := fun ob s₁ => ob = .ref s.heap.objs.size ∧ s₁ = { s with heap := s.heap.push (ledO w) }) ⟨rfl, rfl⟩) fun r s₁ hr => ?_
  cases r with
  | error e => exact hr
  | ok fl =>
    cases fl with
    | ret ob =>
      obtain ⟨rfl, rfl⟩ := hr
      have hS : (s.heap.push (ledO w)).get? s.heap.objs.size = some (ledO w) := Heap.get?_push_size _ rfl
      have hT : Shared.TypeIs { s with heap := s.heap.push (ledO w) } (.ref s.heap.objs.size) "set" := ⟨_, hS, rfl⟩
      have hli := F.called_set.init.lookup
      have hbi := F.called_set.init.bind (.ref s.heap.objs.size)
      repeat (any_goals first | assumption | wp_step)
      refine codeAny_mono (codeAny_call_builtin (R := wants (fun r s₂ => r = .none ∧ ∃ h' tk D, s₂ = { s with heap := h', toks := tk } ∧ h'.get? s.heap.objs.size = some (sObj "set" D) ∧ TxS P w D (ss.foldl ddS []) ∧
          (∀ b o, b < s.heap.objs.size → s.heap.get? b = some o → h'.get? b = some o)) E) F.called_set.init.plain F.entry_set_init (check_set_init_1 hT ?_)) fun r₂ s₂ hr₂ => ?_
      · obtain ⟨ol, hol, hcl, nl, hdl⟩ := hl
        obtain ⟨ocls, odict, odata, oslots⟩ := ol
        simp only at hcl hdl
        subst hcl; subst hdl
        have hol' : (s.heap.push (ledO w)).get? l = some { cls := .type "list", dict := odict, data := .seq items nl, slots := oslots } := Heap.get?_push_of_some _ hol
        have hsls := F.sub_list_set
        have hslf := F.sub_list_frozenset
        have hne : (Value.type "list" == Value.type "dict") = false := by decide
        have hl1 : (s.heap.push (ledO w)).IsList l items := ⟨_, hol', rfl, nl, rfl⟩
        unfold Builtin.«set.__init__» noKeywords Builtin.Frozenset.updateFrom
        generalize hPI : pyIter = PI
        wp_walk
        subst hPI
        refine wpAny_pyIter_list hl1 (wpAny_bind (wpAny_runValue ?_))
        have hlS : l < s.heap.objs.size := Heap.lt_size hol
        have hh3 : A.in1.in1.in1.handled = none := by simp [hh]
        have hneI : l ≠ (s.heap.push (ledO w)).objs.size := by
          rw [Heap.size_push]; exact Nat.ne_of_lt (Nat.lt_succ_of_lt hlS)
        have hSf : s.heap.objs.size ∉ [(s.heap.push (ledO w)).objs.size, l] := by
          rw [Heap.size_push]; simp only [List.mem_cons, List.not_mem_nil, or_false, not_or]
          exact ⟨Nat.ne_of_lt (Nat.lt_succ_self _), Nat.ne_of_gt hlS⟩
        have hlen : items.size = ss.length := by rw [← strs_len hi, Array.length_toList]
        have hval : ∀ (i : Nat) (v : Value), items[i]? = some v → ∃ t, v = .str ((fun i => ss.getD i "") i) t := fun i v hv => strs_at hi i v (by rw [Array.getElem?_toList]; exact hv)
        have hget : ((s.heap.push (ledO w)).push { cls := .type "list_iterator", data := .fields #[.ref l, .int 0 0] }).get? s.heap.objs.size = some (ledO w) := Heap.get?_push_of_some _ hS
        refine update_texts ((Walks.list hh3 _ l hneI items).toS) s.heap.objs.size hSf (fun i => ss.getD i "") hval hb (items.size - 0) 0 _ (#[], 0, .fresh 0 0 (!w.params.followText "set-order")) (by omega) (Nat.zero_le _)
          ⟨⟨_, Heap.get?_push_size _ rfl, rfl, rfl⟩, (hl1.push _)⟩ hget TxS.zero fun s' D' hm hS' hT' => ?_
        rw [hlen, range_get] at hT'
        obtain ⟨h', g', d', tk', os'⟩ := s'
        obtain rfl : g' = s.gens := hm.gens
        obtain rfl : d' = s.drawn := hm.drawn
        obtain rfl : os' = s.os := hm.os
        show wpAny _ _ _ _ _ _
        refine wpAny_pure (?_ : wpAny _ _ (ret Value.none) _ _ _)
        refine wpAny_pure ⟨rfl, h', tk', D', rfl, hS', hT', fun b o hb z => ?_⟩
        refine hm.heap b o ?_ (Heap.get?_push_of_some _ (Heap.get?_push_of_some _ z))
        simp only [List.mem_cons, List.not_mem_nil, or_false, not_or]
        rw [Heap.size_push]
        exact ⟨Nat.ne_of_lt hb, Nat.ne_of_lt (Nat.lt_succ_of_lt hb)⟩
      · cases r₂ with
        | error e => exact hr₂
        | ok fl₂ =>
          cases fl₂ with
          | ret r =>
            obtain ⟨rfl, h', tk, D, rfl, hS', hT', hk'⟩ := hr₂
            repeat (any_goals first | assumption | wp_step)
            exact h _ _ _ hS' hT' hk'
          | _ => exact hr₂.elim
    | _ => exact hr.elim
end
end Mp

set_option Elab.async false
set_option linter.all false
set_option maxRecDepth 100000
set_option maxHeartbeats 4000000
/-! Mp13: sorted(set(texts)), len(set(texts)). -/
namespace Mp
open PySem PySem.Spec PyProof.Rows L2 PySem.W PySem.Froz

def TxAt (P : Program) (w : World) (a : Addr) (ss : List Str) (h : Heap) : Prop := ∃ D, h.get? a = some (sObj "set" D) ∧ TxS P w D (ss.foldl ddS [])
def TxSet (P : Program) (w : World) (a : Addr) (ss : List Str) : HO := .ext fun h => TxAt P w a ss h
theorem TxAt.ob {P : Program} {w : World} {H : Hp} {h : Heap} {a : Addr} {ss : List Str} (R : TxAt P w a ss h) : ObjOk P w H h a (TxSet P w a ss) := by
  have ⟨D, ho, T⟩ := R
  exact ⟨R, ⟨_, ho⟩, fun h1 h2 p k => let ⟨D, ho, T⟩ := p; ⟨D, k _ ho, T⟩⟩
def rSetT (P : Program) (w : World) (K : PySem.W.Frag) : List V → Hp → VK → Prop := fun vs H Q => ∃ (a : Addr) (ss : List Str), vs = [V.ref a] ∧ H a = some (.lst (ss.map V.str)) ∧ ss.length + 1 < scanBound ∧ ∀ p, H p = none → Q (.ref p) (upd H p (TxSet P w p ss))
theorem cr_setT {X : Cx} (hc : X.calm = true) : CallR X (.type "set") (rSetT X.prog X.w X.K) := by
  intro pins s σ H vs us Q I r h
  obtain ⟨a, ss, rfl, ha, hlen, q⟩ := h
  obtain ⟨its, rv, hl, hz⟩ := I.list (SqL.of (K := X.K) ha)
  rw [Vals.ref1 r]
  have el := rv.length
  rw [List.length_map] at el
  refine call_set_texts (I.ok.hd hc) hl.isList (ss := ss) (by simpa using rv.strs) (by rw [List.size_toArray, ← el]; exact hlen) fun h' tk D hD hT hk => ?_
  have I' : Inv X pins σ (upd H s.heap.objs.size (TxSet X.prog X.w s.heap.objs.size ss)) { s with heap := h', toks := tk } := I.laid (t' := tk) (fun b o z => hk b o (Heap.lt_size z) z) (Nat.le_refl _) (TxAt.ob ⟨D, hD, hT⟩)
  exact ⟨.ref s.heap.objs.size, _, I', rfl, q _ (I.hok.fresh (Nat.le_refl _))⟩
/-- the members of a set as values -/
theorem vals_texts {es : Array (Int × Value)} {vs : List Value} (h : TxE es) (p : vs.Perm (es.toList.map (·.2))) : ∃ ts : List Str, Vals (ts.map V.str) vs ∧ ts.Perm (es.toList.map fun e => txtOf e.2) := by
  refine ⟨vs.map txtOf, ?_, ?_⟩
  · have hv : ∀ v ∈ vs, ∃ x t, v = Value.str x t := fun v hv => by
      obtain ⟨e, he, q⟩ := List.mem_map.mp (p.mem_iff.mp hv)
      obtain ⟨x, t, z⟩ := h e he
      exact ⟨x, t, by rw [← q]; exact z⟩
    clear p
    induction vs with
    | nil => exact .nil
    | cons v vs ih =>
      obtain ⟨x, t, rfl⟩ := hv v List.mem_cons_self
      exact .cons ⟨t, rfl⟩ (ih fun u hu => hv u (List.mem_cons_of_mem _ hu))
  · have q := p.map txtOf
    rw [List.map_map] at q
    exact q
theorem reads_texts {h : Heap} : ∀ {ts : List Str} {vs : List Value}, Vals (ts.map V.str) vs → EachIs (fun v x => ∃ as, Reads h v (.str x) as) vs ts
  | [], _, .nil => .nil
  | x :: ts, _, .cons ⟨t, e⟩ r => .cons ⟨[], by rw [e]; exact Reads.str x t⟩ (reads_texts r)
theorem vals_each : ∀ {ts : List Str} {vs : List Value}, Vals (ts.map V.str) vs → EachIs (fun v x => RelV (.str x) v) vs ts
  | [], _, .nil => .nil
  | x :: ts, _, .cons r t => .cons r (vals_each t)
theorem each_vals : ∀ {ts : List Str} {vs : List Value}, EachIs (fun v x => RelV (.str x) v) vs ts → Vals (ts.map V.str) vs
  | _, _, .nil => .nil
  | _, _, .cons r t => .cons r (each_vals t)
def rSortSet (P : Program) (w : World) : List V → Hp → VK → Prop := fun vs H Q => ∃ (a : Addr) (ss : List Str), vs = [V.ref a] ∧ H a = some (TxSet P w a ss) ∧ ss.length + 1 < scanBound ∧ ∀ p, H p = none → Q (.ref p) (upd H p (.lst ((setS ss).map V.str)))
theorem le_str_trans (a b c : Str) (h1 : dataLe false (fun x : Str => PyData.str x) a b = true) (h2 : dataLe false (fun x : Str => PyData.str x) b c = true) : dataLe false (fun x : Str => PyData.str x) a c = true := by
  rw [dataLe_str] at *
  simp only [decide_eq_true_eq] at *
  exact List.le_trans h1 h2
theorem le_str_total (a b : Str) : (dataLe false (fun x : Str => PyData.str x) a b || dataLe false (fun x : Str => PyData.str x) b a) = true := by
  rw [dataLe_str]
  simp only [Bool.or_eq_true, decide_eq_true_eq]
  exact List.le_total _ _
theorem cr_sortSet {X : Cx} (hc : X.calm = true) (hu : X.A.units + 65 < cLine) : CallR X (.builtin "sorted") (rSortSet X.prog X.w) := by
  intro pins s σ H vs us Q I r h
  obtain ⟨a, ss, rfl, ha, hlen, q⟩ := h
  obtain ⟨D, hD, T⟩ : TxAt X.prog X.w a ss s.heap := (I.hok a _ ha).1
  rw [Vals.ref1 r]
  have hsz : D.1.size = (ss.foldl ddS []).length := T.ok.sz
  have hdd : (ss.foldl ddS []).length ≤ ss.length := by
    have z := dd_len ss []
    rw [List.length_nil] at z
    omega
  have hb : D.1.size < scanBound := by omega
  refine Calls.call_function_entry kind_sorted plain_sorted entry_sorted (args_sorted1 _) ?_
  unfold Builtin.«sorted»
  refine wpAny_bind (m := checkCount "sorted" 1 1 _) (wpAny_pure (wpAny_bind (L2.collect_set (A := X.A.in1) (I.ok.hd hc) ⟨_, hD, rfl, rfl⟩ T.ok.fit hb T.ris T.led fun s1 vs k1 hz g1 o1 pm => ?_)))
  obtain ⟨ts, hv, hts⟩ := vals_texts T.vl pm
  have htl : ts.length = vs.length := by rw [← hv.length, List.length_map]
  have hL : vs.length ≤ sizeLine := by
    rw [pm.length_eq, List.length_map, Array.length_toList]
    exact fits_of_scanBound hb
  have hI1 : Inv X pins σ H s1 := by
    obtain ⟨hh, gg, dd, tt, oo⟩ := s1
    obtain rfl : gg = s.gens := g1
    obtain rfl : oo = s.os := o1
    have z := I.turnedL (h' := hh) (t' := tt) (ch := []) (fun b o _ z => k1 b o z) (fun b hb => by cases hb)
    exact ⟨z.ok, z.os, z.bare, z.base, z.loc, z.cell, z.free, z.freeC, z.pin, z.hok, z.len⟩
  refine wpAny_bind (wpAny_newList ?_ hL)
  have hoL : (s1.heap.push (seqObj "list" vs.toArray 0)).get? s1.heap.objs.size = some (seqObj "list" vs.toArray 0) := Heap.get?_push_size _ rfl
  have er : EachIs (fun v x => ∃ as, Reads (sortingHeap (s1.heap.push (seqObj "list" vs.toArray 0)) s1.heap.objs.size vs) v (.str x) as) vs ts := reads_texts hv
  have S := SortsAt.data (prog := X.prog) (w := X.w) (A := X.A.in1.in1) (s := { s1 with heap := sortingHeap (s1.heap.push (seqObj "list" vs.toArray 0)) s1.heap.objs.size vs })
    (each_map (R := fun v d => ∃ as, Reads (sortingHeap (s1.heap.push (seqObj "list" vs.toArray 0)) s1.heap.objs.size vs) v d as) (fun x : Str => PyData.str x) er) (AllAlike.of fun _ _ => rfl) (.inr fun d hd => by
      obtain ⟨x, _, rfl⟩ := List.mem_map.mp hd
      exact ⟨by simp, fun xs => by simp⟩) (fun d hd => by
      obtain ⟨x, _, rfl⟩ := List.mem_map.mp hd
      show X.A.units + 2 + PyData.depth (.str x) < _
      simp only [PyData.depth]
      omega)
  refine wpAny_bind (wpAny_holding (wpAny_call_entry slot_list_sort ⟨_, hoL, rfl⟩ entry_list_sort (list_sort_vals (s := { s1 with heap := s1.heap.push (seqObj "list" vs.toArray 0) }) hoL S hL ⟨_, rfl, ?_⟩) (args_list_sort _)))
  have eo := sortVals_data (enc := fun x : Str => PyData.str x) false (vals_each hv) er (AllAlike.of fun _ _ => rfl)
  generalize hout : sortVals (dataKind (sortingHeap (s1.heap.push (seqObj "list" vs.toArray 0)) s1.heap.objs.size vs) (ts.map fun x : Str => PyData.str x)) false vs vs = out at eo ⊢
  have hfin : ts.mergeSort (dataLe false fun x : Str => PyData.str x) = setS ss := by
    have pp := List.mergeSort_perm ts (dataLe false fun x : Str => PyData.str x)
    have psort := List.pairwise_mergeSort le_str_trans le_str_total ts
    have pts : ts.Perm (ss.foldl ddS []) := hts.trans T.pm
    refine setS_of (psort.imp fun {x y} z => ?_) (pp.nodup_iff.mpr (pts.nodup_iff.mpr T.nd)) fun x => ?_
    · rw [dataLe_str] at z
      exact List.not_lt.mpr (of_decide_eq_true z)
    · rw [pp.mem_iff, pts.mem_iff, mem_dd]
      simp
  rw [hfin] at eo
  have hvo := each_vals eo
  have hol : out.length ≤ sizeLine := by
    rw [← hout, sortVals_length false rfl]; exact hL
  obtain ⟨c, hc2⟩ := sortedHeap_at (vs := vs) (out := out.toArray) hoL
  refine wpAny_pure ⟨_, rfl, .ref s1.heap.objs.size, upd H s1.heap.objs.size (.lst ((setS ss).map V.str)), hI1.laid (t' := s1.toks) (fun b u z => ?_) (Nat.le_refl _) ⟨by rw [hvo.length]; exact hol, out, c, hvo, hc2⟩, rfl, q _ (hI1.hok.fresh (Nat.le_refl _))⟩
  have hlt := Heap.lt_size z
  show (sortedHeap (s1.heap.push (seqObj "list" vs.toArray 0)) s1.heap.objs.size vs out.toArray).get? b = some u
  rw [sortedHeap_old (Nat.ne_of_lt hlt) (by rw [size_push']; exact Nat.lt_succ_of_lt hlt)]
  exact Heap.get?_push_of_some _ z
end Mp

set_option Elab.async false
set_option linter.all false
set_option maxRecDepth 100000
set_option maxHeartbeats 4000000
/-! Mp14: sorted(xs, key=f), f a def; sorted(set(xs)) as an expression. -/
namespace Mp
open PySem PySem.Spec PyProof.Rows L2 PySem.W

/-- the objects that are not in bad -/
def objsBut (h : Heap) (bad : List Addr) : List (Addr × Obj) := (List.range h.objs.size).filterMap fun b => if b ∈ bad then none else (h.get? b).map fun o => (b, o)
theorem objsBut_of {h : Heap} {bad : List Addr} {p : Addr × Obj} (hp : p ∈ objsBut h bad) : h.get? p.1 = some p.2 ∧ p.1 ∉ bad := by
  unfold objsBut at hp
  obtain ⟨b, _, q⟩ := List.mem_filterMap.mp hp
  split at q
  · cases q
  · rename_i hb
    cases e : h.get? b with
    | none => rw [e] at q; cases q
    | some o => rw [e] at q; cases q; exact ⟨e, hb⟩
theorem objsBut_mem {h : Heap} {bad : List Addr} {b : Addr} {o : Obj} (e : h.get? b = some o) (hb : b ∉ bad) : (b, o) ∈ objsBut h bad := by
  unfold objsBut
  refine List.mem_filterMap.mpr ⟨b, List.mem_range.mpr (Heap.lt_size e), ?_⟩
  rw [if_neg hb, e]
  rfl
theorem get_nil (b : Addr) : ({} : Heap).get? b = none := Heap.get?_none_of_le (Nat.zero_le _)
section
variable {X : Cx} {pins : List (Addr × Obj)} {σ : L2.St} {H H' : Hp} {s : Shared}
theorem turnedAt {h' : Heap} {t' : Nat} {ch : List Addr} {T : Addr} {ob : HO} {m : Str → Option Value} (I : Inv X pins σ H s) (k : ∀ b o, b ≠ X.env.locals → b ∉ ch → s.heap.get? b = some o → h'.get? b = some o) (hf : ∀ b ∈ ch, FpOk X pins H b)
    (hm : s.heap.Ns X.env.locals m) (hm' : h'.Ns X.env.locals m) (hT : T ∈ ch) (new : ObjOk X.prog X.w (upd H T ob) h' T ob) : Inv X pins σ (upd H T ob) { s with heap := h', toks := t' } := by
  have hn : H T = none := (hf T hT).1
  have nit : ∀ b u, H b = some u → b ∉ ch := fun b u e z => by
    have q := (hf b z).1
    rw [q] at e; cases e
  have nL : ∀ b u, H b = some u → b ≠ X.env.locals := fun b u e z => by
    rw [z, I.free] at e; cases e
  refine I.step (g' := s.gens) (d' := s.drawn) (ch := ch) (fun b hb => ⟨(hf b hb).2.2.2.1, (hf b hb).2.1, (hf b hb).2.2.2.2.1, (hf b hb).2.2.2.2.2⟩) (fun b o hL _ hc e _ => k b o hL hc e) (fun b o hL _ hc e _ => ⟨o.slots, k b o hL hc e⟩)
    (fun b o hc e n => ?_) (fun b o hc e => ?_) (fun b xs e => ?_) (fun b o u e => ?_) (fun b ps e => ⟨#[], ?_⟩) (fun m2 hm2 => ?_) (fun b u e => ?_) I.bare
  · rw [upd_ne (fun z => hc (by rw [z]; exact hT))]; exact n
  · by_cases hL : b = X.env.locals
    · obtain ⟨o', _, _, z, _⟩ := hm'
      exact ⟨o', by rw [hL]; exact z⟩
    · exact ⟨o, k b o hL hc e⟩
  · rw [upd_ne (ne_of_none e hn)]; exact e
  · rw [upd_ne (ne_of_none e hn)]; exact e
  · rw [upd_ne (ne_of_none e hn), e]; simp
  · obtain ⟨o1, es1, ep1, g1, d1, k1, f1⟩ := hm
    obtain ⟨o2, es2, ep2, g2, d2, k2, f2⟩ := hm2
    rw [g1] at g2
    cases g2
    rw [d1] at d2
    cases d2
    have e : m = m2 := funext fun x => by rw [← f1 x, ← f2 x]
    rw [← e]; exact hm'
  · by_cases hb : b = T
    · subst hb
      rw [upd_same] at e
      cases e
      exact new
    · rw [upd_ne hb] at e
      refine (I.hok b u e).stay (fun c v hc q => ?_) (fun c q => by rw [upd_ne (ne_of_none q hn)]; exact q) fun c xs q => by rw [upd_ne (ne_of_none q hn)]; exact q
      rcases hc with z | z
      · rw [z] at q ⊢
        exact k b v (nL b u e) (nit b u e) q
      · exact k c v (nL c _ z) (nit c _ z) q
end
/-- the keys of all are found -/
def keyD (g : List D → R D) (d : D) : D := match g [d] with
  | .ok k => k
  | _ => .none
def keyed (g : List D → R D) (d : D) : Bool := match g [d] with
  | .ok _ => true
  | _ => false
theorem keyed_of {g : List D → R D} {d : D} (h : keyed g d = true) : g [d] = .ok (keyD g d) := by
  unfold keyed keyD at *
  cases hg : g [d] with
  | ok k => rfl
  | exc c => rw [hg] at h; cases h
  | bad => rw [hg] at h; cases h
def rSortKey (K : PySem.W.Frag) (f : Addr) (g : List D → R D) : List V → List V → Hp → VK → Prop := fun vs zs H Q => ∃ (a : Addr) (xs : List V) (ds : List D) (G : Hp), vs = [V.ref a] ∧ zs = [V.ref f] ∧ H a = some (.lst xs) ∧ Same G H ∧ RepL K G xs ds ∧ ds.length ≤ LIM ∧ (∀ d ∈ ds, keyed g d = true) ∧ srtOk (ds.map (keyD g)) = true ∧
  ∀ p ys G' H', Gw G H G' H' → H p = none → G' p = none → RepL K G' ys (ds.mergeSort (dataLe false (keyD g))) → H' p = some (.lst ys) → Q (.ref p) H'
section
variable {X : Cx} {E : EX} {k : Nat}
theorem cr_sortKey {j : Nat} {f : Addr} {fd : FuncData} {ps : List Str} {g : List D → R D} (F : FnOk X.prog X.w X.K X.mg X.base (L2.CX X.prog X.w) j f fd ps (spD X.K X.mg 1 g)) (hb : Binds X.K fd ps []) (hj : j + 1 ≤ k) (C : Cxt X E k) : CallRK X (.builtin "sorted") [Str.ofString "key"] (rSortKey X.K f g) := by
  intro pins s σ H vs zs us ws Q I r rz h
  obtain ⟨a, xs, ds, G, rfl, rfl, ha, sm, rep, hlim, hky, hok, q⟩ := h
  obtain ⟨hp, hal, hsb, hdep, hlen⟩ := srtOk_of hok
  obtain ⟨its, rv, hl, hz⟩ := I.list (SqL.of (K := X.K) ha)
  rw [Vals.ref1 r, Vals.ref1 rz]
  have hil : its.length = ds.length := by rw [← rv.length, rep.length]
  have hZ : its.length ≤ sizeLine := by rw [hil]; exact lim_le hlim
  have hroom : Room j X.A.in1.in1 := ⟨C.room.hd, by have := C.room.dp; show X.A.depth + 3 * j + 5 < _; omega, by have := C.room.un; show X.A.units + 1 + 1 + 16 * j + 200 < _; omega⟩
  refine sorted_of_sort (kw := [(Str.ofString "key", Value.ref f)]) hl.isList hZ (ksk_s1 _ _) (fun _ => ksk_l1 _ _) fun E' => ?_
  rw [ksk_t1]
  obtain ⟨a0, ha0⟩ : ∃ a0, a0 = s.heap.objs.size + 1 := ⟨_, rfl⟩
  have ho : (copyHeap s.heap its).get? a0 = some (seqObj "list" its.toArray 0) := by rw [ha0]; exact copyHeap_at _ _
  have lt0 : a0 < (copyHeap s.heap its).objs.size := Heap.lt_size ho
  rw [← ha0]
  obtain ⟨e1, ho1⟩ : ∃ e1, ((copyHeap s.heap its).update a0 (Obj.mapSeq fun _ => (#[] : Array Value))).get? a0 = some (seqObj "list" #[] e1) := ⟨_, get?_update_seq ho fun _ => #[]⟩
  unfold ksk_tree
  refine wpAny_bind (listItems_at ho rfl (wpAny_bind (listUpdate_at ho rfl ?_ (by rw [List.size_toArray]; exact hZ) (Nat.zero_le _))))
  refine wpAny_bind (seqEpoch_at ho1 rfl (wpAny_bind (wpAny_newTuple ?_ hZ)))
  refine wpAny_bind (wpAny_newList ?_ (Nat.zero_le _))
  refine wpAny_holding ?_
  -- the keys' store
  obtain ⟨h6, hh6⟩ : ∃ h6, h6 = (((copyHeap s.heap its).update a0 (Obj.mapSeq fun _ => (#[] : Array Value))).push (seqObj "tuple" its.toArray 0)) := ⟨_, rfl⟩
  obtain ⟨kS, hkS⟩ : ∃ kS, kS = h6.objs.size := ⟨_, rfl⟩
  have hs6 : h6.objs.size = (copyHeap s.heap its).objs.size + 1 := by rw [hh6, size_push', Heap.size_update]
  have hka : kS ≠ a0 := by rw [hkS, hs6]; exact Nat.ne_of_gt (Nat.lt_succ_of_lt lt0)
  show wpAny _ _ (ksk_rest a0 (Value.ref f) false its.toArray e1 (.ref (((copyHeap s.heap its).update a0 (Obj.mapSeq fun _ => (#[] : Array Value))).push (seqObj "tuple" its.toArray 0)).objs.size)) _ _ { s with heap := (((copyHeap s.heap its).update a0 (Obj.mapSeq fun _ => (#[] : Array Value))).push (seqObj "tuple" its.toArray 0)).push (seqObj "list" #[] 0) }
  rw [← hh6, ← hkS]
  have size0 : s.heap.objs.size ≤ a0 := by rw [ha0]; exact Nat.le_succ _
  have sizek : s.heap.objs.size ≤ kS := by
    rw [hkS, hs6]
    exact Nat.le_trans size0 (Nat.le_succ_of_le (Nat.le_of_lt lt0))
  have keep6 : ∀ b o, s.heap.get? b = some o → (h6.push (seqObj "list" #[] 0)).get? b = some o := fun b o z => by
    have lt := Heap.lt_size z
    refine Heap.get?_push_of_some _ ?_
    rw [hh6]
    refine Heap.get?_push_of_some _ ?_
    rw [Heap.get?_update_other _ _ (Ne.symm (Nat.ne_of_lt (Nat.lt_of_lt_of_le lt size0)))]
    exact copyHeap_old z
  have I6 : Inv X pins σ H { s with heap := h6.push (seqObj "list" #[] 0) } := I.turnedL (t' := s.toks) (ch := []) (fun b o _ z => keep6 b o z) (fun b hb => by cases hb)
  have n0 : H a0 = none := I.hok.fresh size0
  have nk : H kS = none := I.hok.fresh sizek
  have nf : ∀ b, s.heap.objs.size ≤ b → b ∉ frs X.stack := fun b hb hm => by
    have fo : FpOk X pins (fun _ => none) b := I.fpOk hb rfl
    rcases List.mem_cons.mp (I.stkSub b hm) with z | z
    · exact fo.2.1 z
    · exact fo.2.2.1 z
  have fp0 : ∀ Hc : Hp, Hc a0 = none → FpOk X pins Hc a0 := fun Hc z => I.fpOk size0 z
  have fpk : ∀ Hc : Hp, Hc kS = none → FpOk X pins Hc kS := fun Hc z => I.fpOk sizek z
  have g6k : (h6.push (seqObj "list" #[] 0)).get? kS = some (seqObj "list" #[] 0) := by rw [hkS]; exact Heap.get?_push_size _ rfl
  have g60 : (h6.push (seqObj "list" #[] 0)).get? a0 = some (seqObj "list" #[] e1) := by
    refine Heap.get?_push_of_some _ ?_
    rw [hh6]
    exact Heap.get?_push_of_some _ ho1
  unfold ksk_rest
  refine wpAny_bind (wpAny_rule ?_)
  first
    | rw [List.forIn_toArray]
    | (rw [← Array.forIn_toList]; simp only [List.toList_toArray])
    | rw [← Array.forIn_toList]
  refine wpAny_bind (ksk_fold (fun i s' => ∃ Gc Hc kv kA e, Inv X pins σ Hc s' ∧ Gw G H Gc Hc ∧ Hc a0 = none ∧ Hc kS = none ∧ s'.heap.get? kS = some (seqObj "list" kA e) ∧ s'.heap.get? a0 = some (seqObj "list" #[] e1) ∧ Vals kv kA.toList ∧ RepL X.K Gc kv ((ds.map (keyD g)).take i)) its 0 _
    ⟨G, H, [], #[], 0, I6, Gw.refl sm, n0, nk, g6k, g60, .nil, by rw [List.take_zero]; exact .nil⟩ ?step ?done)
  case step =>
    rintro i v s' hv ⟨Gc, Hc, kv, kA, e, Ic, gw, z0, zk, gk, g0, vk, rk⟩
    simp only [Nat.zero_add] at rk ⊢
    obtain ⟨x, hx, rx⟩ : ∃ x, xs[i]? = some x ∧ RelV x v := by
      have hi : i < xs.length := by rw [rv.length]; exact (List.getElem?_eq_some_iff.mp hv).1
      obtain ⟨u, h1, h2⟩ := rv.get (List.getElem?_eq_getElem hi)
      rw [hv] at h1
      cases h1
      exact ⟨_, List.getElem?_eq_getElem hi, h2⟩
    obtain ⟨d, hd, rd⟩ := rep.getV hx
    have hkd := keyed_of (hky d (List.mem_of_getElem? hd))
    have rc := F.run X.A.in1.in1 X.stack s' Hc ⟨[v], []⟩ [v] [x] (fun w H2 => ∃ G2, Gw Gc Hc G2 H2 ∧ Rep X.K G2 w (keyD g d)) (fun _ _ _ => False) hroom Ic.env0.in1.in1 (by
      have z := hb s' [v] Ic.kIn (by
        have zl := F.len [x] Hc (fun _ _ => True) (fun _ _ _ => True) ⟨rfl, Gc, [d], gw.2.2.1, .cons (rd.mono gw.1) .nil, by rw [hkd]; exact fun _ _ _ _ _ => True.intro⟩
        exact zl)
      rw [List.append_nil] at z
      exact z) (.cons rx .nil) ⟨rfl, Gc, [d], gw.2.2.1, .cons (rd.mono gw.1) .nil, by rw [hkd]; exact fun G2 H2 g2 w rw => ⟨G2, g2, rw⟩⟩
    have klen : kA.size = i := by
      have z1 : kv.length = kA.size := by rw [← Array.length_toList]; exact vk.length
      have z2 := rk.length
      have hi : i < its.length := (List.getElem?_eq_some_iff.mp hv).1
      rw [List.length_take, List.length_map] at z2
      omega
    have hi : i < its.length := (List.getElem?_eq_some_iff.mp hv).1
    refine wpAny_bind (wpAny_attempt (wpAny_call (codeAny_mono rc fun r s2 hq => ?_)))
    cases r with
    | error er =>
      obtain ⟨_, _, _, _, _, _, _, _, _, _, _, _, hF⟩ := hq
      exact hF.elim
    | ok fl =>
      cases fl with
      | next => exact hq.elim
      | brk => exact hq.elim
      | cont => exact hq.elim
      | ret u =>
        obtain ⟨w, H2, os2, bare2, un2, hok2, rw2, G2, gw2, rep2⟩ := hq
        have I2 : Inv X pins σ H2 s2 := Ic.call' (ch := []) os2 un2 hok2 bare2 (fun b z => by cases z)
        have k2 := un2.keep kS _ gk zk (nf kS sizek) (by simp)
        have k20 := un2.keep a0 _ g0 z0 (nf a0 size0) (by simp)
        have zk2 := un2.free kS _ gk zk (by simp)
        have z02 := un2.free a0 _ g0 z0 (by simp)
        dsimp only
        obtain ⟨c2, hc2⟩ : ∃ c2, (s2.heap.update kS (Obj.mapSeq (·.push u))).get? kS = some (seqObj "list" (kA.push u) c2) := ⟨_, get?_update_seq k2 (·.push u)⟩
        refine wpAny_bind (listUpdate_at k2 rfl ?_ (by omega) (by rw [Array.size_push]; omega))
        refine wpAny_pure ⟨rfl, G2, H2, kv ++ [w], kA.push u, c2, I2.turnedL (t' := s2.toks) (ch := [kS]) (fun b o hb z => ?_) (fun b hb => by cases List.mem_singleton.mp hb; exact fpk H2 zk2), gw.trans gw2, z02, zk2, hc2, ?_, ?_, ?_⟩
        · rw [Heap.get?_update_other _ _ (Ne.symm (by simpa using hb))]; exact z
        · rw [Heap.get?_update_other _ _ hka]; exact k20
        · rw [Array.toList_push]; exact vk.append (.cons rw2 .nil)
        · have et : (ds.map (keyD g)).take (i + 1) = (ds.map (keyD g)).take i ++ [keyD g d] := by
            rw [List.take_add_one, List.getElem?_map, hd]
            rfl
          rw [et]
          exact (rk.mono gw2.1).snoc rep2
  case done =>
    rintro s9 ⟨Gc, Hc, kv, kA, e, Ic, gw, z0, zk, gk, g0, vk, rk⟩
    have et : (ds.map (keyD g)).take (0 + its.length) = ds.map (keyD g) := List.take_of_length_le (by rw [List.length_map]; omega)
    rw [et] at rk
    try dsimp only
    refine wpAny_bind (listItems_at gk rfl ?_)
    obtain ⟨m, hm, _⟩ := Ic.loc
    have f0 := fp0 Hc z0
    have fk := fpk Hc zk
    have klen : kA.size = its.length := by
      have z1 : kv.length = kA.size := by rw [← Array.length_toList]; exact vk.length
      have z2 := rk.length
      rw [List.length_map] at z2
      omega
    have er : EachIs (fun v d => ∃ as, Reads s9.heap v d as) kA.toList (ds.map (keyD g)) := reads_of Ic gw.2.2.1 hp vk rk
    have Fr0 : Fr ({} : Heap) X.env.locals s9.heap m := ⟨hm, (fun b o z => by rw [get_nil] at z; cases z), Nat.zero_le _⟩
    refine key_end (e := e) (κ := dataKind s9.heap (ds.map (keyD g))) (news := objsBut s9.heap [X.env.locals, a0, kS]) Fr0 (fun p hp2 => ?_) hka (fun p hp2 z => (objsBut_of hp2).2 (by simp [z])) (fun p hp2 z => (objsBut_of hp2).2 (by simp [z]))
      (SortsAt.data er hal hsb fun d hd => by have := hdep d hd; have := C.room.un; show X.A.units + 1 + 1 + d.depth < _; omega) klen hZ fun h9 tk c F9 N9 => ⟨rfl, ?_⟩
    · rcases List.mem_append.mp hp2 with z | z
      · exact ⟨(objsBut_of z).1, fun y => (objsBut_of z).2 (by simp [y]), get_nil _⟩
      · rcases List.mem_cons.mp z with rfl | z
        · exact ⟨gk, fk.2.1, get_nil _⟩
        · rw [List.mem_singleton.mp z]
          exact ⟨g0, f0.2.1, get_nil _⟩
    · have ko : KeyedOut false (ds.map (keyD g)) its (sortVals (dataKind s9.heap (ds.map (keyD g))) false kA.toList its) := ⟨s9.heap, kA.toList, hal, rfl, er⟩
      have eo := keyedOut_each (keyD g) ko (stv_of rv rep)
      obtain ⟨ys, h1, h2⟩ := of_stv eo
      have hol : (sortVals (dataKind s9.heap (ds.map (keyD g))) false kA.toList its).length = its.length := sortVals_length false (by rw [Array.length_toList]; exact klen)
      have g9 := (N9 _ (.head _)).1
      have ob : ObjOk X.prog X.w (upd Hc a0 (.lst ys)) h9 a0 (.lst ys) := ⟨by rw [h1.length, hol]; exact hZ, _, c, h1, g9⟩
      have I9 : Inv X pins σ (upd Hc a0 (.lst ys)) { s9 with heap := h9, toks := tk } := turnedAt (ch := [a0, kS]) Ic (fun b o hL hc z => ?_) (fun b hb2 => ?_) hm F9.ns (by simp) ob
      · have ga0 : Gc a0 = none := gw.2.2.1.free z0
        refine ⟨.ref a0, _, I9, rfl, q a0 ys Gc (upd Hc a0 (.lst ys)) ⟨gw.1, fun b o z => ?_, same_up gw.2.2.1 ga0, gw.2.2.2⟩ n0 ga0 (h2.mono gw.1) upd_same⟩
        rw [upd_ne (ne_of_none z n0)]
        exact gw.2.1 b o z
      · exact (N9 (b, o) (List.mem_cons_of_mem _ (objsBut_mem z (by
          simp only [List.mem_cons, List.not_mem_nil, or_false, not_or] at hc ⊢
          exact ⟨hL, hc.1, hc.2⟩)))).1
      · rcases List.mem_cons.mp hb2 with z | z
        · rw [z]; exact f0
        · rw [List.mem_singleton.mp z]; exact fk

def lSortK (g : List D → R D) (fe : Env → R D) : Env → R (List D) := fun ρ => (fe ρ).bind fun d => match d with
  | .list ds => if decide (ds.length ≤ LIM) && ds.all (keyed g) && srtOk (ds.map (keyD g)) then .ok (ds.mergeSort (dataLe false (keyD g))) else .bad
  | _ => .bad
theorem jf_sortK {x : Str} {e : Expr} {p p2 kpos pos : Pos} {g : List D → R D} {fe : Env → R D} {j : Nat} (C : Cxt X E k) (F : Has X.prog X.w X.K X.mg X.base j x 1 g) (hj : j + 1 ≤ k) (hgx : Gl X x) (hg : Gl X "sorted") (hm : X.mg "sorted" = none) (he : JB X E e fe)
    (hdb : (x == ("__debug__" : Str)) = false := by decide)
    (h1 : starEach [e] X.env = (false, eval e X.env) :: starEach [] X.env := by rfl)
    (h2 : backTo pos (starEach [e] X.env) = (false, eval e X.env) :: backTo pos (starEach [] X.env) := by rfl) (hpl : (backTo pos (starEach [e] X.env)).any (·.1) = false := by rfl)
    (hall : (backToKw pos (keywordEach [⟨some "key", .Name x p2, kpos⟩] X.env)).all (·.1.isSome) = true := by rfl) (hnone : (backToKw pos (keywordEach [⟨some "key", .Name x p2, kpos⟩] X.env)).any (·.1.isNone) = false := by rfl)
    (hks : (backToKw pos (keywordEach [⟨some "key", .Name x p2, kpos⟩] X.env)).filterMap (·.1) = [Str.ofString "key"] := by rfl) :
    JF X E (.Call (.Name "sorted" p) [e] [⟨some "key", .Name x p2, kpos⟩] pos) (lSortK g fe) := by
  obtain ⟨f, fd, ps, q1, q2, q3, q4⟩ := F.ex
  refine pe_imp (pe_callBK (cr_sortKey q2 q4 hj C) hg hm (by decide +kernel) (pa_cons he pa_nil h1) (pk_cons (pe_glob hgx q1 (v := .ref f) rfl hdb) pk_nil) (by decide) (by decide) h2 hpl hall hnone hks) fun σ H Q ⟨B, G, ρ, rl, o⟩ => ⟨B, G, ρ, rl, o.bind.imp fun d G1 H1 g1 o1 v rv => ?_⟩
  split at o1
  · rename_i ds
    split at o1
    · rename_i hc
      simp only [Bool.and_eq_true, decide_eq_true_eq, List.all_eq_true] at hc
      obtain ⟨a, xs, rfl, h3, h4⟩ := rv.lst g1.2.2.1
      exact ⟨a, xs, ds, G1, rfl, rfl, h3, g1.2.2.1, h4, hc.1.1, hc.1.2, hc.2, fun p ys G2 H2 g2 hp hn hr hl => o1 G2 H2 g2 p ys (g1.2.1.free hp) hn hl hr⟩
    · exact o1.elim
  · exact o1.elim
/-! ### sorted(set(texts)) -/
def lSet (fe : Env → R D) : Env → R (List D) := fun ρ => (fe ρ).bind fun d => match d with
  | .list ds => match strsOf ds with
    | some ss => if ss.length + 1 < scanBound then .ok ((setS ss).map .str) else .bad
    | none => .bad
  | _ => .bad
theorem jf_sortset {e : Expr} {p p2 pos pos2 : Pos} {fe : Env → R D} (C : Cxt X E k) (hg : Gl X "sorted") (hm : X.mg "sorted" = none) (hg2 : Gl X "set") (hm2 : X.mg "set" = none) (he : JB X E e fe)
    (h1 : starEach [e] X.env = (false, eval e X.env) :: starEach [] X.env := by rfl)
    (h3 : starEach [.Call (.Name "set" p2) [e] [] pos2] X.env = (false, eval (.Call (.Name "set" p2) [e] [] pos2) X.env) :: starEach [] X.env := by rfl) (hpl : (backTo pos2 (starEach [] X.env)).any (·.1) = false := by rfl) (hpl2 : (backTo pos (starEach [] X.env)).any (·.1) = false := by rfl) :
    JF X E (.Call (.Name "sorted" p) [.Call (.Name "set" p2) [e] [] pos2] [] pos) (lSet fe) := by
  refine pe_imp (pe_callB (cr_sortSet C.calm (hu_more C)) hg hm (by decide +kernel) (pa_cons (pe_callTy (cr_setT C.calm) hg2 hm2 (by decide +kernel) (pa_cons he pa_nil h1) (by decide) (by decide) h1 hpl) pa_nil h3) (by decide) (by decide) h3 hpl2) fun σ H Q ⟨B, G, ρ, rl, o⟩ => ⟨B, G, ρ, rl, o.bind.imp fun d G1 H1 g1 o1 v rv => ?_⟩
  split at o1
  · rename_i ds
    cases e1 : strsOf ds with
    | none => rw [e1] at o1; exact o1.elim
    | some ss =>
      rw [e1] at o1
      dsimp only at o1
      split at o1
      · rename_i hc
        obtain ⟨a, xs, rfl, h3, h4⟩ := rv.lst g1.2.2.1
        rw [strsOf_eq e1] at h4
        rw [h4.of_strs] at h3
        refine ⟨a, ss, rfl, h3, hc, fun q hq => ⟨q, ss, rfl, upd_same, hc, fun r hr => ?_⟩⟩
        have hr1 : H1 r = none := by
          by_cases hqr : r = q
          · subst hqr; rw [upd_same] at hr; cases hr
          · rw [upd_ne hqr] at hr; exact hr
        have gq := Gw.own (o := TxSet X.prog X.w q ss) g1.2.2.1 hq
        exact o1 G1 _ (gq.trans (Gw.own gq.2.2.1 hr)) r _ (g1.2.1.free hr1) (g1.2.2.1.free hr1) upd_same (RepL.strs _)
      · exact o1.elim
  · exact o1.elim
end
end Mp

set_option Elab.async false
set_option linter.all false
set_option maxRecDepth 100000
/-! Mp15: dicts by key (whole numbers, texts); list.insert; defs over the head's facts. -/
namespace Mp
open PySem PySem.Spec PyProof.Rows L2

def keyOfD : D → Option Key
  | .int i => some (.inl i)
  | .str x => some (.inr x)
  | _ => none
def eqK : D → Key → Bool
  | .int i, .inl j => decide (i = j)
  | .str x, .inr y => decide (x = y)
  | _, _ => false
theorem eqK_kD (k k' : Key) : eqK (kD k) k' = decide (k = k') := by
  cases k <;> cases k' <;> simp [kD, eqK]
theorem keyOfD_of {d : D} {k : Key} (h : keyOfD d = some k) : d = kD k := by
  cases d <;> cases h <;> rfl
theorem key_rb {K : PySem.W.Frag} {G H : Hp} {v : V} {d : D} {k : Key} (r : RB K G H v d) (h : keyOfD d = some k) : v = kV k := by
  cases d with
  | int i => cases h; exact r.int
  | str x => cases h; exact r.str
  | _ => cases h
def valD (ds : List (D × D)) (k : Key) : Option D := (ds.find? fun p => eqK p.1 k).map (·.2)
def putD (ds : List (D × D)) (k : Key) (d : D) : List (D × D) := if (ds.any fun p => eqK p.1 k) = true then ds.map (fun p => if eqK p.1 k = true then (p.1, d) else p) else ds ++ [(kD k, d)]
section
variable {K : PySem.W.Frag} {G : Hp}
theorem RepK.val (k : Key) : ∀ {kvs : List (Key × V)} {ds : List (D × D)}, RepK K G kvs ds → (∀ d, valD ds k = some d → ∃ v, valV kvs k = some v ∧ Rep K G v d) ∧ (valD ds k = none → valV kvs k = none)
  | _, _, .nil => ⟨(fun d h => by cases h), fun _ => rfl⟩
  | _, _, @RepK.cons _ _ k' v kvs d ds r t => by
    obtain ⟨h1, h2⟩ := RepK.val k t
    unfold valD valV at *
    simp only [List.find?_cons, eqK_kD]
    by_cases e : k' = k
    · subst e
      simp only [decide_true]
      exact ⟨(fun d' q => by cases q; exact ⟨v, rfl, r⟩), fun q => by cases q⟩
    · simp only [decide_eq_false e]
      exact ⟨h1, h2⟩
theorem RepK.any (k : Key) : ∀ {kvs : List (Key × V)} {ds : List (D × D)}, RepK K G kvs ds → (kvs.any fun p => decide (p.1 = k)) = ds.any fun p => eqK p.1 k
  | _, _, .nil => rfl
  | _, _, .cons r t => by
    simp only [List.any_cons, eqK_kD]
    rw [RepK.any k t]
theorem RepK.append : ∀ {kvs kws : List (Key × V)} {ds es : List (D × D)}, RepK K G kvs ds → RepK K G kws es → RepK K G (kvs ++ kws) (ds ++ es)
  | _, _, _, _, .nil, s => s
  | _, _, _, _, .cons r t, s => .cons r (RepK.append t s)
theorem RepK.repl (k : Key) {v : V} {d : D} (r : Rep K G v d) : ∀ {kvs : List (Key × V)} {ds : List (D × D)}, RepK K G kvs ds → RepK K G (kvs.map fun p => if p.1 = k then (p.1, v) else p) (ds.map fun p => if eqK p.1 k = true then (p.1, d) else p)
  | _, _, .nil => .nil
  | _, _, @RepK.cons _ _ k' v' kvs d' ds q t => by
    rw [List.map_cons, List.map_cons]
    by_cases e : k' = k
    · rw [if_pos e, if_pos (show eqK (kD k') k = true by rw [eqK_kD, decide_eq_true e])]
      exact .cons r (RepK.repl k r t)
    · rw [if_neg e, if_neg (show ¬ eqK (kD k') k = true by rw [eqK_kD, decide_eq_false e]; exact Bool.false_ne_true)]
      exact .cons q (RepK.repl k r t)
theorem RepK.put (k : Key) {v : V} {d : D} {kvs : List (Key × V)} {ds : List (D × D)} (h : RepK K G kvs ds) (r : Rep K G v d) : RepK K G (putK kvs k v) (putD ds k d) := by
  unfold putK putD
  rw [RepK.any k h]
  split
  · exact RepK.repl k r h
  · exact h.append (.cons r .nil)
end
section
variable {X : Cx} {E : EX} {k : Nat} {a b e o i value : Expr} {pos pos' : Pos}
theorem hu1 (C : Cxt X E k) : X.A.units + 1 < cLine := by have := C.room.un; omega
/-- d[k] -/
def dgetD : D → D → Option D := fun x y => match x with
  | .dict ds => match keyOfD y with
    | some k => valD ds k
    | none => none
  | _ => none
theorem je_dget {fa fb : Env → R D} (C : Cxt X E k) (ha : JB X E a fa) (hb : JB X E b fb) (hs : NoSl b) : JE X E (.Subscript a b pos) (e2 dgetD fa fb) := pe_imp (pe_dget (hu1 C) ha hb hs) fun σ H Q ⟨B, G, ρ, rl, o⟩ =>
  ⟨B, G, ρ, rl, o.bind.imp fun x G1 H1 g1 o1 v rv => ⟨B, G1, ρ, rl.gw g1, o1.bind.imp fun y G2 H2 g2 o2 w rw => by
    unfold dgetD at o2
    split at o2
    · rename_i ds
      cases hk : keyOfD y with
      | none => rw [hk] at o2; exact o2.elim
      | some ky =>
        rw [hk] at o2
        dsimp only at o2
        cases hv : valD ds ky with
        | none => rw [hv] at o2; exact o2.elim
        | some d =>
          rw [hv] at o2
          have ew := key_rb rw hk
          subst ew
          have main : ∀ (p : Addr) (kvs : List (Key × V)), v = .ref p → Rd H2 p (.dK kvs) → RepK X.K G2 kvs ds → ∃ a v', v = .ref a ∧ DGet H2 a (kV ky) (some v') ∧ Q v' H2 := fun p kvs e1 e2 e3 => by
            obtain ⟨v', q1, q2⟩ := (e3.val ky).1 d hv
            exact ⟨p, v', e1, .inl ⟨kvs, ky, e2, rfl, q1.symm⟩, Out.here (k := fun d G' H' => ∀ v, Rep X.K G' v d → Q v H') o2 g2.2.2.1 v' q2⟩
          rcases rv.gw g2 with h | ⟨p, vs, es, e1, e2, _⟩ | ⟨p, kv, es, e1, e2, h1, h2⟩
          · generalize hz : PyData.dict ds = z at h
            cases h with
            | dic h1 h2 => cases hz; exact main _ _ rfl (same_rd g2.2.2.1 h1) h2
            | scr h1 h2 => cases hz; cases ky <;> cases hv
            | non => cases hz
            | bl b => cases hz
            | int i => cases hz
            | str x => cases hz
            | lst h1 h2 => cases hz
            | tup h1 h2 => cases hz
          · cases e2
          · cases e2
            exact main p kv e1 (.inl h1) h2
    · exact o2.elim⟩⟩
/-- x = {} -/
def sDNew (i : Nat) : Env → SR := fun ρ => match ρ[i]? with
  | some (.hold _) => .bad
  | none => .bad
  | _ => .nx (ρ.set i (.dct []))
theorem js_dnew {i : Nat} {x : Str} {p2 : Pos} (hN : X.N.Nodup) (hi : X.N[i]? = some x) (hx : Loc X.env.scope x) (hs : swapsWith (.Dict [] [] p2) (some (.Name x pos')) pos.line X.env = pure false := by rfl) (hf : X.fn x = true ∨ X.env.scope.names.lookup x = some .local := by first | exact .inl rfl | exact .inr rfl | assumption) :
    JS X E (.Assign [.Name x pos'] (.Dict [] [] p2) pos) (sDNew i) := ps_imp (ps_set hN hi hx pe_dnewK hs hf) fun Dn σ H ⟨B, G, ρ, rl, o⟩ p hp => by
  unfold sDNew at o
  have go : fin X.K E B Dn G (.nx (ρ.set i (.dct []))) → gName i (.ref p) σ (upd H p (.dK [])) Dn.nx := fun o => by
    have hG : G p = none := rl.ex.free hp
    exact o _ G _ ((rl.gw (Gw.own rl.ex hp)).setMut i (rl.fresh hp) ⟨p, [], rfl, upd_same, hG, rl.gw0.2.1.free hp, .nil⟩) (Same.refl _)
  split at o
  · exact o.elim
  · exact o.elim
  · exact go o
/-- x[k] = v, x one's own dict -/
def sDPutD (i : Nat) (fk fv : Env → R D) : Env → SR := fun ρ => match ρ[i]? with
  | some (.dct ds) => lift (fv ρ) fun d => lift (fk ρ) fun y => match keyOfD y with
    | some k => if ds.length < LIM then .nx (ρ.set i (.dct (putD ds k d))) else .bad
    | none => .bad
  | _ => .bad
theorem js_dput {i : Nat} {x : Str} {p2 p3 : Pos} {fk fv : Env → R D} (C : Cxt X E k) (hx : PE X (.Name x p2) (tVar i)) (hk : JB X E b fk) (hv : JE X E value fv) (hs : swapsWith value (some (.Subscript (.Name x p2) b p3)) pos.line X.env = pure false := by rfl) :
    JS X E (.Assign [.Subscript (.Name x p2) b p3] value pos) (sDPutD i fk fv) := ps_imp (ps_dput (hu1 C) hx hk hv hs) fun Dn σ H ⟨B, G, ρ, rl, o⟩ => by
  unfold sDPutD at o
  split at o
  · rename_i ds hd
    refine ⟨B, G, ρ, rl, (fin.lift rl o).imp fun d G1 H1 g1 o1 v rv => ?_⟩
    have rl1 := rl.gw g1
    obtain ⟨p, kvs, e1, h1, h2, h3, h4⟩ := rl1.sl i _ hd
    refine ⟨.ref p, e1, B, G1, ρ, rl1, (fin.lift rl1 o1).imp fun y G2 H2 g2 o2 w rw => ?_⟩
    cases hk : keyOfD y with
    | none => rw [hk] at o2; exact o2.elim
    | some ky =>
      rw [hk] at o2
      dsimp only at o2
      split at o2
      · rename_i hl
        have ew := key_rb rw hk
        subst ew
        have k1 := g2.2.1 _ _ h1
        refine ⟨p, _, rfl, .inl ⟨kvs, ky, k1, rfl, by rw [h4.length]; exact lim_lt hl, rfl⟩, ?_⟩
        exact o2 σ G2 _ ((rl1.gw g2).change hd rfl e1 (s' := .dct (putD ds ky d)) ⟨p, putK kvs ky v, rfl, upd_same, g2.2.2.2 _ _ h1 h2, h3, (h4.mono g2.1).put ky (rv.mono g2.1)⟩ rfl) (Same.refl _)
      · exact o2.elim
  · exact o.elim
/-- an own dict is shared from here on -/
def frzD (i : Nat) (ρ : Env) : Env := match ρ[i]? with
  | some (.dct ds) => ρ.set i (.val (.dict ds))
  | _ => ρ
theorem Rel.freezeD {K : PySem.W.Frag} {B : Bs} {G H : Hp} {ρ : Env} {σ : L2.St} (r : Rel K B G H ρ σ) {i : Nat} {xs : List (D × D)} (e : ρ[i]? = some (.dct xs)) : ∃ G', Gw B.G0 B.H0 G' H ∧ Same G G' ∧ Rel K B G' H (ρ.set i (.val (.dict xs))) σ := by
  obtain ⟨p, vs, e1, e2, e3, e4, e5⟩ := r.sl i _ e
  have sh := r.gw0.share e4 e3 e2
  have li : i < ρ.length := (List.getElem?_eq_some_iff.mp e).1
  have old : ∀ (j : Nat) (t : Sl), (ρ.set i (.val (.dict xs)))[j]? = some t → t.mut = true → i ≠ j ∧ ρ[j]? = some t := fun j t ej mj => by
    by_cases hj : i = j
    · subst hj
      rw [List.getElem?_set_self li] at ej
      cases ej; cases mj
    · rw [List.getElem?_set_ne hj] at ej
      exact ⟨hj, ej⟩
  refine ⟨upd G p (.dK vs), sh, same_new e3, sh, by simpa using r.len, fun j t ej => ?_, fun a b t u q hab ea eb mt mu pa => ?_⟩
  · by_cases hj : i = j
    · subst hj
      rw [List.getElem?_set_self li] at ej
      cases ej
      exact ⟨.ref p, e1, .dic (.inl upd_same) (e5.mono (same_new e3))⟩
    · rw [List.getElem?_set_ne hj] at ej
      have hs := r.sl j t ej
      have ne : ∀ q : Addr, t.mut = true → σ[j]? = some (some (.ref q)) → q ≠ p := fun q mq eq z => r.dis i j _ t p hj e ej rfl mq e1 (by rw [eq, z])
      cases t with
      | emp => exact True.intro
      | pin => exact hs
      | exn a => exact hs
      | val d => obtain ⟨v, f0, f1⟩ := hs; exact ⟨v, f0, f1.mono (same_new e3)⟩
      | own ys => obtain ⟨q, ws, f0, f1, f2, f3, f4⟩ := hs; exact ⟨q, ws, f0, f1, by rw [upd_ne (ne q rfl f0)]; exact f2, f3, f4.mono (same_new e3)⟩
      | hold ys => obtain ⟨q, ws, fp, f0, f1, f2, f3, f4⟩ := hs; exact ⟨q, ws, fp, f0, f1, by rw [upd_ne (ne q rfl f0)]; exact f2, f3, f4.mono (same_new e3)⟩
      | dct ys => obtain ⟨q, ws, f0, f1, f2, f3, f4⟩ := hs; exact ⟨q, ws, f0, f1, by rw [upd_ne (ne q rfl f0)]; exact f2, f3, f4.mono (same_new e3)⟩
  · exact r.dis a b t u q hab (old a t ea mt).2 (old b u eb mu).2 mt mu pa
def sFrzD (i : Nat) (f : Env → SR) : Env → SR := fun ρ => f (frzD i ρ)
theorem jss_frzD {sts : List Stmt} {f : Env → SR} (i : Nat) (h : JSs X E sts f) : JSs X E sts (sFrzD i f) := pss_imp h fun Dn σ H ⟨B, G, ρ, rl, o⟩ => by
  unfold sFrzD frzD at o
  split at o
  · rename_i ds hd
    obtain ⟨G', g, s, r'⟩ := rl.freezeD hd
    exact ⟨B, G', _, r', fin.mono s o⟩
  · exact ⟨B, G, ρ, rl, o⟩
/-- x.insert(i, e) -/
def insD (xs : List D) (i : Nat) (d : D) : List D := xs.take i ++ [d] ++ xs.drop i
def sIns (i : Nat) (fj fe : Env → R D) : Env → SR := fun ρ => match ρ[i]? with
  | some (.own xs) => lift (fj ρ) fun y => match y with
    | .int j => lift (fe ρ) fun d => if xs.length < LIM ∧ 0 ≤ j ∧ j < 2 ^ 62 then .nx (ρ.set i (.own (insD xs j.toNat d))) else .bad
    | _ => .bad
  | _ => .bad
theorem js_ins {i : Nat} {x : Str} {fj fe : Env → R D} {p apos cpos : Pos} (hx : PE X (.Name x p) (tVar i)) (hj : JE X E a fj) (h : JE X E e fe) (hbase : attributeBase (.Name x p) "insert" X.env (eval (.Name x p) X.env) = eval (.Name x p) X.env := by rfl)
    (hfew : ((backTo cpos (starEach [a, e] X.env)).all (fun x => !x.1) && (backToKw cpos (keywordEach [] X.env)).all (fun x => x.1.isSome)
      && decide ([a, e].length + ([] : List Keyword).length + (if ([] : List Keyword).isEmpty then 0 else 1) < 30)) = true := by rfl)
    (hline : (apos.endLine == cpos.line) = true := by rfl) (hs : starEach [a, e] X.env = (false, eval a X.env) :: starEach [e] X.env := by rfl) (hs2 : starEach [e] X.env = (false, eval e X.env) :: starEach [] X.env := by rfl) (hplain : (backTo cpos (starEach [e] X.env)).any (·.1) = false := by rfl)
    (hsw : swapsWith (.Call (.Attribute (.Name x p) "insert" apos) [a, e] [] cpos) none pos.line X.env = pure false := by rfl) : JS X E (.Expr (.Call (.Attribute (.Name x p) "insert" apos) [a, e] [] cpos) pos) (sIns i fj fe) :=
  ps_imp (ps_expr (pe_bm PySem.F.plainAttrs_list PySem.F.slot_list_insert PySem.F.type_list_insert mt_insert hx (pa_cons hj (pa_cons h pa_nil hs2) hs) hbase hfew hline hs hplain) hsw) fun D σ H ⟨B, G, ρ, rl, o⟩ => by
  unfold sIns at o
  split at o
  · rename_i xs hx
    obtain ⟨p, vs, e1, h1, h2, h3, h4⟩ := rl.sl i _ hx
    refine ⟨.ref p, e1, .inl ⟨rfl, vs, SqL.of h1⟩, B, G, ρ, rl, (fin.lift rl o).imp fun y G1 H1 g1 o1 w rw => ?_⟩
    split at o1
    · rename_i j
      cases rw
      refine ⟨B, G1, ρ, rl.gw g1, (fin.lift (rl.gw g1) o1).imp fun d G2 H2 g2 o2 v rv => ?_⟩
      have g := g1.trans g2
      split at o2
      · rename_i hc
        have k1 := g.2.1 _ _ h1
        refine ⟨p, vs, j, v, rfl, rfl, k1, by rw [h4.length]; exact lim_lt hc.1, hc.2.1, Int.lt_trans hc.2.2 (by decide), o2 σ G2 _ ((rl.gw g).change hx rfl e1 (s' := .own (insD xs j.toNat d)) ⟨p, vs.take j.toNat ++ [v] ++ vs.drop j.toNat, rfl, upd_same, g.2.2.2 _ _ h1 h2, h3, (((h4.mono g.1).take _).snoc rv).append ((h4.mono g.1).drop _)⟩ rfl) (Same.refl _)⟩
      · exact o2.elim
    · exact o1.elim
  · exact o.elim
end
/-! ### defs as the head tells them -/
abbrev FnP (K : PySem.W.Frag) (x : Str) (st : Stmt) (f : Addr) (fd : FuncData) : Prop := FunD K x x (defArgs st) (defBody st) (defScope st) [] [] f fd
/-- a def of the text stands there -/
structure DefAt (K : PySem.W.Frag) (mg : Str → Option Value) (x : Str) (st : Stmt) (ps : List Str) : Prop where
  ex : ∃ (f : Addr) (fd : FuncData), FnP K x st f fd ∧ mg x = some (.ref f) ∧ Binds K fd ps []
section
variable {P : Program} {w : World} {K : PySem.W.Frag} {mg : Str → Option Value} {base : Heap}
abbrev cxD (P : Program) (w : World) (K : PySem.W.Frag) (mg : Str → Option Value) (base : Heap) (N : List Str) (x : Str) (st : Stmt) (f : Addr) (cdv : Value) (A : Around) (outer : List PySem.Env) (s : Shared) (H : Hp) (EE : XK) : Cx := cxOf (L2.CX P w) P w K mg base N x (defScope st) f cdv A outer s H EE
theorem cxt_of {N : List Str} {x : Str} {st : Stmt} {f : Addr} {cdv : Value} {A : Around} {outer : List PySem.Env} {s : Shared} {H : Hp} {EE : XK} {k : Nat} (nd : N.Nodup) (hr : Room k (A.deeper (envOfC x (defScope st) s.heap.objs.size f cdv))) : Cxt (cxD P w K mg base N x st f cdv A outer s H EE) (exk mg EE) k :=
  ⟨rfl, nd, hr, ⟨EE, passes_call (W := fun cls d _ H => EE cls d H) (takes_of rfl rfl rfl rfl) (fun _ _ _ _ h => h), fun _ _ h => h⟩⟩
theorem cxs_of {N : List Str} {x : Str} {st : Stmt} {f : Addr} {cdv : Value} {A : Around} {outer : List PySem.Env} {s : Shared} {H : Hp} {EE : XK} : Cxs (cxD P w K mg base N x st f cdv A outer s H EE) (exk mg EE) :=
  ⟨passes_of rfl, rfl, rfl, EE, takes_of rfl rfl rfl rfl, fun _ _ h => h⟩
theorem has_fd {x : Str} {st : Stmt} {N ps : List Str} {k : Nat} {fb : Env → SR} (Z : DefAt K mg x st ps) (S : FnScope N ps (defScope st))
    (body : ∀ (f : Addr) (cdv : Value) (A : Around) (outer : List PySem.Env) (s : Shared) (H : Hp) (EE : XK), Cxt (cxD P w K mg base N x st f cdv A outer s H EE) (exk mg EE) k → Cxs (cxD P w K mg base N x st f cdv A outer s H EE) (exk mg EE) →
      JSs (cxD P w K mg base N x st f cdv A outer s H EE) (exk mg EE) (defBody st) fb) : Has P w K mg base (k + 1) x ps.length (runD N.length fb) := by
  obtain ⟨f, fd, F, hm, hb⟩ := Z.ex
  refine ⟨f, fd, ps, hm, F.ok S (fun vs H Q E h => h.1) (fun cdv A outer s H vs Q EE hr h => ?_), F.kp, hb⟩
  obtain ⟨hl, G, ds, s', r, o⟩ := h
  refine ⟨_, body f cdv A outer s H EE (cxt_of S.nd hr) cxs_of, ⟨G, H, fun _ => none⟩, G, startS N.length ds, rel_start s' r, ?_⟩
  unfold runD at o
  cases hf : fb (startS N.length ds) with
  | nx ρ => rw [hf] at o; exact fun σ' G' H' rl _ => o G' H' rl.gw0 _ .non
  | rt d => rw [hf] at o; exact fun v G' H' g rv => o G' H' g v rv
  | rl xs => rw [hf] at o; exact fun p vs G' H' g hp hn hl hr => o _ H' (g.share hp hn hl) (.ref p) (.lst upd_same (hr.mono (same_new hn)))
  | bk ρ => rw [hf] at o; exact o.elim
  | ct ρ => rw [hf] at o; exact o.elim
  | exc c => rw [hf] at o; exact fun G' H' g => o G' H' g
  | bad => rw [hf] at o; exact o.elim
/-- .. whose answer is a new list -/
theorem has_fdL {x : Str} {st : Stmt} {N ps : List Str} {k : Nat} {fb : Env → SR} (Z : DefAt K mg x st ps) (S : FnScope N ps (defScope st))
    (body : ∀ (f : Addr) (cdv : Value) (A : Around) (outer : List PySem.Env) (s : Shared) (H : Hp) (EE : XK), Cxt (cxD P w K mg base N x st f cdv A outer s H EE) (exk mg EE) k → Cxs (cxD P w K mg base N x st f cdv A outer s H EE) (exk mg EE) →
      JSs (cxD P w K mg base N x st f cdv A outer s H EE) (exk mg EE) (defBody st) fb) : HasL P w K mg base (k + 1) x ps.length (runL N.length fb) := by
  obtain ⟨f, fd, F, hm, hb⟩ := Z.ex
  refine ⟨f, fd, ps, hm, F.ok S (fun vs H Q E h => h.1) (fun cdv A outer s H vs Q EE hr h => ?_), F.kp, hb⟩
  obtain ⟨hl, G, ds, s', r, o⟩ := h
  refine ⟨_, body f cdv A outer s H EE (cxt_of S.nd hr) cxs_of, ⟨G, H, fun _ => none⟩, G, startS N.length ds, rel_start s' r, ?_⟩
  unfold runL at o
  cases hf : fb (startS N.length ds) with
  | nx ρ => rw [hf] at o; exact o.elim
  | rt d => rw [hf] at o; exact o.elim
  | rl xs => rw [hf] at o; exact fun p vs G' H' g hp hn hl hr => o G' H' g p vs hp hn hl hr
  | bk ρ => rw [hf] at o; exact o.elim
  | ct ρ => rw [hf] at o; exact o.elim
  | exc c => rw [hf] at o; exact fun G' H' g => o G' H' g
  | bad => rw [hf] at o; exact o.elim
end
end Mp

set_option Elab.async false
set_option linter.all false
set_option maxRecDepth 100000
/-! Mp16: two and three names at once; enumerate, zip over shared lists; short names of the operators. -/
namespace Mp
open PySem L2
section
variable {X : Cx} {E : EX} {k : Nat} {a b c : Expr} {pos p : Pos}
def putS (i : Nat) (d : D) (ρ : Env) : SR := match ρ[i]? with
  | some (.hold _) => .bad
  | none => .bad
  | _ => .nx (ρ.set i (.val d))
def sPar (i j : Nat) (fa : Env → R (List D)) : Env → SR := fun ρ => lift (fa ρ) fun ds => match ds with
  | [d, e] => match putS i d ρ with
    | .nx ρ1 => putS j e ρ1
    | _ => .bad
  | _ => .bad
theorem putS_top {K : PySem.W.Frag} {B : Bs} {G H : Hp} {ρ ρ1 : Env} {σ : L2.St} {i : Nat} {d : D} {v : V} (rl : Rel K B G H ρ σ) (rv : Rep K G v d) (h : putS i d ρ = .nx ρ1) : Rel K B G H ρ1 (σ.set i (some v)) := by
  unfold putS at h
  split at h
  · cases h
  · cases h
  · cases h; exact rl.setVal i rv
theorem js_par {i j : Nat} {x y : Str} {fa : Env → R (List D)} {px py pt : Pos} {kt k2 : Nat} {pt2 : Pos} (C : Cxt X E k) (hi : X.N[i]? = some x) (hj : X.N[j]? = some y) (hij : i ≠ j)
    (hx : X.env.scope.names.lookup x = some .local) (hy : X.env.scope.names.lookup y = some .local) (ha : JAE X E [a, b] fa)
    (hw : swappedStores [.Tuple [.Name x px, .Name y py] kt pt] (.Tuple [a, b] k2 pt2) X.env = pure (some [x, y]))
    (hs : swapsWithSole [.Tuple [.Name x px, .Name y py] kt pt] (.Tuple [a, b] k2 pt2) pos.line X.env = pure false := by rfl) :
    JS X E (.Assign [.Tuple [.Name x px, .Name y py] kt pt] (.Tuple [a, b] k2 pt2) pos) (sPar i j fa) := ps_imp (ps_par C.calm C.nd hi hj hij hx hy ha hw hs) fun Dn σ H ⟨B, G, ρ, rl, o⟩ => ⟨B, G, ρ, rl, (fin.lift rl o).imp fun ds G1 H1 g1 o1 vs rvs => by
  split at o1
  · rename_i d e
    cases rvs with
    | cons r1 t =>
      cases t with
      | cons r2 t =>
        cases t
        have rl1 := rl.gw g1
        cases h1 : putS i d ρ with
        | nx ρ1 =>
          simp only [h1] at o1
          have rl2 := putS_top rl1 r1 h1
          cases h2 : putS j e ρ1 with
          | nx ρ2 =>
            rw [h2] at o1
            exact ⟨_, _, rfl, o1 _ G1 H1 (putS_top rl2 r2 h2) (Same.refl _)⟩
          | _ => unfold putS at h2; split at h2 <;> first | cases h2 | (rw [h2.symm] at o1; exact o1.elim) | skip
                 all_goals (simp [putS, *] at o1; try exact o1.elim)
        | _ => simp only [h1] at o1; exact o1.elim
  · exact o1.elim⟩
def sPar3 (i j l : Nat) (fa : Env → R (List D)) : Env → SR := fun ρ => lift (fa ρ) fun ds => match ds with
  | [d, e, f] => match putS i d ρ with
    | .nx ρ1 => match putS j e ρ1 with
      | .nx ρ2 => putS l f ρ2
      | _ => .bad
    | _ => .bad
  | _ => .bad
theorem putS_cases (i : Nat) (d : D) (ρ : Env) : putS i d ρ = .bad ∨ ∃ ρ1, putS i d ρ = .nx ρ1 := by
  unfold putS
  split
  · exact .inl rfl
  · exact .inl rfl
  · exact .inr ⟨_, rfl⟩
theorem js_par3 {i j l : Nat} {x y z : Str} {fa : Env → R (List D)} {px py pz pt : Pos} {kt k2 : Nat} {pt2 : Pos} (C : Cxt X E k) (hi : X.N[i]? = some x) (hj : X.N[j]? = some y) (hl : X.N[l]? = some z) (hij : i ≠ j) (hil : i ≠ l) (hjl : j ≠ l)
    (hx : X.env.scope.names.lookup x = some .local) (hy : X.env.scope.names.lookup y = some .local) (hz : X.env.scope.names.lookup z = some .local) (ha : JAE X E [a, b, c] fa)
    (hw : swappedStores [.Tuple [.Name x px, .Name y py, .Name z pz] kt pt] (.Tuple [a, b, c] k2 pt2) X.env = pure (some [x, y, z]))
    (hs : swapsWithSole [.Tuple [.Name x px, .Name y py, .Name z pz] kt pt] (.Tuple [a, b, c] k2 pt2) pos.line X.env = pure false := by rfl) :
    JS X E (.Assign [.Tuple [.Name x px, .Name y py, .Name z pz] kt pt] (.Tuple [a, b, c] k2 pt2) pos) (sPar3 i j l fa) := ps_imp (ps_par3 C.calm C.nd hi hj hl hij hil hjl hx hy hz ha hw hs) fun Dn σ H ⟨B, G, ρ, rl, o⟩ => ⟨B, G, ρ, rl, (fin.lift rl o).imp fun ds G1 H1 g1 o1 vs rvs => by
  split at o1
  · rename_i d e f
    obtain ⟨v1, v2, v3, rfl, r1, r2, r3⟩ : ∃ v1 v2 v3, vs = [v1, v2, v3] ∧ Rep X.K G1 v1 d ∧ Rep X.K G1 v2 e ∧ Rep X.K G1 v3 f := by
      cases rvs with
      | cons r1 t =>
        cases t with
        | cons r2 t =>
          cases t with
          | cons r3 t => cases t; exact ⟨_, _, _, rfl, r1, r2, r3⟩
    rcases putS_cases i d ρ with h1 | ⟨ρ1, h1⟩
    · simp only [h1] at o1; exact o1.elim
    · simp only [h1] at o1
      have rl1 := putS_top (rl.gw g1) r1 h1
      rcases putS_cases j e ρ1 with h2 | ⟨ρ2, h2⟩
      · simp only [h2] at o1; exact o1.elim
      · simp only [h2] at o1
        have rl2 := putS_top rl1 r2 h2
        rcases putS_cases l f ρ2 with h3 | ⟨ρ3, h3⟩
        · rw [h3] at o1; exact o1.elim
        · rw [h3] at o1
          exact ⟨_, _, _, rfl, o1 _ G1 H1 (putS_top rl2 r3 h3) (Same.refl _)⟩
  · exact o1.elim⟩
/-! ### enumerate, zip over shared lists -/
variable {elts : List Expr} {kk : Nat} {tpos : Pos}
theorem ji0_enum {fa : Env → R (List D)} (hg : Gl X "enumerate") (hm : X.mg "enumerate" = none) (ha : JAE X E [a] fa) (hs : starEach [a] X.env = [(false, eval a X.env)] := by rfl) :
    JI0 X E (.Tuple elts kk tpos) (.Call (.Name "enumerate" p) [a] [] pos) (iE fa) := pi_imp (pi_enum hg hm ha hs) fun σ H R ⟨B, G, ρ, rl, o⟩ => ⟨B, G, ρ, rl, o.bind.imp fun ds G1 H1 g1 o1 vs rvs => by
    split at o1
    · rename_i ds
      cases rvs with
      | cons r1 t =>
        cases t
        cases r1 with
        | @lst q xs _ h1 h2 =>
        have st : ∀ {G2 H2}, Same G1 G2 → Same G2 H2 → H2 q = some (.lst xs) := fun s2 s3 => s3 _ _ (s2 _ _ h1)
        refine ⟨q, xs, rfl, SqL.of (g1.2.2.1 _ _ h1), Out.here (k := fun ds G' H' => ∀ J, ItOk X.K J ds G' (fun _ => True) → R J H') o1 g1.2.2.1 _ fun i G2 H2 s2 s3 _ => ⟨fun d hd => ?_, fun hi => ⟨xs, SqL.of (st s2 s3), by rw [h2.length]; rw [enums_len] at hi; exact hi⟩⟩⟩
        rw [enums_get] at hd
        cases hz : ds[i]? with
        | none => rw [hz] at hd; cases hd
        | some d' =>
          rw [hz] at hd
          cases hd
          obtain ⟨v, hv, rv⟩ := h2.get hz
          refine ⟨⟨xs, v, SqL.of (st s2 s3), hv⟩, fun x H3 y => ?_⟩
          obtain ⟨T, x', rfl, hT, rfl, y⟩ := y
          have e := y xs (SqL.of (st s2 s3))
          rw [hv] at e
          cases e
          refine ⟨_, Gw.new s3 hT, .tup (SqT.of upd_same) (.cons ?_ (.cons ((rv.mono s2).mono (same_new (s3.free hT))) .nil))⟩
          rw [Nat.zero_add]
          exact .int _
    · exact o1.elim⟩
theorem ji0_zip {fa : Env → R (List D)} (hg : Gl X "zip") (hm : X.mg "zip" = none) (ha : JAE X E [a, b] fa) (hs : starEach [a, b] X.env = (false, eval a X.env) :: starEach [b] X.env := by rfl) (hs2 : (backTo pos (starEach [b] X.env)).any (·.1) = false := by rfl) :
    JI0 X E (.Tuple elts kk tpos) (.Call (.Name "zip" p) [a, b] [] pos) (iZ fa) := pi_imp (pi_zip hg hm ha hs hs2) fun σ H R ⟨B, G, ρ, rl, o⟩ => ⟨B, G, ρ, rl, o.bind.imp fun ds G1 H1 g1 o1 vs rvs => by
    split at o1
    · rename_i ds es
      cases rvs with
      | cons r1 t =>
        cases t with
        | cons r2 t =>
          cases t
          cases r1 with
          | @lst q xs _ h1 h2 =>
          cases r2 with
          | @lst q2 ys _ k1 k2 =>
          have st : ∀ {G2 H2}, Same G1 G2 → Same G2 H2 → H2 q = some (.lst xs) := fun s2 s3 => s3 _ _ (s2 _ _ h1)
          have st2 : ∀ {G2 H2}, Same G1 G2 → Same G2 H2 → H2 q2 = some (.lst ys) := fun s2 s3 => s3 _ _ (s2 _ _ k1)
          refine ⟨q, q2, xs, ys, rfl, SqL.of (g1.2.2.1 _ _ h1), SqL.of (g1.2.2.1 _ _ k1), Out.here (k := fun ds G' H' => ∀ J, ItOk X.K J ds G' (fun _ => True) → R J H') o1 g1.2.2.1 _ fun i G2 H2 s2 s3 _ => ⟨fun d hd => ?_, fun hi => ⟨xs, ys, SqL.of (st s2 s3), SqL.of (st2 s2 s3), by rw [h2.length, k2.length]; rw [zips_len] at hi; omega⟩⟩⟩
          rw [zips_get] at hd
          cases hz : ds[i]? with
          | none => rw [hz] at hd; cases hd
          | some d' =>
            rw [hz] at hd
            cases hz2 : es[i]? with
            | none => rw [hz2] at hd; cases hd
            | some e' =>
              rw [hz2] at hd
              cases hd
              obtain ⟨v, hv, rv⟩ := h2.get hz
              obtain ⟨u, hu, ru⟩ := k2.get hz2
              refine ⟨⟨xs, ys, v, u, SqL.of (st s2 s3), SqL.of (st2 s2 s3), hv, hu⟩, fun x H3 y => ?_⟩
              obtain ⟨T, x', y', rfl, hT, rfl, q1, q2⟩ := y
              have e := q1 xs (SqL.of (st s2 s3))
              rw [hv] at e
              cases e
              have e := q2 ys (SqL.of (st2 s2 s3))
              rw [hu] at e
              cases e
              exact ⟨_, Gw.new s3 hT, .tup (SqT.of upd_same) (.cons ((rv.mono s2).mono (same_new (s3.free hT))) (.cons ((ru.mono s2).mono (same_new (s3.free hT))) .nil))⟩
    · exact o1.elim⟩
/-! ### short names -/
def subD := ii fun i j => some (.int (i - j))
def divD := ii fun i j => if cDiv j then some (.int (i / j)) else none
def modD := ii fun i j => if 0 < j then some (.int (i % j)) else none
def powD := ii fun i j => if cPow i j then some (.int (i ^ j.toNat)) else none
def shlD := ii fun i j => if cPow i j then some (.int (i * 2 ^ j.toNat)) else none
def shrD := ii fun i j => if 0 ≤ j then some (.int (i / 2 ^ j.toNat)) else none
def andD := ii fun i j => some (.int (Builtin.bitAnd i j))
def orD := ii fun i j => some (.int (Builtin.bitOr i j))
def xorD := ii fun i j => some (.int (Builtin.bitXor i j))
def negD := i1 fun i => .int (-i)
def ltD := cmpD (fun i j => decide (i < j)) fun a b => strLt a b
def leD := cmpD (fun i j => decide (i ≤ j)) fun a b => !strLt b a
def gtD := cmpD (fun i j => decide (j < i)) fun a b => strLt b a
def geD := cmpD (fun i j => decide (j ≤ i)) fun a b => !strLt a b
theorem p_sub : Op2 X (binaryOp .Sub) subD := o_sub
theorem p_div : Op2 X (binaryOp .FloorDiv) divD := o_div
theorem p_mod : Op2 X (binaryOp .Mod) modD := o_mod
theorem p_pow : Op2 X (binaryOp .Pow) powD := o_pow
theorem p_shl : Op2 X (binaryOp .LShift) shlD := o_shl
theorem p_shr : Op2 X (binaryOp .RShift) shrD := o_shr
theorem p_and : Op2 X (binaryOp .BitAnd) andD := o_and
theorem p_or : Op2 X (binaryOp .BitOr) orD := o_or
theorem p_xor : Op2 X (binaryOp .BitXor) xorD := o_xor
theorem p_lt : Op2 X (compareOp .Lt) ltD := o_lt
theorem p_le : Op2 X (compareOp .LtE) leD := o_le
theorem p_gt : Op2 X (compareOp .Gt) gtD := o_gt
theorem p_ge : Op2 X (compareOp .GtE) geD := o_ge
theorem jp_neg {fa : Env → R D} (ha : JB X E a fa) : JE X E (.UnaryOp .USub a pos) (e1 negD fa) := je_neg ha
end
end Mp

set_option Elab.async false
set_option linter.all false
set_option maxRecDepth 100000
/-! Mp17: words for what gen.py prints. -/
namespace Mp
open PySem PySem.Spec PyProof.Rows L2
theorem bt_range : bootBuiltins "range" = some (.type "range") := by decide +kernel
theorem bt_len : bootBuiltins "len" = some (.builtin "len") := by decide +kernel
theorem bt_sum : bootBuiltins "sum" = some (.builtin "sum") := by decide +kernel
theorem bt_all : bootBuiltins "all" = some (.builtin "all") := by decide +kernel
theorem bt_any : bootBuiltins "any" = some (.builtin "any") := by decide +kernel
theorem bt_abs : bootBuiltins "abs" = some (.builtin "abs") := by decide +kernel
theorem bt_min : bootBuiltins "min" = some (.builtin "min") := by decide +kernel
theorem bt_max : bootBuiltins "max" = some (.builtin "max") := by decide +kernel
theorem bt_sorted : bootBuiltins "sorted" = some (.builtin "sorted") := by decide +kernel
theorem bt_int : bootBuiltins "int" = some (.type "int") := by decide +kernel
theorem bt_str : bootBuiltins "str" = some (.type "str") := by decide +kernel
theorem bt_list : bootBuiltins "list" = some (.type "list") := by decide +kernel
theorem bt_tuple : bootBuiltins "tuple" = some (.type "tuple") := by decide +kernel
theorem bt_dict : bootBuiltins "dict" = some (.type "dict") := by decide +kernel
theorem bt_bool : bootBuiltins "bool" = some (.type "bool") := by decide +kernel
section
variable {X : Cx} {E : EX} {k : Nat} {pos p : Pos} {elt tg iter : Expr} {ifs : List Expr} {scope : Scope} {own : List (Str × Nat)} {fi : Env → R (List D)} {t : D → Env → R Env} {ws : List Nat} {ft : Env → R Bool} {fe : Env → R D} {i : Nat} {y : Str} {py spos : Pos}
theorem jf_lcC (own : List (Str × Nat)) (C : Cxt X E k) (hi : JI X E tg iter fi) (ok : BlkOk X.N X.env.scope scope own)
    (hg : ∀ s H Ca cl fp, Cxt (X.blk s H scope (compEnvC scope cl Ca X.env) fp) FX k → JG (X.blk s H scope (compEnvC scope cl Ca X.env) fp) tg t ws) (ht : ∀ s H Ca cl fp, Cxt (X.blk s H scope (compEnvC scope cl Ca X.env) fp) FX k → JTs (X.blk s H scope (compEnvC scope cl Ca X.env) fp) FX ifs ft)
    (he : ∀ s H Ca cl fp, Cxt (X.blk s H scope (compEnvC scope cl Ca X.env) fp) FX k → JE (X.blk s H scope (compEnvC scope cl Ca X.env) fp) FX elt fe) (hw : ∀ j ∈ ws, j ∈ own.map (·.2)) (hs : ∀ x, foldedSetIterable iter X.env x = pure x := by intro _; rfl) :
    JF X E (.ListComp elt [⟨tg, iter, ifs, 0⟩] scope pos) (lLc (own.map (·.2)) t ft fe fi) :=
  jf_lc C hi ok (fun s H Ca cl fp => hg s H Ca cl fp (C.blk s H _ _ fp)) (fun s H Ca cl fp => ht s H Ca cl fp (C.blk s H _ _ fp)) (fun s H Ca cl fp => he s H Ca cl fp (C.blk s H _ _ fp)) hw hs
theorem js_lcC (own : List (Str × Nat)) (C : Cxt X E k) (hy : X.N[i]? = some y) (hyl : X.env.scope.names.lookup y = some .local) (hsw : swapsWith (.ListComp elt [⟨tg, iter, ifs, 0⟩] scope pos) (some (.Name y py)) spos.line X.env = pure true) (hi : JI X E tg iter fi) (ok : BlkOk X.N X.env.scope scope own)
    (hg : ∀ s H Ca cl fp, Cxt (X.blk s H scope (compEnvC scope cl Ca X.env) fp) FX k → JG (X.blk s H scope (compEnvC scope cl Ca X.env) fp) tg t ws) (ht : ∀ s H Ca cl fp, Cxt (X.blk s H scope (compEnvC scope cl Ca X.env) fp) FX k → JTs (X.blk s H scope (compEnvC scope cl Ca X.env) fp) FX ifs ft)
    (he : ∀ s H Ca cl fp, Cxt (X.blk s H scope (compEnvC scope cl Ca X.env) fp) FX k → JE (X.blk s H scope (compEnvC scope cl Ca X.env) fp) FX elt fe) (hw : ∀ j ∈ ws, j ∈ own.map (·.2)) (hs : ∀ x, foldedSetIterable iter X.env x = pure x := by intro _; rfl) :
    JS X E (.Assign [.Name y py] (.ListComp elt [⟨tg, iter, ifs, 0⟩] scope pos) spos) (sSet i (eL (lLc (own.map (·.2)) t ft fe fi))) :=
  js_lc C hy hyl hsw hi ok (fun s H Ca cl fp => hg s H Ca cl fp (C.blk s H _ _ fp)) (fun s H Ca cl fp => ht s H Ca cl fp (C.blk s H _ _ fp)) (fun s H Ca cl fp => he s H Ca cl fp (C.blk s H _ _ fp)) hw hs
theorem js_lcLC (own : List (Str × Nat)) (C : Cxt X E k) (hy : X.N[i]? = some y) (hyl : X.env.scope.names.lookup y = some .local) (hsw : swapsWith (.ListComp elt [⟨tg, iter, ifs, 0⟩] scope pos) (some (.Name y py)) spos.line X.env = pure true) (hi : JI X E tg iter fi) (ok : BlkOk X.N X.env.scope scope own)
    (hg : ∀ s H Ca cl fp, Cxt (X.blk s H scope (compEnvC scope cl Ca X.env) fp) FX k → JG (X.blk s H scope (compEnvC scope cl Ca X.env) fp) tg t ws) (ht : ∀ s H Ca cl fp, Cxt (X.blk s H scope (compEnvC scope cl Ca X.env) fp) FX k → JTs (X.blk s H scope (compEnvC scope cl Ca X.env) fp) FX ifs ft)
    (he : ∀ s H Ca cl fp, Cxt (X.blk s H scope (compEnvC scope cl Ca X.env) fp) FX k → JE (X.blk s H scope (compEnvC scope cl Ca X.env) fp) FX elt fe) (hw : ∀ j ∈ ws, j ∈ own.map (·.2)) (hs : ∀ x, foldedSetIterable iter X.env x = pure x := by intro _; rfl) :
    JS X E (.Assign [.Name y py] (.ListComp elt [⟨tg, iter, ifs, 0⟩] scope pos) spos) (sSetL i (lLc (own.map (·.2)) t ft fe fi)) :=
  js_lcL C hy hyl hsw hi ok (fun s H Ca cl fp => hg s H Ca cl fp (C.blk s H _ _ fp)) (fun s H Ca cl fp => ht s H Ca cl fp (C.blk s H _ _ fp)) (fun s H Ca cl fp => he s H Ca cl fp (C.blk s H _ _ fp)) hw hs
/-! raising elements -/
theorem js_lcxC (own : List (Str × Nat)) (C : Cxt X E k) (S : Cxs X E) (hy : X.N[i]? = some y) (hyl : X.env.scope.names.lookup y = some .local) (hsw : swapsWith (.ListComp elt [⟨tg, iter, ifs, 0⟩] scope pos) (some (.Name y py)) spos.line X.env = pure true) (hi : JI X E tg iter fi) (ok : BlkOk X.N X.env.scope scope own)
    (hg : ∀ s H Ca cl fp xe, Cxt (bx X s H scope (compEnvC scope cl Ca X.env) fp xe) FX k → JG (bx X s H scope (compEnvC scope cl Ca X.env) fp xe) tg t ws) (ht : ∀ s H Ca cl fp xe, Cxt (bx X s H scope (compEnvC scope cl Ca X.env) fp xe) FX k → JTs (bx X s H scope (compEnvC scope cl Ca X.env) fp xe) FX ifs ft)
    (he : ∀ s H Ca cl fp xe, Cxt (bx X s H scope (compEnvC scope cl Ca X.env) fp xe) E k → JE (bx X s H scope (compEnvC scope cl Ca X.env) fp xe) E elt fe) (hw : ∀ j ∈ ws, j ∈ own.map (·.2)) (hs : ∀ x, foldedSetIterable iter X.env x = pure x := by intro _; rfl) :
    JS X E (.Assign [.Name y py] (.ListComp elt [⟨tg, iter, ifs, 0⟩] scope pos) spos) (sSet i (eL (lLx (own.map (·.2)) t ft fe fi))) :=
  js_lcx C S hy hyl hsw hi ok (fun s H Ca cl fp xe => hg s H Ca cl fp xe ⟨C.calm, C.nd, C.room, ⟨E0, passL, fun _ _ h => h.elim⟩⟩) (fun s H Ca cl fp xe => ht s H Ca cl fp xe ⟨C.calm, C.nd, C.room, ⟨E0, passL, fun _ _ h => h.elim⟩⟩) he hw hs
/-! list(range(..)) -/
def lRg1 (fa : Env → R D) : Env → R (List D) := fun ρ => (fa ρ).bind fun
  | .int n => if -(2 ^ 62) ≤ n ∧ n ≤ 100000 then .ok (rng 0 n.toNat) else .bad
  | _ => .bad
theorem rg_rep {K : PySem.W.Frag} {G : Hp} (a b : Int) : RepL K G (rgV a b) (rng a (b - a).toNat) := by
  unfold rgV rng
  generalize List.range (b - a).toNat = l
  induction l with
  | nil => exact .nil
  | cons x l ih => exact .cons (.int _) ih
theorem jf_listR1 {a : Expr} {p2 pos2 : Pos} {fa : Env → R D} (C : Cxt X E k) (hg : Gl X "list") (hm : X.mg "list" = none) (hg2 : Gl X "range") (hm2 : X.mg "range" = none) (ha : JB X E a fa)
    (na : starEach [a] X.env = (false, eval a X.env) :: starEach [] X.env := by rfl) (nb : starEach [.Call (.Name "range" p2) [a] [] pos2] X.env = (false, eval (.Call (.Name "range" p2) [a] [] pos2) X.env) :: starEach [] X.env := by rfl) :
    JF X E (.Call (.Name "list" p) [.Call (.Name "range" p2) [a] [] pos2] [] pos) (lRg1 fa) := pe_imp (pe_listRg C.calm hg hm (prg_1 hg2 hm2 ha na) nb) fun σ H Q ⟨B, G, ρ, rl, o⟩ => ⟨B, G, ρ, rl, o.bind.imp fun d G1 H1 g1 o1 v rv => by
  split at o1
  · rename_i n
    split at o1
    · rename_i hc
      refine ⟨n, rv.int, ⟨by omega, by omega, by omega, by omega, by omega⟩, fun q hq => ?_⟩
      have r := rg_rep (K := X.K) (G := G1) 0 n
      rw [Int.sub_zero] at r
      exact o1 G1 _ (Gw.own g1.2.2.1 hq) q _ (g1.2.1.free hq) (g1.2.2.1.free hq) upd_same r
    · exact o1.elim
  · exact o1.elim⟩
end
end Mp

set_option Elab.async false
set_option linter.all false
set_option maxRecDepth 100000
/-! Mp18: try with several clauses, each with the same name behind as. -/
namespace Mp
open PySem PySem.Spec PyProof.Rows L2
abbrev ClT : Type := Value × (Addr → Value → Option Addr → TS)
/-- the ends of a suite, the name gone -/
def goneE (i : Nat) (Dn : Ends) : Ends := { nx := fun σ H => Dn.nx (σ.set i none) H, rt := Dn.rt, bk := fun σ H => Dn.bk (σ.set i none) H, ct := fun σ H => Dn.ct (σ.set i none) H }
def wNamed (K : PySem.W.Frag) (i : Nat) (Wout : WX) (Dn : Ends) : List ClT → WX
  | [] => Wout
  | (c, ts) :: r => fun cls d σ H => ∃ b, PySem.W.exmOne K cls c = some b ∧ (b = true → ∀ a, H a = none → ts a cls d (goneE i Dn) (σ.set i (some (.ref a))) H) ∧ (b = false → wNamed K i Wout Dn r cls d σ H)
inductive HdsN (X : Cx) (n : Str) : List ExceptHandler → List ClT → Prop
  | nil : HdsN X n [] []
  | cons {x : Str} {c : Value} {ts : Addr → Value → Option Addr → TS} {b₀ : Stmt} {suite : List Stmt} {np pos' : Pos} {hds : List ExceptHandler} {l : List ClT} : Names X x c →
      (∀ (a : Addr) (oe : Obj) (cls : Value) (d : Option Addr) (pn : List (Addr × Obj)), Zc cls d oe → (∃ vs, oe.data = .fields vs) → PSs (X.suite a ((a, oe) :: pn)) (b₀ :: suite) (ts a cls d)) → HdsN X n hds l →
      HdsN X n (.ExceptHandler (some (.Name x np)) (some n) (b₀ :: suite) pos' :: hds) ((c, ts) :: l)
section
variable {X : Cx} {body : List Stmt} {h₀ : ExceptHandler} {hds : List ExceptHandler} {l : List ClT} {pos : Pos} {tb : WX → TS} {Wout : WX} {i : Nat} {n : Str}
theorem ps_try_named (hst : X.stack = X.env :: X.outer) (hfr : X.env.frame = some X.env.locals) (hN : X.N.Nodup) (hi : X.N[i]? = some n) (hln : X.env.kindOf n = some .local) (tk : Takes X Wout)
    (hb : ∀ (W : WX) (pn : List (Addr × Obj)) (xe : Value → Shared → Prop), Takes (X.tr pn xe) W → PassesOwn (model X.prog X.w) X.A X.env xe → PSs (X.tr pn xe) body (tb W)) (hh : HdsN X n (h₀ :: hds) l) :
    PS X (.Try body (h₀ :: hds) [] [] pos) (fun Dn σ H => tb (wNamed X.K i Wout Dn l) Dn σ H) := by
  refine ⟨fun pins s σ H Dn I h => ?_⟩
  have ok := I.ok
  have fr2 : X.A.frames = some (X.env :: X.outer) := by rw [ok.frames, hst]
  refine wpAny_Try_except (wpAny_mono ((hb (wNamed X.K i Wout Dn l) (X.pn ++ pins) (fun e s₁ => wpAny (model X.prog X.w) X.A (noteFrame e X.env) (fun _ s₂ => wpAny (model X.prog X.w) X.A (setFlight e none) (fun _ s₃ => wpAny (model X.prog X.w) X.A (handleBy e X.env (h₀ :: hds)) (SP X pins Dn) X.xe s₃) X.xe s₂) X.xe s₁) (fun u s' xx => ?_) PassesOwn.looking).run [] s σ H Dn (I.toTry _) h) (fun f s1 q1 => ?_) (fun e s1 he => he))
  · obtain ⟨a, B, sI, pins', σ', H', cls, d, rfl, J', nb, up, sky, na, os, ag, w⟩ := xx
    have J : Inv X pins σ' H' sI := J'.ofTry ok
    rw [show (X.tr (X.pn ++ pins) (fun e s₁ => wpAny (model X.prog X.w) X.A (noteFrame e X.env) (fun _ s₂ => wpAny (model X.prog X.w) X.A (setFlight e none) (fun _ s₃ => wpAny (model X.prog X.w) X.A (handleBy e X.env (h₀ :: hds)) (SP X pins Dn) X.xe s₃) X.xe s₂) X.xe s₁)).stack = X.env :: X.outer from hst] at sky
    show wpAny (model X.prog X.w) X.A (noteFrame (.ref a) X.env) _ _ _
    refine Sky.land Zc.steady fr2 hfr sky fun h3 fl3 up3 => ?_
    have J3 : Inv X pins σ' H' { s' with heap := h3 } := J.landed nb fl3.1 (up.trans up3) os ag
    obtain ⟨oe3, vs3, he3, hz3, hd3⟩ := fl3.there
    have out : a ∉ frs (X.env :: X.outer) := fun hm => by
      obtain ⟨_, o', e', hnf⟩ := fl3.2.2.1.mem hm
      rw [he3] at e'
      cases e'
      exact hnf _ hd3
    have nL : a ≠ X.env.locals := fun z => out (List.mem_filterMap.mpr ⟨X.env, List.mem_cons_self, by rw [hfr, z]⟩)
    have nF : a ∉ X.fs := fun hm => by
      obtain ⟨e, he, q⟩ := List.mem_filterMap.mp hm
      exact out (List.mem_filterMap.mpr ⟨e, List.mem_cons_of_mem _ he, q⟩)
    have S3 := J3.suite he3 hd3 na nL nF
    have LT : PySem.W.Looks (model X.prog X.w) h3 (typeOf (.ref a)) cls := fun _ _ _ _ k q => wpAny_typeOf_ref (k _ _ he3) (by rw [hz3.1]; exact q)
    suffices go : ∀ {hs2 : List ExceptHandler} {l2 : List ClT}, HdsN X n hs2 l2 → wNamed X.K i Wout Dn l2 cls d σ' H' → wpAny (model X.prog X.w) X.A (handleBy (.ref a) X.env hs2) (SP X pins Dn) X.xe { s' with heap := h3 } from go hh w
    intro hs2 l2 hk
    induction hk with
    | nil =>
      intro w
      refine wpAny_handleBy_nil ?_
      obtain ⟨k1, k2, k3, oe, vs, T, oT, ts', he, hz, hd, h1, hr⟩ := id fl3
      unfold PySem.passOn
      refine wpAny_bind (wpAny_field he hd h1 ?_)
      rw [if_neg (by simp)]
      have last : wpAny (model X.prog X.w) X.A (setFlight (.ref a) X.env.frame) (fun _ s4 => wpAny (model X.prog X.w) X.A (throw (.ref a) : Sem Flow) (SP X pins Dn) X.xe s4) X.xe { s' with heap := h3 } := by
        rw [hfr]
        exact HandSPX.setFlight_upZ fl3 fun h4 hh4 up4 => wpAny_throw (tk _ _ ⟨a, B, sI, pins, σ', H', cls, d, rfl, J, nb, (up.trans up3).trans up4, .inr (.inr (by rw [hst]; exact hh4)), na, os, ag, w⟩)
      first | exact wpAny_bind (wpAny_pure (wpAny_bind last)) | exact wpAny_bind last
    | @cons x c ts b₀ suite np pos' hds2 l2 hc hsu r ih =>
      rintro ⟨b, hb1, hyes, hno⟩
      refine wpAny_handleBy_cons (codeAny_handlers_test ?_) (by intro q; cases q)
      have LM := PySem.W.exm_one (M := model X.prog X.w) (J3.kIn) LT hb1
      have asks : ∀ {Q : Value → Shared → Prop} {E : Value → Shared → Prop}, Q c { s' with heap := h3 } → wpAny (model X.prog X.w) (X.A.mark (some (.ref a))) (eval (.Name x np) X.env) Q E { s' with heap := h3 } := fun {Q E} q => by
        obtain ⟨hg, hdbg, hm | ⟨hm, hv, hnn⟩⟩ := hc
        · exact ld_glob (X := X.suite a ((a, oe3) :: (X.pn ++ pins))) S3 hg hm q hdbg
        · exact ld_blt (X := X.suite a ((a, oe3) :: (X.pn ++ pins))) S3 hg hm hv q hnn hdbg
      refine asks (LM.here ?_)
      cases b with
      | false => exact (ih (hno rfl) : wpAny _ X.A (handleBy (.ref a) X.env hds2) _ _ _)
      | true =>
        refine codeAny_handlers_suite_as (HandSPX.lands_againZ fl3 fun h4 fl4 up4 => ?_)
        have J4 : Inv X pins σ' H' { s' with heap := h4 } := J.landed nb fl4.1 ((up.trans up3).trans up4) os ag
        obtain ⟨oe4, vs4, he4, hz4, hd4⟩ := fl4.there
        have S4 := J4.suite he4 hd4 na nL nF
        refine store_ok (X := X.suite a ((a, oe4) :: (X.pn ++ pins))) (v := .ref a) S4 hN hi (.inl hln) rfl (fun s5 S5 => wpAny_mono ((hsu a oe4 cls d (X.pn ++ pins) hz4 ⟨_, hd4⟩).run [] s5 _ H' _ S5 (hyes rfl a na)) (fun f s6 q6 => ?_) (fun _ _ z => False.elim z)) (.inr hln)
        have back : ∀ {σ6 : L2.St} {H6 : Hp} {Q : Shared → Prop}, Inv (X.suite a ((a, oe4) :: (X.pn ++ pins))) [] σ6 H6 s6 → (∀ s7, Inv X pins (σ6.set i none) H6 s7 → Q s7) →
            wpAny (model X.prog X.w) X.A (do bindName X.env n .none; unbindBehindTheSuite X.env n pos') (fun _ s7 => Q s7) X.xe s6 := fun {_ _ _} S6 hq => gone_ok (S6.unsuite ok) hN hi hln hq
        cases f with
        | ret u =>
          obtain ⟨v6, σ6, H6, S6, r6, q7⟩ := q6
          exact back S6 fun s7 J7 => ⟨_, _, _, J7, r6, q7⟩
        | next =>
          obtain ⟨σ6, H6, S6, q7⟩ := q6
          exact back S6 fun s7 J7 => ⟨_, _, J7, q7⟩
        | brk =>
          obtain ⟨σ6, H6, S6, q7⟩ := q6
          exact back S6 fun s7 J7 => ⟨_, _, J7, q7⟩
        | cont =>
          obtain ⟨σ6, H6, S6, q7⟩ := q6
          exact back S6 fun s7 J7 => ⟨_, _, J7, q7⟩
  · cases f with
    | ret u =>
      obtain ⟨v, σ', H', J', r, q⟩ := q1
      exact ⟨v, σ', H', J'.ofTry ok, r, q⟩
    | next =>
      obtain ⟨σ', H', J', q⟩ := q1
      exact wpAny_execs_nil ⟨σ', H', J'.ofTry ok, q⟩
    | brk =>
      obtain ⟨σ', H', J', q⟩ := q1
      exact ⟨σ', H', J'.ofTry ok, q⟩
    | cont =>
      obtain ⟨σ', H', J', q⟩ := q1
      exact ⟨σ', H', J'.ofTry ok, q⟩
end
/-! ### an expression about the exception in slot i -/
def gC (i : Nat) (a : Addr) (v : V) : TE := fun σ H Q => σ[i]? = some (some (.ref a)) ∧ Q v H
section
variable {X : Cx} {e b c : Expr} {rest es : List Expr} {pos p p2 p3 : Pos} {i : Nat} {a : Addr} {v w : V} {x n : Str} {k : Bool}
theorem pg_int (h : PE X e (gC i a (.bl k))) (hg : Gl X "int") (hm : X.mg "int" = none) (he : starEach [e] X.env = (false, eval e X.env) :: starEach [] X.env := by rfl) (hpl : (backTo pos (starEach [] X.env)).any (·.1) = false := by rfl) :
    PE X (.Call (.Name "int" p) [e] [] pos) (gC i a (.int (if k then 1 else 0))) := pe_imp (pe_callTy call_int1 hg hm bt_int (pa_cons h pa_nil he) (by decide) (by decide) he hpl) fun σ H Q ⟨h1, h2⟩ => ⟨h1, .inr ⟨k, rfl, h2⟩⟩
theorem pg_mul {s0 : Str} {m : Int} {j : Nat} (h : PE X e (gC i a (.int m))) (hc : mulOk s0 m) : PE X (.BinOp (.Constant (.str s0) j p) .Mult e pos) (gC i a (.str (Txt.mul s0 m))) := pe_imp (pe_op op_mulS pe_str h) fun σ H Q ⟨h1, h2⟩ => ⟨h1, s0, m, rfl, rfl, hc, h2⟩
theorem pg_not (h : PE X e (gC i a (.bl k))) : PE X (.UnaryOp .Not e pos) (gC i a (.bl (!k))) := pe_imp (pe_not h) fun σ H Q ⟨h1, h2⟩ => ⟨h1, k, rfl, h2⟩
theorem pg_one {op : BoolOp} (h : PE X e (gC i a v)) : PE X (.BoolOp op [e] pos) (gC i a v) := pe_one h
theorem pg_and (h : PE X e (gC i a (.bl true))) (h2 : PE X (.BoolOp .And (b :: rest) pos) (gC i a v)) : PE X (.BoolOp .And (e :: b :: rest) pos) (gC i a v) := pe_imp (pe_and h h2) fun σ H Q ⟨h1, h2⟩ => ⟨h1, true, rfl, h1, h2⟩
end
section
variable {X : Cx} {e b c : Expr} {pos p p2 p3 : Pos} {i : Nat} {a D0 : Addr} {oe : Obj} {pn : List (Addr × Obj)} {x n : Str} {k : Bool}
/-- isinstance(e, own class) -/
theorem pg_isC {R0 : Addr} (C : ExcC X.K D0) (hz : Zc (.ref D0) none oe) (hf : ∃ vs, oe.data = .fields vs) (hg : Gl X "isinstance") (hm : X.mg "isinstance" = none) (hx : Gl X x) (hmx : X.mg x = some (.ref R0)) (hk : PySem.W.kitOne X.K (.ref D0) (.ref R0) = some k)
    (hn : PE (X.suite a ((a, oe) :: pn)) (.Name n p2) (tVar i)) (hd : (x == ("__debug__" : Str)) = false := by decide)
    (he : starEach [.Name n p2, .Name x p3] X.env = (false, eval (.Name n p2) X.env) :: starEach [.Name x p3] X.env := by rfl) (he2 : starEach [.Name x p3] X.env = (false, eval (.Name x p3) X.env) :: starEach [] X.env := by rfl) (hpl : (backTo pos (starEach [.Name x p3] X.env)).any (·.1) = false := by rfl) :
    PE (X.suite a ((a, oe) :: pn)) (.Call (.Name "isinstance" p) [.Name n p2, .Name x p3] [] pos) (gC i a (.bl k)) :=
  pe_imp (pe_callB (X := X.suite a ((a, oe) :: pn)) (call_isE C hz hf) hg hm (by decide +kernel) (pa_cons hn (pa_cons (pe_glob hx hmx (v := .ref R0) rfl hd) pa_nil he2) he) (by decide) (by decide) he hpl) fun σ H Q ⟨h1, h2⟩ => ⟨.ref a, h1, .ref R0, .ref R0, k, rfl, fun u r => r, hk, h2⟩
/-- isinstance(e, ValueError) -/
theorem pg_isT {T : String} (C : ExcC X.K D0) (hz : Zc (.ref D0) none oe) (hf : ∃ vs, oe.data = .fields vs) (hg : Gl X "isinstance") (hm : X.mg "isinstance" = none) (hx : Gl X x) (hmx : X.mg x = none) (hv : bootBuiltins x = some (.type T)) (hk : PySem.W.kitOne X.K (.ref D0) (.type T) = some k)
    (hn : PE (X.suite a ((a, oe) :: pn)) (.Name n p2) (tVar i)) (hnn : x ≠ "__name__" := by decide) (hd : (x == ("__debug__" : Str)) = false := by decide)
    (he : starEach [.Name n p2, .Name x p3] X.env = (false, eval (.Name n p2) X.env) :: starEach [.Name x p3] X.env := by rfl) (he2 : starEach [.Name x p3] X.env = (false, eval (.Name x p3) X.env) :: starEach [] X.env := by rfl) (hpl : (backTo pos (starEach [.Name x p3] X.env)).any (·.1) = false := by rfl) :
    PE (X.suite a ((a, oe) :: pn)) (.Call (.Name "isinstance" p) [.Name n p2, .Name x p3] [] pos) (gC i a (.bl k)) :=
  pe_imp (pe_callB (X := X.suite a ((a, oe) :: pn)) (call_isE C hz hf) hg hm (by decide +kernel) (pa_cons hn (pa_cons (pe_bltn (v := .ty T) hx hmx hv rfl hnn hd) pa_nil he2) he) (by decide) (by decide) he hpl) fun σ H Q ⟨h1, h2⟩ => ⟨.ref a, h1, .ty T, .type T, k, rfl, fun u r => r, hk, h2⟩
end
/-! ### the rule: a body that may raise, suites that return -/
/-- a suite about an exception of the class at D0 -/
def tRt (i : Nat) (D0 : Addr) (v : V) : Addr → Value → Option Addr → TS := fun a cls d Dn σ H => cls = .ref D0 ∧ d = none ∧ σ[i]? = some (some (.ref a)) ∧ Dn.rt v H
theorem pss_rt {X : Cx} {i : Nat} {D0 : Addr} {v : V} {a : Addr} {oe : Obj} {cls : Value} {d : Option Addr} {pn : List (Addr × Obj)} {e : Expr} {pos : Pos} (h : cls = .ref D0 → d = none → PE (X.suite a ((a, oe) :: pn)) e (gC i a v)) : PSs (X.suite a ((a, oe) :: pn)) [.Return (some e) pos] (tRt i D0 v a cls d) :=
  ⟨fun pins s σ H Dn I ⟨h1, h2, h3, h4⟩ => (pss_one (ps_ret (h h1 h2))).run pins s σ H Dn I ⟨h3, h4⟩⟩
def sTryR (fb : Env → SR) (ans : Str → Option D) : Env → SR := fun ρ => match fb ρ with
  | .exc c => match ans c with
    | some d => .rt d
    | none => .bad
  | r => r
section
variable {X : Cx} {E : EX} {k : Nat} {body : List Stmt} {h₀ : ExceptHandler} {hds : List ExceptHandler} {l : List ClT} {pos : Pos} {i : Nat} {n : Str} {fb : Env → SR} {ans : Str → Option D}
theorem js_tryR (C : Cxt X E k) (S : Cxs X E) (hi : X.N[i]? = some n) (hln : X.env.kindOf n = some .local) (hh : HdsN X n (h₀ :: hds) l)
    (hb : ∀ (EE : XK) (pn : List (Addr × Obj)) (xe : Value → Shared → Prop), Cxt (X.tr pn xe) (exk X.mg EE) k → Cxs (X.tr pn xe) (exk X.mg EE) → JSs (X.tr pn xe) (exk X.mg EE) body fb)
    (hans : ∀ c d, ans c = some d → ∀ C0, X.mg c = some (.ref C0) → ∃ v : V, (∀ G, Rep X.K G v d) ∧ ∀ (Wout : WX) (Dn : Ends) (σ : L2.St) (H : Hp), σ.length = X.N.length → Dn.rt v H → wNamed X.K i Wout Dn l (.ref C0) none σ H)
    (hdef : ∀ c d, ans c = some d → ∃ C0, X.mg c = some (.ref C0)) : JS X E (.Try body (h₀ :: hds) [] [] pos) (sTryR fb ans) := by
  obtain ⟨EE, tk, hE⟩ := S.tk
  let EW : WX → XK := fun W cls d H => ∀ σ : L2.St, σ.length = X.N.length → W cls d σ H
  have base := ps_try_named (tb := fun W => rdS X.K (exk X.mg (EW W)) fb) (Wout := fun cls d _ H => EE cls d H) (pos := pos) S.stk S.frm C.nd hi hln tk (fun W pn xe tkW po => by
    have tw : Takes (X.tr pn xe) (fun cls d _ H => EW W cls d H) := fun u s' ⟨a, B, sI, ps, σ, H, cls, d, e, I, nb, up, sky, na, os, ag, w⟩ => tkW u s' ⟨a, B, sI, ps, σ, H, cls, d, e, I, nb, up, sky, na, os, ag, w σ I.len⟩
    exact hb (EW W) pn xe ⟨C.calm, C.nd, C.room, ⟨EW W, passes_call tw fun _ _ _ _ h => h, fun _ _ h => h⟩⟩ ⟨po, S.stk, S.frm, EW W, tw, fun _ _ h => h⟩) hh
  refine ps_imp base fun Dn σ H ⟨B, G, ρ, rl, o⟩ => ⟨B, G, ρ, rl, ?_⟩
  unfold sTryR at o
  cases hf : fb ρ with
  | exc c =>
    rw [hf] at o
    dsimp only at o
    cases ha : ans c with
    | none => rw [ha] at o; exact o.elim
    | some d =>
      rw [ha] at o
      intro G' H' gw C0 hC σ2 hl
      obtain ⟨v, h1, h2⟩ := hans c d ha C0 hC
      exact h2 _ Dn σ2 H' hl (o v G' H' gw (h1 G'))
  | nx ρ' => rw [hf] at o; exact o
  | rt d => rw [hf] at o; exact o
  | rl xs => rw [hf] at o; exact o
  | bk ρ' => rw [hf] at o; exact o
  | ct ρ' => rw [hf] at o; exact o
  | bad => rw [hf] at o; exact o
end
end Mp

set_option Elab.async false
set_option linter.all false
set_option maxRecDepth 100000
/-! Mp19: the law itself and its end. -/
namespace Mp
open PySem PySem.Spec PyProof.Rows L2
section
variable {P : Program} {w : World} {K : PySem.W.Frag} {mg : Str → Option Value} {base : Heap}
theorem fn_fd {x : Str} {st : Stmt} {N ps : List Str} {k : Nat} {fb : Mp.Env → SR} {f : Addr} {fd : FuncData} (F : FnP K x st f fd) (S : FnScope N ps (defScope st))
    (body : ∀ (f : Addr) (cdv : Value) (A : Around) (outer : List PySem.Env) (s : Shared) (H : Hp) (EE : XK), Cxt (cxD P w K mg base N x st f cdv A outer s H EE) (exk mg EE) k → Cxs (cxD P w K mg base N x st f cdv A outer s H EE) (exk mg EE) →
      JSs (cxD P w K mg base N x st f cdv A outer s H EE) (exk mg EE) (defBody st) fb) : FnOk P w K mg base (L2.CX P w) (k + 1) f fd ps (spD K mg ps.length (runD N.length fb)) := by
  refine F.ok S (fun vs H Q E h => h.1) (fun cdv A outer s H vs Q EE hr h => ?_)
  obtain ⟨hl, G, ds, s', r, o⟩ := h
  refine ⟨_, body f cdv A outer s H EE (cxt_of S.nd hr) cxs_of, ⟨G, H, fun _ => none⟩, G, startS N.length ds, rel_start s' r, ?_⟩
  unfold runD at o
  cases hf : fb (startS N.length ds) with
  | rt d => rw [hf] at o; exact fun v G' H' g rv => o G' H' g v rv
  | nx ρ => rw [hf] at o; exact fun σ' G' H' rl _ => o G' H' rl.gw0 _ .non
  | rl xs => rw [hf] at o; exact fun p vs G' H' g hp hn hl hr => o _ H' (g.share hp hn hl) (.ref p) (.lst upd_same (hr.mono (same_new hn)))
  | exc c => rw [hf] at o; exact fun G' H' g => o G' H' g
  | bk ρ => rw [hf] at o; exact o.elim
  | ct ρ => rw [hf] at o; exact o.elim
  | bad => rw [hf] at o; exact o.elim
end
/-- what an exception leaves, in whatever world -/
def CXu (P : Program) : CXT := fun outer H s E u s' => ∃ w, L2.CX P w outer H s E u s'
theorem fn_cxu {P : Program} {w : World} {K : PySem.W.Frag} {mg : Str → Option Value} {base : Heap} {k : Nat} {f : Addr} {fd : FuncData} {ps : List Str} {sp : Sp} (F : FnOk P w K mg base (L2.CX P w) k f fd ps sp) : FnOk P w K mg base (CXu P) k f fd ps sp :=
  ⟨F.len, fun A outer s H args us vs Q E hr he hb hv hs => codeAny_mono (F.run A outer s H args us vs Q E hr he hb hv hs) fun r s' h => by
    cases r with
    | ok fl => cases fl <;> exact h
    | error e => exact ⟨w, h⟩⟩
theorem cxu_none {P : Program} (H : Hp) (s : Shared) (e : Value) (s' : Shared) (h : CXu P [] H s (fun _ _ _ => False) e s') : False := by
  obtain ⟨w, a, B, H', cls, d, _, _, _, _, _, _, _, q⟩ := h
  exact q
/-- the script as a datum -/
def scr (ns : List Int) : D := .dict [(.none, .list (ns.map .int))]
theorem law_sp {K : PySem.W.Frag} {mg : Str → Option Value} {g : List D → R D} {n : Nat} (hg : ∀ ns : List Int, ns.length ≤ n → g [scr ns] = .ok (.bool true)) (H : Hp) (a : Addr) (ns : List Int) (hn : ns.length ≤ n) (hS : SqL K H a (ns.map V.int)) :
    spD K mg 1 g [.ref a] H (fun v _ => v = .bl true) fun _ _ _ => False := by
  refine ⟨rfl, H, [scr ns], Same.refl H, .cons (.scr hS (RepL.ints ns)) .nil, ?_⟩
  rw [hg ns hn]
  intro G' H' g v rv
  cases rv
  rfl
end Mp

set_option Elab.async false
set_option linter.all false
set_option maxRecDepth 100000
/-! Mq1: how meanings are reckoned out. -/
namespace Mp
open PySem PySem.Spec PyProof.Rows L2
section
variable {α β : Type}
@[simp] theorem bind_ok (a : α) (f : α → R β) : R.bind (.ok a) f = f a := rfl
@[simp] theorem bind_exc (c : Str) (f : α → R β) : R.bind (.exc c) f = .exc c := rfl
@[simp] theorem map_ok (a : α) (f : α → β) : R.map f (.ok a) = .ok (f a) := rfl
@[simp] theorem map_exc (c : Str) (f : α → β) : R.map f (.exc c) = .exc c := rfl
@[simp] theorem ofO_some (a : α) : ofO (some a) = .ok a := rfl
@[simp] theorem ofO_none : (ofO none : R α) = .bad := rfl
@[simp] theorem lift_ok (a : α) (k : α → SR) : lift (.ok a) k = k a := rfl
@[simp] theorem lift_exc (c : Str) (k : α → SR) : lift (.exc c) k = .exc c := rfl
@[simp] theorem ofR_ok (ρ : Env) : ofR (.ok ρ) = .nx ρ := rfl
end
/-- a slot that may be written -/
def canPut : Option Sl → Bool
  | some (.hold _) => false
  | none => false
  | _ => true
/-- a slot that nobody reads before it is written -/
def ov : Option D → Sl
  | none => .emp
  | some d => .val d
@[simp] theorem canPut_v (d : D) : canPut (some (.val d)) = true := rfl
@[simp] theorem canPut_e : canPut (some .emp) = true := rfl
@[simp] theorem canPut_o (xs : List D) : canPut (some (.own xs)) = true := rfl
@[simp] theorem canPut_d (xs : List (D × D)) : canPut (some (.dct xs)) = true := rfl
@[simp] theorem canPut_ov (o : Option D) : canPut (some (ov o)) = true := by cases o <;> rfl
theorem ov_v (d : D) : ov (some d) = .val d := rfl
theorem ov_e : ov none = .emp := rfl
def onB {α : Type} (d : D) (f : Bool → R α) : R α := match d with
  | .bool b => f b
  | _ => .bad
def chB (o : Option D) (x y : R D) : R D := match o with
  | some (.bool true) => x
  | some (.bool false) => y
  | _ => .bad
@[simp] theorem onB_b {α : Type} (b : Bool) (f : Bool → R α) : onB (.bool b) f = f b := rfl
@[simp] theorem chB_b (b : Bool) (x y : R D) : chB (some (.bool b)) x y = if b = true then x else y := by cases b <;> rfl
section
variable (ρ : Env) (f g : Env → SR) (fe fe2 fe3 : Env → R D) (fl fl2 : Env → R (List D)) (t t2 : Env → R Bool) (i j n : Nat)
@[simp] theorem sSeq_ap : sSeq f g ρ = match f ρ with | .nx ρ' => g ρ' | r => r := rfl
@[simp] theorem sIf_ap : sIf t f g ρ = lift (t ρ) fun b => if b = true then f ρ else g ρ := rfl
@[simp] theorem sNx_ap : sNx ρ = .nx ρ := rfl
@[simp] theorem sBk_ap : sBk ρ = .bk ρ := rfl
@[simp] theorem sCt_ap : sCt ρ = .ct ρ := rfl
@[simp] theorem sRet_ap : sRet fe ρ = lift (fe ρ) .rt := rfl
@[simp] theorem sRetL_ap : sRetL fl ρ = lift (fl ρ) .rl := rfl
@[simp] theorem sRetN_ap : sRetN ρ = .rt .none := rfl
@[simp] theorem sRetO_ap : sRetO i ρ = match ρ[i]? with | some (.own xs) => .rl xs | _ => .bad := rfl
@[simp] theorem sExpr_ap : sExpr fe ρ = lift (fe ρ) fun _ => .nx ρ := rfl
@[simp] theorem sRaise_ap (x : Str) : sRaise x ρ = .exc x := rfl
@[simp] theorem sSet_ap : sSet i fe ρ = lift (fe ρ) fun d => ofR (tName i d ρ) := rfl
@[simp] theorem sSetL_ap : sSetL i fl ρ = lift (fl ρ) fun xs => setL i xs ρ := rfl
@[simp] theorem setL_ap (xs : List D) : setL i xs ρ = if canPut ρ[i]? = true then .nx (ρ.set i (.own xs)) else .bad := by
  show (match ρ[i]? with | some (.hold _) => SR.bad | none => .bad | _ => .nx (ρ.set i (.own xs))) = _
  cases ρ[i]? with
  | none => rfl
  | some s => cases s <;> rfl
@[simp] theorem sAsg_ap (tg : D → Env → R Env) : sAsg tg fe ρ = lift (fe ρ) fun d => ofR (tg d ρ) := rfl
@[simp] theorem tName_ap (d : D) : tName i d ρ = if canPut ρ[i]? = true then .ok (ρ.set i (.val d)) else .bad := by
  show (match ρ[i]? with | some (.hold _) => R.bad | none => .bad | _ => .ok (ρ.set i (.val d))) = _
  cases ρ[i]? with
  | none => rfl
  | some s => cases s <;> rfl
@[simp] theorem tsNil_ap : tsNil [] ρ = .ok ρ := rfl
@[simp] theorem tsCons_ap (tg : D → Env → R Env) (u : List D → Env → R Env) (d : D) (ds : List D) : tsCons tg u (d :: ds) ρ = (tg d ρ).bind (u ds) := rfl
@[simp] theorem tTupT_ap (u : List D → Env → R Env) (ds : List D) : tTupT n u (.tuple ds) ρ = if ds.length = n then u ds ρ else .bad := rfl
@[simp] theorem sApp_ap : sApp i fe ρ = match ρ[i]? with | some (.own xs) => lift (fe ρ) fun d => if xs.length < LIM then .nx (ρ.set i (.own (xs ++ [d]))) else .bad | _ => .bad := rfl
@[simp] theorem sIns_ap : sIns i fe fe2 ρ = match ρ[i]? with | some (.own xs) => (lift (fe ρ) fun y => match y with | .int j => lift (fe2 ρ) fun d => if xs.length < LIM ∧ 0 ≤ j ∧ j < 2 ^ 62 then .nx (ρ.set i (.own (insD xs j.toNat d))) else .bad | _ => .bad) | _ => .bad := rfl
@[simp] theorem sAug_ap (h : Int → Int → Int) : sAug i h fe ρ = match ρ[i]? with | some (.val (.int a)) => (lift (fe ρ) fun d => match d with | .int b => .nx (ρ.set i (.val (.int (h a b)))) | _ => .bad) | _ => .bad := rfl
@[simp] theorem sFrz_ap : sFrz i f ρ = f (frz i ρ) := rfl
@[simp] theorem sFrzD_ap : sFrzD i f ρ = f (frzD i ρ) := rfl
@[simp] theorem frz_ap : frz i ρ = match ρ[i]? with | some (.own xs) => ρ.set i (.val (.list xs)) | _ => ρ := rfl
@[simp] theorem frzD_ap : frzD i ρ = match ρ[i]? with | some (.dct ds) => ρ.set i (.val (.dict ds)) | _ => ρ := rfl
@[simp] theorem sDNew_ap : sDNew i ρ = if canPut ρ[i]? = true then .nx (ρ.set i (.dct [])) else .bad := by
  show (match ρ[i]? with | some (.hold _) => SR.bad | none => .bad | _ => .nx (ρ.set i (.dct []))) = _
  cases ρ[i]? with
  | none => rfl
  | some s => cases s <;> rfl
@[simp] theorem sDPutD_ap : sDPutD i fe fe2 ρ = match ρ[i]? with | some (.dct ds) => (lift (fe2 ρ) fun d => lift (fe ρ) fun y => match keyOfD y with | some k => if ds.length < LIM then .nx (ρ.set i (.dct (putD ds k d))) else .bad | none => .bad) | _ => .bad := rfl
@[simp] theorem sFor_ap (fi : Env → R (List D)) (tg : D → Env → R Env) : sFor fi tg f ρ = lift (fi ρ) fun ds => loopS (bodyH tg f) ds ρ := rfl
@[simp] theorem bodyH_ap (tg : D → Env → R Env) (d : D) : bodyH tg f d ρ = match tg d ρ with | .ok ρ' => f ρ' | _ => .bad := rfl
@[simp] theorem putS_ap (d : D) : putS i d ρ = if canPut ρ[i]? = true then .nx (ρ.set i (.val d)) else .bad := by
  show (match ρ[i]? with | some (.hold _) => SR.bad | none => .bad | _ => .nx (ρ.set i (.val d))) = _
  cases ρ[i]? with
  | none => rfl
  | some s => cases s <;> rfl
@[simp] theorem sPar_ap : sPar i j fl ρ = lift (fl ρ) fun ds => match ds with | [d, e] => (match putS i d ρ with | .nx ρ1 => putS j e ρ1 | _ => .bad) | _ => .bad := rfl
@[simp] theorem e2_ap (h : D → D → Option D) : e2 h fe fe2 ρ = (fe ρ).bind fun x => (fe2 ρ).bind fun y => ofO (h x y) := rfl
@[simp] theorem l2_ap (h : D → D → Option (List D)) : l2 h fe fe2 ρ = (fe ρ).bind fun x => (fe2 ρ).bind fun y => ofO (h x y) := rfl
@[simp] theorem e1_ap (h : D → Option D) : e1 h fe ρ = (fe ρ).bind fun x => ofO (h x) := rfl
@[simp] theorem eC_ap (d : D) : eC d ρ = .ok d := rfl
@[simp] theorem eVar_ap : eVar i ρ = match ρ[i]? with | some (.val d) => .ok d | _ => .bad := rfl
@[simp] theorem bVar_ap : bVar i ρ = match ρ[i]? with | some (.val d) => .ok d | some (.own xs) => .ok (.list xs) | some (.hold xs) => .ok (.list xs) | some (.dct kvs) => .ok (.dict kvs) | _ => .bad := rfl
@[simp] theorem eL_ap : eL fl ρ = (fl ρ).map .list := rfl
@[simp] theorem eCall_ap {α : Type} (g : List D → R α) : eCall n g fl ρ = (fl ρ).bind fun ds => if ds.length = n then g ds else .bad := rfl
@[simp] theorem eB_ap {α : Type} (h : List D → Option α) : eB h fl ρ = (fl ρ).bind fun ds => ofO (h ds) := rfl
@[simp] theorem eM_ap {α : Type} (T : String) (h : D → List D → Option α) : eM T h fe fl ρ = (fe ρ).bind fun d => if isTy T d = true then (fl ρ).bind fun ds => ofO (h d ds) else .bad := rfl
@[simp] theorem eI_ap {α : Type} (h k : Env → R α) : eI t h k ρ = (t ρ).bind fun b => if b = true then h ρ else k ρ := rfl
@[simp] theorem eA_ap : eA fe fe2 ρ = (fe ρ).bind fun d => onB d fun b => if b = true then fe2 ρ else .ok (.bool false) := by
  unfold eA
  congr 1
  funext d
  cases d with
  | bool b => cases b <;> rfl
  | _ => rfl
@[simp] theorem eO_ap : eO fe fe2 ρ = (fe ρ).bind fun d => onB d fun b => if b = true then .ok (.bool true) else fe2 ρ := by
  unfold eO
  congr 1
  funext d
  cases d with
  | bool b => cases b <;> rfl
  | _ => rfl
@[simp] theorem eN_ap : eN fe ρ = (fe ρ).bind fun d => onB d fun b => .ok (.bool (!b)) := rfl
@[simp] theorem eCh_ap (h k : D → D → Option D) : eCh h k fe fe2 fe3 ρ = (fe ρ).bind fun x => (fe2 ρ).bind fun y => chB (h x y) ((fe3 ρ).bind fun z => ofO (k y z)) (.ok (.bool false)) := by
  unfold eCh chB
  rfl
@[simp] theorem eTup_ap : eTup fl ρ = (fl ρ).bind fun xs => if xs.length ≤ LIM then .ok (.tuple xs) else .bad := rfl
@[simp] theorem lLst_ap : lLst fl ρ = (fl ρ).bind fun xs => if xs.length ≤ LIM then .ok xs else .bad := rfl
@[simp] theorem aNil_ap : aNil ρ = .ok [] := rfl
@[simp] theorem aCons_ap : aCons fe fl ρ = (fe ρ).bind fun x => (fl ρ).bind fun xs => .ok (x :: xs) := rfl
@[simp] theorem toT_ap : toT fe ρ = (fe ρ).bind fun d => onB d .ok := rfl
@[simp] theorem tA_ap : tA t t2 ρ = (t ρ).bind fun b => if b = true then t2 ρ else .ok false := rfl
@[simp] theorem tO_ap : tO t t2 ρ = (t ρ).bind fun b => if b = true then .ok true else t2 ρ := rfl
@[simp] theorem tN_ap : tN t ρ = (t ρ).map fun b => !b := rfl
@[simp] theorem tYes_ap : tYesE ρ = .ok true := rfl
@[simp] theorem eIsi_ap (T : String) : eIsi T fe ρ = (fe ρ).bind fun d => ofO (isiD T d) := rfl
@[simp] theorem eS_ap {α : Type} (h : D → Option Int → Option Int → Option α) (fa fb : Env → R (Option Int)) : eS h fe fa fb ρ = (fe ρ).bind fun d => (fa ρ).bind fun l => (fb ρ).bind fun u => ofO (h d l u) := rfl
@[simp] theorem oNo_ap : oNo ρ = .ok none := rfl
@[simp] theorem oSo_ap : oSo fe ρ = (fe ρ).bind fun | .int i => .ok (some i) | _ => .bad := rfl
@[simp] theorem iL_ap : iL fe ρ = (fe ρ).bind fun | .list ds => .ok ds | _ => .bad := rfl
@[simp] theorem iT_ap : iT fe ρ = (fe ρ).bind fun | .tuple ds => .ok ds | _ => .bad := rfl
@[simp] theorem iS_ap : iS fe ρ = (fe ρ).bind fun | .str x => .ok (signs x) | _ => .bad := rfl
@[simp] theorem iE_ap : iE fl ρ = (fl ρ).bind fun | [.list ds] => .ok (enums 0 ds) | _ => .bad := rfl
@[simp] theorem iZ_ap : iZ fl ρ = (fl ρ).bind fun | [.list xs, .list ys] => .ok (zips xs ys) | _ => .bad := rfl
@[simp] theorem iR1_ap : iR1 fl ρ = (fl ρ).bind fun | [.int j] => if -(2 ^ 62) ≤ j ∧ j < 2 ^ 62 then .ok (rng 0 j.toNat) else .bad | _ => .bad := rfl
@[simp] theorem iR2_ap : iR2 fl ρ = (fl ρ).bind fun | [.int i, .int j] => if -(2 ^ 62) ≤ i ∧ i < 2 ^ 62 ∧ -(2 ^ 62) ≤ j ∧ j < 2 ^ 62 then .ok (rng i (j - i).toNat) else .bad | _ => .bad := rfl
@[simp] theorem lLc_ap (vs : List Nat) (tg : D → Env → R Env) (fi : Env → R (List D)) : lLc vs tg t fe fi ρ = (fi ρ).bind fun ds => match compR (compH vs tg t fe ρ) ds with | .ok xs => if xs.length ≤ LIM then .ok xs else .bad | _ => .bad := rfl
@[simp] theorem lLx_ap (vs : List Nat) (tg : D → Env → R Env) (fi : Env → R (List D)) : lLx vs tg t fe fi ρ = (fi ρ).bind fun ds => if ds.length ≤ LIM then compX (compHX vs tg t fe ρ) ds else .bad := rfl
@[simp] theorem compH_ap (vs : List Nat) (tg : D → Env → R Env) (d : D) : compH vs tg t fe ρ d = (tg d (wipeS ρ vs)).bind fun ρ' => (t ρ').bind fun b => if b = true then (fe ρ').map some else .ok none := rfl
@[simp] theorem lSet_ap : lSet fe ρ = (fe ρ).bind fun d => match d with | .list ds => (match strsOf ds with | some ss => if ss.length + 1 < scanBound then .ok ((setS ss).map .str) else .bad | none => .bad) | _ => .bad := rfl
@[simp] theorem lSortK_ap (g : List D → R D) : lSortK g fe ρ = (fe ρ).bind fun d => match d with | .list ds => if decide (ds.length ≤ LIM) && ds.all (keyed g) && srtOk (ds.map (keyD g)) then .ok (ds.mergeSort (PySem.W.dataLe false (keyD g))) else .bad | _ => .bad := rfl
@[simp] theorem lRg1_ap : lRg1 fe ρ = (fe ρ).bind fun | .int n => if -(2 ^ 62) ≤ n ∧ n ≤ 100000 then .ok (rng 0 n.toNat) else .bad | _ => .bad := rfl
end
@[simp] theorem wipe0 (ρ : Env) : wipeS ρ [] = ρ := rfl
@[simp] theorem wipe1 (ρ : Env) (v : Nat) (vs : List Nat) : wipeS ρ (v :: vs) = (wipeS ρ vs).set v .emp := rfl
@[simp] theorem isTy_s (x : Str) : isTy "str" (.str x) = true := rfl
@[simp] theorem isTy_l (x : List D) : isTy "list" (.list x) = true := rfl
@[simp] theorem c1_ap (f : D → Option D) (d : D) : c1 f [d] = f d := rfl
@[simp] theorem c2_ap (f : D → D → Option D) (d e : D) : c2 f [d, e] = f d e := rfl
@[simp] theorem cl1_ap (f : D → Option (List D)) (d : D) : cl1 f [d] = f d := rfl
theorem compR_map {h : D → R (Option D)} {g : D → D} : ∀ {ds : List D}, (∀ d ∈ ds, h d = .ok (some (g d))) → compR h ds = .ok (ds.map g)
  | [], _ => rfl
  | d :: ds, hh => by
    unfold compR
    rw [hh d List.mem_cons_self, compR_map fun e he => hh e (List.mem_cons_of_mem _ he)]
    rfl
theorem compR_filter {h : D → R (Option D)} {p : D → Bool} {g : D → D} : ∀ {ds : List D}, (∀ d ∈ ds, h d = .ok (if p d = true then some (g d) else none)) → compR h ds = .ok ((ds.filter p).map g)
  | [], _ => rfl
  | d :: ds, hh => by
    unfold compR
    rw [hh d List.mem_cons_self, compR_filter fun e he => hh e (List.mem_cons_of_mem _ he)]
    by_cases c : p d = true
    · rw [if_pos c, List.filter_cons_of_pos c]; rfl
    · rw [if_neg c, List.filter_cons_of_neg c]
/-- over data of a type -/
theorem compR_mapT {α : Type} {enc : α → D} {h : D → R (Option D)} {g : α → D} {xs : List α} (hh : ∀ x ∈ xs, h (enc x) = .ok (some (g x))) : compR h (xs.map enc) = .ok (xs.map g) := by
  induction xs with
  | nil => rfl
  | cons x xs ih =>
    rw [List.map_cons, List.map_cons]
    unfold compR
    rw [hh x List.mem_cons_self, ih fun y hy => hh y (List.mem_cons_of_mem _ hy)]
    rfl
theorem compR_filterT {α : Type} {enc : α → D} {h : D → R (Option D)} {p : α → Bool} {g : α → D} {xs : List α} (hh : ∀ x ∈ xs, h (enc x) = .ok (if p x = true then some (g x) else none)) : compR h (xs.map enc) = .ok ((xs.filter p).map g) := by
  induction xs with
  | nil => rfl
  | cons x xs ih =>
    rw [List.map_cons]
    unfold compR
    rw [hh x List.mem_cons_self, ih fun y hy => hh y (List.mem_cons_of_mem _ hy)]
    by_cases c : p x = true
    · rw [if_pos c, List.filter_cons_of_pos c]; rfl
    · rw [if_neg c, List.filter_cons_of_neg c]
/-- a loop that never ends early: over data of a type, the slots told by a state -/
theorem loopS_fold {α σ : Type} {enc : α → D} {h : D → Env → SR} {env : σ → Env} {step : σ → α → σ} {xs : List α} (P : σ → Prop) (hh : ∀ s x, x ∈ xs → P s → P (step s x) ∧ (h (enc x) (env s) = .nx (env (step s x)) ∨ h (enc x) (env s) = .ct (env (step s x)))) : ∀ s, P s → loopS h (xs.map enc) (env s) = .nx (env (xs.foldl step s)) ∧ P (xs.foldl step s) := by
  induction xs with
  | nil => exact fun s p => ⟨rfl, p⟩
  | cons x xs ih =>
    intro s p
    obtain ⟨p1, e⟩ := hh s x List.mem_cons_self p
    obtain ⟨h1, h2⟩ := ih (fun s y hy q => hh s y (List.mem_cons_of_mem _ hy) q) (step s x) p1
    refine ⟨?_, h2⟩
    rw [List.map_cons]
    unfold loopS
    rcases e with e | e <;> rw [e] <;> exact h1
end Mp

set_option Elab.async false
set_option linter.all false
set_option maxRecDepth 100000
/-! Mq2: the built-ins on data of known types. -/
namespace Mp
open PySem PySem.Spec PyProof.Rows L2
/-! isinstance -/
@[simp] theorem isi_str (x : Str) : isiD "str" (.str x) = some (.bool true) := by rfl
@[simp] theorem isi_str_i (x : Int) : isiD "str" (.int x) = some (.bool false) := by rfl
@[simp] theorem isi_str_b (x : Bool) : isiD "str" (.bool x) = some (.bool false) := by rfl
@[simp] theorem isi_str_n : isiD "str" .none = some (.bool false) := by rfl
@[simp] theorem isi_str_l (x : List D) : isiD "str" (.list x) = some (.bool false) := by rfl
@[simp] theorem isi_str_t (x : List D) : isiD "str" (.tuple x) = some (.bool false) := by rfl
@[simp] theorem isi_list (x : List D) : isiD "list" (.list x) = some (.bool true) := by rfl
@[simp] theorem isi_list_s (x : Str) : isiD "list" (.str x) = some (.bool false) := by rfl
@[simp] theorem isi_list_t (x : List D) : isiD "list" (.tuple x) = some (.bool false) := by rfl
@[simp] theorem isi_tup (x : List D) : isiD "tuple" (.tuple x) = some (.bool true) := by rfl
@[simp] theorem isi_tup_l (x : List D) : isiD "tuple" (.list x) = some (.bool false) := by rfl
@[simp] theorem isi_tup_s (x : Str) : isiD "tuple" (.str x) = some (.bool false) := by rfl
/-! len -/
@[simp] theorem len_list (x : List D) : lenD (.list x) = some (.int x.length) := rfl
@[simp] theorem len_tup (x : List D) : lenD (.tuple x) = some (.int x.length) := rfl
theorem len_str {x : Str} (h : x.length ≤ LIM) : lenD (.str x) = some (.int x.length) := if_pos h
/-! numbers -/
@[simp] theorem add_int (i j : Int) : addD (.int i) (.int j) = some (.int (i + j)) := rfl
theorem add_str {a b : Str} (h : a.length + b.length ≤ LIM) : addD (.str a) (.str b) = some (.str (a ++ b)) := if_pos h
theorem add_tup {a b : List D} (h : a.length + b.length ≤ LIM) : addD (.tuple a) (.tuple b) = some (.tuple (a ++ b)) := if_pos h
theorem add_list {a b : List D} (h : a.length + b.length ≤ LIM) : addL (.list a) (.list b) = some (a ++ b) := if_pos h
@[simp] theorem sub_int (i j : Int) : subD (.int i) (.int j) = some (.int (i - j)) := rfl
theorem mul_int {i j : Int} (h : cMul i j) : mulD (.int i) (.int j) = some (.int (i * j)) := if_pos h
theorem div_int {i j : Int} (h : cDiv j) : divD (.int i) (.int j) = some (.int (i / j)) := if_pos h
theorem mod_int {i j : Int} (h : 0 < j) : modD (.int i) (.int j) = some (.int (i % j)) := if_pos h
theorem pow_int {i j : Int} (h : cPow i j) : powD (.int i) (.int j) = some (.int (i ^ j.toNat)) := if_pos h
theorem shl_int {i j : Int} (h : cPow i j) : shlD (.int i) (.int j) = some (.int (i * 2 ^ j.toNat)) := if_pos h
theorem shr_int {i j : Int} (h : 0 ≤ j) : shrD (.int i) (.int j) = some (.int (i / 2 ^ j.toNat)) := if_pos h
@[simp] theorem and_int (i j : Int) : andD (.int i) (.int j) = some (.int (Builtin.bitAnd i j)) := rfl
@[simp] theorem or_int (i j : Int) : orD (.int i) (.int j) = some (.int (Builtin.bitOr i j)) := rfl
@[simp] theorem xor_int (i j : Int) : xorD (.int i) (.int j) = some (.int (Builtin.bitXor i j)) := rfl
@[simp] theorem neg_int (i : Int) : negD (.int i) = some (.int (-i)) := rfl
@[simp] theorem lt_int' (i j : Int) : ltD (.int i) (.int j) = some (.bool (decide (i < j))) := rfl
@[simp] theorem le_int' (i j : Int) : leD (.int i) (.int j) = some (.bool (decide (i ≤ j))) := rfl
@[simp] theorem gt_int' (i j : Int) : gtD (.int i) (.int j) = some (.bool (decide (j < i))) := rfl
@[simp] theorem ge_int' (i j : Int) : geD (.int i) (.int j) = some (.bool (decide (j ≤ i))) := rfl
@[simp] theorem lt_str' (i j : Str) : ltD (.str i) (.str j) = some (.bool (strLt i j)) := rfl
@[simp] theorem le_str' (i j : Str) : leD (.str i) (.str j) = some (.bool (!strLt j i)) := rfl
@[simp] theorem gt_str' (i j : Str) : gtD (.str i) (.str j) = some (.bool (strLt j i)) := rfl
/-! equality -/
theorem eq_of {d e : D} (h1 : d.plain = true) (h2 : e.plain = true) (h3 : min d.depth e.depth ≤ 60) : eqD d e = some (.bool (PyData.eqv d e)) := if_pos ⟨h1, h2, h3⟩
theorem ne_of {d e : D} (h1 : d.plain = true) (h2 : e.plain = true) (h3 : min d.depth e.depth ≤ 60) : neD d e = some (.bool (!PyData.eqv d e)) := if_pos ⟨h1, h2, h3⟩
@[simp] theorem eq_int' (i j : Int) : eqD (.int i) (.int j) = some (.bool (decide (i = j))) := by
  rw [eq_of rfl rfl (by simp [PyData.depth])]
  by_cases h : i = j <;> simp [PyData.eqv, h]
@[simp] theorem ne_int' (i j : Int) : neD (.int i) (.int j) = some (.bool (!decide (i = j))) := by
  rw [ne_of rfl rfl (by simp [PyData.depth])]
  by_cases h : i = j <;> simp [PyData.eqv, h]
@[simp] theorem eq_str' (i j : Str) : eqD (.str i) (.str j) = some (.bool (decide (i = j))) := by
  rw [eq_of rfl rfl (by simp [PyData.depth])]
  by_cases h : i = j <;> simp [PyData.eqv, h]
@[simp] theorem ne_str' (i j : Str) : neD (.str i) (.str j) = some (.bool (!decide (i = j))) := by
  rw [ne_of rfl rfl (by simp [PyData.depth])]
  by_cases h : i = j <;> simp [PyData.eqv, h]
/-! in -/
@[simp] theorem in_sign (c : Nat) (y : Str) : inD (.str ⟨#[c]⟩) (.str y) = some (.bool (decide (c ∈ y.cps.toList))) := rfl
theorem plain_strs : ∀ ys : List Str, PyData.plainAll (ys.map PyData.str) = true
  | [] => rfl
  | y :: ys => by simp [PyData.plainAll, PyData.plain, plain_strs ys]
theorem any_strs (x : Str) : ∀ ys : List Str, ((ys.map PyData.str).any fun z => PyData.eqv z (.str x)) = decide (x ∈ ys)
  | [] => rfl
  | y :: ys => by
    rw [List.map_cons, List.any_cons, any_strs x ys]
    by_cases h : y = x
    · subst h; simp [PyData.eqv]
    · have h' : x ≠ y := fun z => h z.symm
      simp [PyData.eqv, h, h']
@[simp] theorem in_strs (x : Str) (ys : List Str) : inD (.str x) (.list (ys.map .str)) = some (.bool (decide (x ∈ ys))) := by
  have hc : cIn (.str x) (ys.map PyData.str) := ⟨rfl, plain_strs ys, by simp [PyData.depth]⟩
  show ((inStr (.str x) (.list _)).orElse fun _ => inSeq (.str x) (.list _)).map PyData.bool = _
  have e : inSeq (.str x) (.list (ys.map PyData.str)) = some (decide (x ∈ ys)) := by
    unfold inSeq seqOf
    dsimp only
    rw [if_pos hc, any_strs]
  rw [e]
  rfl
/-! all, any, sum -/
theorem bls_f {α : Type} (p : α → Bool) : ∀ xs : List α, bls (xs.map fun x => .bool (p x)) = some (xs.map p)
  | [] => rfl
  | x :: xs => by simp [bls, bls_f p xs]
theorem ints_f {α : Type} (p : α → Int) : ∀ xs : List α, intsOf (xs.map fun x => .int (p x)) = some (xs.map p)
  | [] => rfl
  | x :: xs => by simp [intsOf, ints_f p xs]
theorem strs_f {α : Type} (p : α → Str) : ∀ xs : List α, strsOf (xs.map fun x => .str (p x)) = some (xs.map p)
  | [] => rfl
  | x :: xs => by simp [strsOf, strs_f p xs]
@[simp] theorem all_f {α : Type} (p : α → Bool) (xs : List α) : allD (.list (xs.map fun x => .bool (p x))) = some (.bool (xs.all p)) := by
  show (bls (xs.map fun x => .bool (p x))).map (fun bs => PyData.bool (bs.all id)) = _
  rw [bls_f]
  simp [List.all_map]
@[simp] theorem sum_f {α : Type} (p : α → Int) (xs : List α) : sumD (.list (xs.map fun x => .int (p x))) = some (.int (xs.map p).sum) := by
  show (intsOf (xs.map fun x => .int (p x))).map (fun bs => PyData.int bs.sum) = _
  rw [ints_f]
  rfl
/-! places -/
theorem atI_nat {α : Type} (xs : List α) (n : Nat) : atI xs (n : Int) = xs[n]? := by
  unfold atI ixN
  by_cases h : n < xs.length
  · have h1 : (0 : Int) ≤ (n : Int) := by omega
    have h2 : (n : Int) < (xs.length : Int) := by omega
    simp [h1, h2]
  · have h2 : ¬ (n : Int) < (xs.length : Int) := by omega
    have h3 : ¬ ((n : Int) < 0) := by omega
    rw [List.getElem?_eq_none (by omega)]
    simp [h2, h3]
@[simp] theorem idx_list (xs : List D) (i : Int) : idxD (.list xs) (.int i) = atI xs i := rfl
@[simp] theorem idx_tup (xs : List D) (i : Int) : idxD (.tuple xs) (.int i) = atI xs i := rfl
@[simp] theorem idx_scr (xs : List D) (i : Int) : idxD (.dict [(.none, .list xs)]) (.int i) = atI xs i := rfl
@[simp] theorem sl_list (xs : List D) (l h : Option Int) : slL (.list xs) l h = some (cutD xs l h) := rfl
@[simp] theorem atI0 {α : Type} (x : α) (xs : List α) : atI (x :: xs) 0 = some x := atI_nat (x :: xs) 0
theorem drop1 (x : D) (xs : List D) : cutD (x :: xs) (some 1) none = xs := by
  unfold cutD HT.sIx
  simp
/-! texts -/
theorem join_strs {a : Str} {ys : List Str} (h : (ys.map (·.length)).sum + ys.length * a.length ≤ LIM) : joinD (.str a) [.list (ys.map .str)] = some (.str (Txt.join a ys)) := by
  unfold joinD seqOf
  dsimp only
  rw [strsOf_map]
  dsimp only
  rw [if_pos h]
theorem split_str {a b : Str} (h1 : (b.length == 0) = false) (h2 : a.length ≤ LIM) : splitD (.str a) [.str b] = some ((Txt.split a b).map .str) := if_pos ⟨h1, h2⟩
end Mp

set_option Elab.async false
set_option linter.all false
set_option maxRecDepth 100000
/-! Mq3: meanings stepped through. -/
namespace Mp
open PySem PySem.Spec PyProof.Rows L2
section
variable {f g : Env → SR} {ρ ρ' : Env} {t : Env → R Bool} {d : D}
theorem seq_nx (h : f ρ = .nx ρ') : sSeq f g ρ = g ρ' := by unfold sSeq; rw [h]
theorem seq_rt (h : f ρ = .rt d) : sSeq f g ρ = .rt d := by unfold sSeq; rw [h]
theorem seq_rl {xs : List D} (h : f ρ = .rl xs) : sSeq f g ρ = .rl xs := by unfold sSeq; rw [h]
theorem seq_exc {c : Str} (h : f ρ = .exc c) : sSeq f g ρ = .exc c := by unfold sSeq; rw [h]
theorem if_t (h : t ρ = .ok true) : sIf t f g ρ = f ρ := by rw [sIf_ap, h]; rfl
theorem if_f (h : t ρ = .ok false) : sIf t f g ρ = g ρ := by rw [sIf_ap, h]; rfl
end
section
variable {n : Nat} {f : Env → SR} {ds : List D}
theorem runD_rt {d : D} (h : f (startS n ds) = .rt d) : runD n f ds = .ok d := by unfold runD; rw [h]
theorem runD_rl {xs : List D} (h : f (startS n ds) = .rl xs) : runD n f ds = .ok (.list xs) := by unfold runD; rw [h]
theorem runD_nx {ρ : Env} (h : f (startS n ds) = .nx ρ) : runD n f ds = .ok .none := by unfold runD; rw [h]
theorem runD_exc {c : Str} (h : f (startS n ds) = .exc c) : runD n f ds = .exc c := by unfold runD; rw [h]
theorem runL_rl {xs : List D} (h : f (startS n ds) = .rl xs) : runL n f ds = .ok xs := by unfold runL; rw [h]
end
/-- a comprehension over data of a type -/
theorem lLc_mapT {α : Type} {enc : α → D} {vs : List Nat} {tg : D → Env → R Env} {fe : Env → R D} {fi : Env → R (List D)} {ρ : Env} {g : α → D} {xs : List α} (h1 : fi ρ = .ok (xs.map enc)) (hh : ∀ x ∈ xs, compH vs tg tYesE fe ρ (enc x) = .ok (some (g x))) (hl : xs.length ≤ LIM) : lLc vs tg tYesE fe fi ρ = .ok (xs.map g) := by
  rw [lLc_ap, h1, bind_ok, compR_mapT hh]
  simp [hl]
theorem lLc_filterT {α : Type} {enc : α → D} {vs : List Nat} {tg : D → Env → R Env} {t : Env → R Bool} {fe : Env → R D} {fi : Env → R (List D)} {ρ : Env} {g : α → D} {p : α → Bool} {xs : List α} (h1 : fi ρ = .ok (xs.map enc)) (hh : ∀ x ∈ xs, compH vs tg t fe ρ (enc x) = .ok (if p x = true then some (g x) else none)) (hl : xs.length ≤ LIM) : lLc vs tg t fe fi ρ = .ok ((xs.filter p).map g) := by
  rw [lLc_ap, h1, bind_ok, compR_filterT hh]
  have : (xs.filter p).length ≤ LIM := Nat.le_trans (List.length_filter_le _ _) hl
  simp [this]
/-- one whose element may raise -/
theorem compX_okT {α : Type} {enc : α → D} {h : D → R (Option D)} {g : α → D} {xs : List α} (hh : ∀ x ∈ xs, h (enc x) = .ok (some (g x))) : compX h (xs.map enc) = .ok (xs.map g) := by
  induction xs with
  | nil => rfl
  | cons x xs ih =>
    rw [List.map_cons, List.map_cons]
    unfold compX
    rw [hh x List.mem_cons_self, ih fun y hy => hh y (List.mem_cons_of_mem _ hy)]
    rfl
/-- a loop that may end early -/
theorem loopS_nx {α : Type} {enc : α → D} {h : D → Env → SR} {ρ : Env} {xs : List α} (I : Env → Prop) (h0 : I ρ) (hh : ∀ x ∈ xs, ∀ ρ, I ρ → ∃ ρ', I ρ' ∧ (h (enc x) ρ = .nx ρ' ∨ h (enc x) ρ = .ct ρ')) : ∃ ρ', I ρ' ∧ loopS h (xs.map enc) ρ = .nx ρ' := by
  induction xs generalizing ρ with
  | nil => exact ⟨ρ, h0, rfl⟩
  | cons x xs ih =>
    obtain ⟨ρ1, i1, e⟩ := hh x List.mem_cons_self ρ h0
    obtain ⟨ρ2, i2, e2⟩ := ih i1 fun y hy => hh y (List.mem_cons_of_mem _ hy)
    refine ⟨ρ2, i2, ?_⟩
    rw [List.map_cons]
    unfold loopS
    rcases e with e | e <;> rw [e] <;> exact e2
/-- a loop that never ends early, told by what it has gone through -/
theorem loopS_inv {α : Type} {enc : α → D} {h : D → Mp.Env → SR} {xs : List α} (I : List α → Mp.Env → Prop) (hh : ∀ pre x post, xs = pre ++ x :: post → ∀ ρ, I pre ρ → ∃ ρ', I (pre ++ [x]) ρ' ∧ (h (enc x) ρ = .nx ρ' ∨ h (enc x) ρ = .ct ρ')) {ρ : Mp.Env} (h0 : I [] ρ) : ∃ ρ', I xs ρ' ∧ loopS h (xs.map enc) ρ = .nx ρ' := by
  have key : ∀ (post pre : List α), xs = pre ++ post → ∀ ρ, I pre ρ → ∃ ρ', I xs ρ' ∧ loopS h (post.map enc) ρ = .nx ρ' := by
    intro post
    induction post with
    | nil => exact fun pre e ρ i => ⟨ρ, by rw [e, List.append_nil]; exact i, rfl⟩
    | cons x post ih =>
      intro pre e ρ i
      obtain ⟨ρ1, i1, e1⟩ := hh pre x post e ρ i
      obtain ⟨ρ2, i2, e2⟩ := ih (pre ++ [x]) (by rw [e, List.append_assoc]; rfl) ρ1 i1
      refine ⟨ρ2, i2, ?_⟩
      rw [List.map_cons]
      unfold loopS
      rcases e1 with e | e <;> rw [e] <;> exact e2
  exact key xs [] rfl ρ h0
theorem loopH_inv {α : Type} {enc : α → D} {h : D → Mp.Env → SR} {xs : List α} (i : Nat) (I : List α → Mp.Env → Prop) (hi : ∀ pre ρ, I pre ρ → ∃ ys, ρ[i]? = some (.hold ys)) (hh : ∀ pre x post, xs = pre ++ x :: post → ∀ ρ, I pre ρ → ∃ ρ', I (pre ++ [x]) ρ' ∧ (h (enc x) ρ = .nx ρ' ∨ h (enc x) ρ = .ct ρ')) {ρ : Mp.Env} (h0 : I [] ρ) : ∃ ρ', I xs ρ' ∧ loopH i h (xs.map enc) ρ = .nx ρ' := by
  have key : ∀ (post pre : List α), xs = pre ++ post → ∀ ρ, I pre ρ → ∃ ρ', I xs ρ' ∧ loopH i h (post.map enc) ρ = .nx ρ' := by
    intro post
    induction post with
    | nil => exact fun pre e ρ i => ⟨ρ, by rw [e, List.append_nil]; exact i, rfl⟩
    | cons x post ih =>
      intro pre e ρ ip
      obtain ⟨ys, ey⟩ := hi pre ρ ip
      obtain ⟨ρ1, i1, e1⟩ := hh pre x post e ρ ip
      obtain ⟨ρ2, i2, e2⟩ := ih (pre ++ [x]) (by rw [e, List.append_assoc]; rfl) ρ1 i1
      refine ⟨ρ2, i2, ?_⟩
      rw [List.map_cons]
      unfold loopH
      rw [ey]
      rcases e1 with e | e <;> rw [e] <;> exact e2
  exact key xs [] rfl ρ h0
/-- a list of one's own, walked -/
theorem sForH_inv {α : Type} {enc : α → D} {tg : D → Mp.Env → Mp.R Mp.Env} {fb : Mp.Env → SR} {xs : List α} {i : Nat} {ρ : Mp.Env} (I : List α → Mp.Env → Prop) (ho : ρ[i]? = some (.own (xs.map enc))) (h0 : I [] (ρ.set i (.hold (xs.map enc)))) (hi : ∀ pre ρ, I pre ρ → ρ[i]? = some (.hold (xs.map enc))) (hh : ∀ pre x post, xs = pre ++ x :: post → ∀ ρ, I pre ρ → ∃ ρ', I (pre ++ [x]) ρ' ∧ (bodyH tg fb (enc x) ρ = .nx ρ' ∨ bodyH tg fb (enc x) ρ = .ct ρ')) : ∃ ρ', I xs ρ' ∧ sForH i tg fb ρ = .nx (ρ'.set i (.own (xs.map enc))) := by
  obtain ⟨ρ', i1, e1⟩ := loopH_inv i I (fun pre ρ ip => ⟨_, hi pre ρ ip⟩) hh h0
  refine ⟨ρ', i1, ?_⟩
  unfold sForH
  rw [ho]
  dsimp only
  rw [e1]
  unfold unhold
  dsimp only
  rw [hi xs ρ' i1]
def SR.stops : SR → Prop
  | .nx _ => False
  | .ct _ => False
  | .bk _ => False
  | _ => True
/-- a loop that goes on where each stands the test, else stops -/
theorem loopS_chk {α : Type} {enc : α → D} {h : D → Mp.Env → SR} {xs : List α} (p : α → Bool) {r : SR} (hr : r.stops) (I : Mp.Env → Prop) (hh : ∀ x ∈ xs, ∀ ρ, I ρ → (p x = true → ∃ ρ', I ρ' ∧ h (enc x) ρ = .nx ρ') ∧ (p x = false → h (enc x) ρ = r)) {ρ : Mp.Env} (h0 : I ρ) : (xs.all p = true → ∃ ρ', I ρ' ∧ loopS h (xs.map enc) ρ = .nx ρ') ∧ (xs.all p = false → loopS h (xs.map enc) ρ = r) := by
  induction xs generalizing ρ with
  | nil => exact ⟨fun _ => ⟨ρ, h0, rfl⟩, fun z => nomatch z⟩
  | cons x xs ih =>
    obtain ⟨g1, g2⟩ := hh x List.mem_cons_self ρ h0
    rw [List.map_cons, List.all_cons]
    unfold loopS
    cases hp : p x with
    | true =>
      obtain ⟨ρ1, i1, e1⟩ := g1 hp
      rw [e1, Bool.true_and]
      exact ih (fun y hy => hh y (List.mem_cons_of_mem _ hy)) i1
    | false =>
      rw [g2 hp, Bool.false_and]
      refine ⟨(fun z => nomatch z), fun _ => ?_⟩
      cases r <;> first | rfl | exact absurd hr (fun z => z)
end Mp

set_option Elab.async false
set_option linter.all false
set_option maxRecDepth 100000
set_option maxHeartbeats 0
/-! M73: meanings of the defs that the laws share (printed by gen.py for law k73). -/
namespace K73
open PySem PySem.Spec PyProof.Rows L2 Mp
def m_places_of : Mp.Env → SR := sSeq (sDNew 1) (sSeq (sFor (iE (aCons (eVar 0) (aNil))) (tTupT 2 (tsCons (tName 2) (tsCons (tName 3) (tsNil)))) (sDPutD 1 (eVar 3) (e2 shlD (eC (.int 1)) (eVar 2)))) (sFrzD 1 (sRet (eVar 1))))
def f_places_of : List D → R D := runD 4 m_places_of
abbrev N_places_of : List Str := ["names", "bits", "place", "name"]
def m_mask_of : Mp.Env → SR := sSeq (sSet 2 (eC (.int 0))) (sSeq (sFor (iL (eVar 1)) (tName 3) (sSet 2 (e2 orD (eVar 2) (e2 dgetD (eVar 0) (eVar 3))))) (sRet (eVar 2)))
def f_mask_of : List D → R D := runD 4 m_mask_of
abbrev N_mask_of : List Str := ["bits", "row", "number", "name"]
def m_lead_of : Mp.Env → SR := sRet (e2 andD (eVar 0) (e1 negD (eVar 0)))
def f_lead_of : List D → R D := runD 1 m_lead_of
abbrev N_lead_of : List Str := ["number"]
def m_is_name : Mp.Env → SR := sSeq (sIf (tO (tN (toT (eIsi "str" (eVar 0)))) (tN (toT (eCh leD leD (eC (.int 1)) (eB (c1 lenD) (aCons (eVar 0) (aNil))) (eC (.int 6)))))) (sRet (eC (.bool false))) (sNx)) (sRet (eB (c1 allD) (aCons (eL (lLc [1] (tName 1) (tYesE) (e2 inD (eVar 1) (eC (.str "abcdefghijklmnopqrstuvwxyz0123456789"))) (iS (eVar 0)))) (aNil))))
def f_is_name : List D → R D := runD 2 m_is_name
abbrev N_is_name : List Str := ["thing", "sign"]
def m_keeps_bounds : Mp.Env → SR := sRet (eA (e2 leD (eVar 0) (eC (.int 12))) (eA (e2 leD (eB (c1 lenD) (aCons (eVar 1) (aNil))) (eC (.int 8))) (e2 leD (e2 subD (eVar 0) (eB (c1 lenD) (aCons (eVar 1) (aNil)))) (eC (.int 8)))))
def f_keeps_bounds : List D → R D := runD 2 m_keeps_bounds
abbrev N_keeps_bounds : List Str := ["many", "found"]
def m_points : Mp.Env → SR := sRetL (lSet (eL (l2 addL (eL (lLc [1] (tName 1) (tYesE) (e2 idxD (eVar 1) (eC (.int 1))) (iL (eVar 0)))) (eL (lLc [1] (tName 1) (tYesE) (e2 idxD (eVar 1) (eC (.int 2))) (iL (eVar 0)))))))
def f_points : List D → R (List D) := runL 2 m_points
abbrev N_points : List Str := ["net", "tie"]
def m_heaps_of : Mp.Env → SR := sSeq (sSet 2 (eL (lLst (aNil)))) (sSeq (sFor (iL (eVar 0)) (tTupT 3 (tsCons (tName 3) (tsCons (tName 4) (tsCons (tName 5) (tsNil))))) (sIf (toT (e2 inD (eVar 3) (eVar 1))) (sSeq (sSet 6 (eL (lLst (aCons (eL (lLst (aCons (eVar 4) (aCons (eVar 5) (aNil))))) (aCons (eL (lLst (aCons (eVar 3) (aNil)))) (aNil)))))) (sSeq (sSetL 7 (lLst (aNil))) (sSeq (sFor (iL (eVar 2)) (tName 8) (sIf (tO (toT (e2 inD (eVar 4) (e2 idxD (eVar 8) (eC (.int 0))))) (toT (e2 inD (eVar 5) (e2 idxD (eVar 8) (eC (.int 0)))))) (sSet 6 (eL (lLst (aCons (eL (l2 addL (e2 idxD (eVar 6) (eC (.int 0))) (e2 idxD (eVar 8) (eC (.int 0))))) (aCons (eL (l2 addL (e2 idxD (eVar 8) (eC (.int 1))) (e2 idxD (eVar 6) (eC (.int 1))))) (aNil)))))) (sApp 7 (eVar 8)))) (sSet 2 (eL (l2 addL (bVar 7) (eL (lLst (aCons (eVar 6) (aNil)))))))))) (sNx))) (sRet (eVar 2)))
def f_heaps_of : List D → R D := runD 9 m_heaps_of
abbrev N_heaps_of : List Str := ["net", "names", "heaps", "name", "one", "other", "joined", "others", "heap"]
def m_look : Mp.Env → SR := sIf (tN (toT (eVar 0))) (sRaise "NoText") (sNx)
def f_look : List D → R D := runD 1 m_look
abbrev N_look : List Str := ["right"]
def m_cell_at : Mp.Env → SR := sSeq (sIf (toT (e2 ltD (eVar 1) (eB (c1 lenD) (aCons (eVar 0) (aNil))))) (sRet (e2 idxD (eVar 0) (eVar 1))) (sNx)) (sRet (eC (.int 0)))
def f_cell_at : List D → R D := runD 2 m_cell_at
abbrev N_cell_at : List Str := ["_law_script", "_law_k"]
def m_names : Mp.Env → SR := sSeq (sSet 2 (eC (.str "abcdefghijklmnopqrstuvwxyz0123456789"))) (sSeq (sSet 3 (eC (.str ""))) (sSeq (sFor (iR1 (aCons (e2 addD (eC (.int 1)) (e2 modD (eVar 0) (eC (.int 6)))) (aNil))) (tName 4) (sSeq (sSet 3 (e2 addD (eVar 3) (e2 idxD (eVar 2) (e2 modD (e2 divD (eVar 0) (eC (.int 6))) (eC (.int 36)))))) (sSet 0 (e2 divD (eVar 0) (eC (.int 36)))))) (sSeq (sSet 5 (e2 modD (e2 divD (eVar 0) (eC (.int 6))) (eB (c1 lenD) (aCons (eVar 3) (aNil))))) (sSeq (sSet 6 (e2 modD (e2 divD (eVar 0) (eC (.int 216))) (eC (.int 36)))) (sSeq (sAsg (tTupT 2 (tsCons (tName 7) (tsCons (tName 8) (tsNil)))) (eTup (aCons (eS slS (eVar 3) (oNo) (oSo (eVar 5))) (aCons (eS slS (eVar 3) (oSo (e2 addD (eVar 5) (eC (.int 1)))) (oNo)) (aNil))))) (sRetL (lLc [4] (tName 4) (tYesE) (e2 addD (e2 addD (eVar 7) (e2 idxD (eVar 2) (e2 modD (e2 addD (eVar 6) (e2 mulD (eC (.int 7)) (eVar 4))) (eC (.int 36))))) (eVar 8)) (iR1 (aCons (eVar 1) (aNil))))))))))
def f_names : List D → R (List D) := runL 9 m_names
abbrev N_names : List Str := ["_law_big_here", "_law_many", "_law_signs", "_law_word", "_law_k", "_law_spot", "_law_first", "_law_head", "_law_tail"]
def m_ends : Mp.Env → SR := sSeq (sSet 3 (eL (lRg1 (eVar 2)))) (sSeq (sSetL 4 (lLst (aNil))) (sSeq (sSet 5 (eC (.int 0))) (sSeq (sFor (iR1 (aCons (eVar 1) (aNil))) (tName 6) (sSeq (sAsg (tTupT 2 (tsCons (tName 7) (tsCons (tName 8) (tsNil)))) (eTup (aCons (e2 modD (eVar 0) (eVar 2)) (aCons (e2 modD (e2 divD (eVar 0) (eVar 2)) (eVar 2)) (aNil))))) (sSeq (sSet 0 (e2 divD (e2 divD (eVar 0) (eVar 2)) (eVar 2))) (sIf (tA (toT (e2 eqD (e2 idxD (eVar 3) (eVar 7)) (e2 idxD (eVar 3) (eVar 8)))) (toT (e2 ltD (e2 subD (eB (c1 lenD) (aCons (bVar 4) (aNil))) (eVar 5)) (eC (.int 8))))) (sApp 4 (eTup (aCons (eVar 7) (aCons (eVar 8) (aNil))))) (sIf (tA (toT (e2 neD (e2 idxD (eVar 3) (eVar 7)) (e2 idxD (eVar 3) (eVar 8)))) (toT (e2 ltD (eVar 5) (eC (.int 8))))) (sSeq (sApp 4 (eTup (aCons (eVar 7) (aCons (eVar 8) (aNil))))) (sSeq (sAug 5 (· + ·) (eC (.int 1))) (sSeq (sSet 9 (e2 idxD (eVar 3) (eVar 8))) (sSet 3 (eL (lLc [10] (tName 10) (tYesE) (eI (toT (e2 eqD (eVar 10) (eVar 9))) (e2 idxD (eVar 3) (eVar 7)) (eVar 10)) (iL (eVar 3)))))))) (sNx)))))) (sRetO 4))))
def f_ends : List D → R (List D) := runL 11 m_ends
abbrev N_ends : List Str := ["_law_big_here", "_law_many", "_law_spread", "_law_heaps", "_law_found", "_law_high", "_law_k", "_law_one", "_law_other", "_law_gone", "_law_heap"]
def m__law_reduced : Mp.Env → SR := sSeq (sSet 1 (eL (lLst (aNil)))) (sSeq (sFor (iL (eVar 0)) (tName 2) (sSeq (sFor (iL (eVar 1)) (tName 3) (sIf (toT (e2 neD (e2 andD (e2 andD (eVar 2) (eVar 3)) (e1 negD (eVar 3))) (eC (.int 0)))) (sSet 2 (e2 xorD (eVar 2) (eVar 3))) (sNx))) (sIf (toT (e2 neD (eVar 2) (eC (.int 0)))) (sSeq (sSet 4 (e2 andD (eVar 2) (e1 negD (eVar 2)))) (sSet 1 (eL (l2 addL (eL (lLc [3] (tName 3) (tYesE) (eI (toT (e2 neD (e2 andD (eVar 3) (eVar 4)) (eC (.int 0)))) (e2 xorD (eVar 3) (eVar 2)) (eVar 3)) (iL (eVar 1)))) (eL (lLst (aCons (eVar 2) (aNil)))))))) (sNx)))) (sRet (eVar 1)))
def f__law_reduced : List D → R D := runD 5 m__law_reduced
abbrev N__law_reduced : List Str := ["_law_numbers", "_law_rows", "_law_number", "_law_row_here", "_law_lead"]
def m_even : Mp.Env → SR := sSeq (sSet 1 (eL (lSet (eL (l2 addL (eL (lLc [5] (tName 5) (tYesE) (e2 idxD (eVar 5) (eC (.int 1))) (iL (eVar 0)))) (eL (lLc [5] (tName 5) (tYesE) (e2 idxD (eVar 5) (eC (.int 2))) (iL (eVar 0))))))))) (sSeq (sSetL 2 (lLst (aNil))) (sSeq (sSetL 3 (lLst (aNil))) (sSeq (sFor (iE (aCons (eVar 0) (aNil))) (tTupT 2 (tsCons (tName 4) (tsCons (tName 5) (tsNil)))) (sSeq (sSet 6 (e2 xorD (e2 shlD (eC (.int 1)) (eM "list" indexD (eVar 1) (aCons (e2 idxD (eVar 5) (eC (.int 1))) (aNil)))) (e2 shlD (eC (.int 1)) (eM "list" indexD (eVar 1) (aCons (e2 idxD (eVar 5) (eC (.int 2))) (aNil)))))) (sSeq (sSet 7 (e2 shlD (eC (.int 1)) (eVar 4))) (sSeq (sForH 2 (tTupT 2 (tsCons (tName 8) (tsCons (tName 9) (tsNil)))) (sIf (toT (e2 neD (e2 andD (e2 andD (eVar 6) (eVar 8)) (e1 negD (eVar 8))) (eC (.int 0)))) (sSeq (sSet 6 (e2 xorD (eVar 6) (eVar 8))) (sSet 7 (e2 xorD (eVar 7) (eVar 9)))) (sNx))) (sIf (toT (e2 eqD (eVar 6) (eC (.int 0)))) (sApp 3 (eVar 7)) (sApp 2 (eTup (aCons (eVar 6) (aCons (eVar 7) (aNil)))))))))) (sRetO 3))))
def f_even : List D → R (List D) := runL 10 m_even
abbrev N_even : List Str := ["_law_net_here", "_law_knots", "_law_kept", "_law_found", "_law_place", "_law_tie", "_law_ends_here", "_law_mine", "_law_far", "_law_more"]
def fu_with_more_0 : Mp.Env → Nat := fun _ => 1000
def m_with_more : Mp.Env → SR := sSeq (sWhile fu_with_more_0 (toT (e2 ltD (eVar 1) (eVar 3))) (sSeq (sSet 4 (e2 modD (eVar 2) (eC (.int 4)))) (sSeq (sSet 5 (e2 modD (e2 divD (eVar 2) (eC (.int 4))) (eVar 1))) (sSeq (sSet 2 (e2 divD (e2 divD (eVar 2) (eC (.int 4))) (eVar 1))) (sSeq (sIf (tA (toT (e2 eqD (eVar 4) (eC (.int 0)))) (toT (e2 ltD (eB (c1 lenD) (aCons (eVar 0) (aNil))) (eC (.int 8))))) (sSet 0 (eL (l2 addL (eVar 0) (eL (lLst (aCons (e2 shlD (eC (.int 1)) (eVar 1)) (aNil))))))) (sIf (tA (toT (e2 eqD (eVar 4) (eC (.int 1)))) (toT (e2 ltD (eB (c1 lenD) (aCons (eVar 0) (aNil))) (eC (.int 8))))) (sSet 0 (eL (l2 addL (eVar 0) (eL (lLst (aCons (e2 orD (e2 shlD (eC (.int 1)) (eVar 1)) (e2 shlD (eC (.int 1)) (eVar 5))) (aNil))))))) (sIf (toT (e2 eqD (eVar 4) (eC (.int 2)))) (sSet 0 (eL (lLc [6] (tName 6) (tYesE) (e2 orD (eVar 6) (e2 shlD (e2 andD (e2 shrD (eVar 6) (eVar 5)) (eC (.int 1))) (eVar 1))) (iL (eVar 0))))) (sNx)))) (sAug 1 (· + ·) (eC (.int 1)))))))) (sRet (eVar 0))
def f_with_more : List D → R D := runD 7 m_with_more
abbrev N_with_more : List Str := ["_law_base", "_law_many", "_law_big_here", "_law_most", "_law_way", "_law_mate", "_law_step"]
def m_row : Mp.Env → SR := sRetL (lLc [2, 3] (tTupT 2 (tsCons (tName 2) (tsCons (tName 3) (tsNil)))) (toT (e2 eqD (e2 andD (e2 shrD (eVar 1) (eVar 2)) (eC (.int 1))) (eC (.int 1)))) (eVar 3) (iE (aCons (eVar 0) (aNil))))
def f_row : List D → R (List D) := runL 4 m_row
abbrev N_row : List Str := ["_law_names_here", "_law_number", "_law_k", "_law_name"]
def m_mask : Mp.Env → SR := sRet (eB (c1 sumD) (aCons (eL (lLc [2] (tName 2) (tYesE) (e2 shlD (eC (.int 1)) (eM "list" indexD (eVar 0) (aCons (eVar 2) (aNil)))) (iL (eVar 1)))) (aNil)))
def f_mask : List D → R D := runD 3 m_mask
abbrev N_mask : List Str := ["_law_names_here", "_law_row_here", "_law_name"]
def m_free : Mp.Env → SR := sSeq (sSetL 2 (lLst (aNil))) (sSeq (sFor (iR1 (aCons (e2 modD (eVar 0) (eC (.int 10))) (aNil))) (tName 3) (sSeq (sApp 2 (e2 modD (e2 divD (eVar 0) (eC (.int 10))) (e2 shlD (eC (.int 1)) (eVar 1)))) (sSet 0 (e2 shrD (e2 divD (eVar 0) (eC (.int 10))) (eVar 1))))) (sRetO 2))
def f_free : List D → R (List D) := runL 4 m_free
abbrev N_free : List Str := ["_law_big_here", "_law_many", "_law_found", "_law_k"]
def m_written : Mp.Env → SR := sSeq (sIf (toT (e2 eqD (eVar 0) (eL (lLst (aNil))))) (sRet (eC (.str "-"))) (sNx)) (sRet (eM "str" joinD (eC (.str " ")) (aCons (eVar 0) (aNil))))
def f_written : List D → R D := runD 1 m_written
abbrev N_written : List Str := ["_law_row_here"]
def m_bent : Mp.Env → SR := sSeq (sSet 2 (eC (.str "ab1z -/,-  A.:_0"))) (sSeq (sFor (iR1 (aCons (e2 modD (eVar 1) (eC (.int 3))) (aNil))) (tName 3) (sSeq (sSet 1 (e2 divD (eVar 1) (eC (.int 3)))) (sSeq (sSet 4 (e2 modD (eVar 1) (e2 addD (eB (c1 lenD) (aCons (eVar 0) (aNil))) (eC (.int 1))))) (sSeq (sSet 5 (e2 idxD (eVar 2) (e2 modD (e2 divD (eVar 1) (eC (.int 1024))) (eC (.int 16))))) (sSeq (sSet 6 (e2 modD (e2 divD (eVar 1) (eC (.int 16384))) (eC (.int 3)))) (sSeq (sSet 0 (e2 addD (e2 addD (eS slS (eVar 0) (oNo) (oSo (eVar 4))) (e2 mulD (eVar 5) (eB (c1 intD) (aCons (e2 ltD (eVar 6) (eC (.int 2))) (aNil))))) (eS slS (eVar 0) (oSo (e2 addD (eVar 4) (eB (c1 intD) (aCons (e2 gtD (eVar 6) (eC (.int 0))) (aNil))))) (oNo)))) (sSet 1 (e2 divD (eVar 1) (eC (.int 49152)))))))))) (sRet (eVar 0)))
def f_bent : List D → R D := runD 7 m_bent
abbrev N_bent : List Str := ["_law_text", "_law_big_here", "_law_signs", "_law_k", "_law_spot", "_law_sign", "_law_way"]
def m__law_is_name : Mp.Env → SR := sSeq (sSet 1 (eC (.str "abcdefghijklmnopqrstuvwxyz0123456789"))) (sRet (eA (eCh ltD ltD (eC (.int 0)) (eB (c1 lenD) (aCons (eVar 0) (aNil))) (eC (.int 7))) (eB (c1 allD) (aCons (eL (lLc [2] (tName 2) (tYesE) (e2 inD (eVar 2) (eVar 1)) (iS (eVar 0)))) (aNil)))))
def f__law_is_name : List D → R D := runD 3 m__law_is_name
abbrev N__law_is_name : List Str := ["_law_word", "_law_letters", "_law_sign"]
def m_is_row : Mp.Env → SR := sSeq (sIf (tO (tN (toT (eIsi "list" (eVar 0)))) (tN (toT (eB (c1 allD) (aCons (eL (lLc [1] (tName 1) (tYesE) (eCall 1 f_is_name (aCons (eVar 1) (aNil))) (iL (eVar 0)))) (aNil)))))) (sRet (eC (.bool false))) (sNx)) (sRet (eB (c1 allD) (aCons (eL (lLc [2] (tName 2) (tYesE) (e2 ltD (e2 idxD (eVar 0) (eVar 2)) (e2 idxD (eVar 0) (e2 addD (eVar 2) (eC (.int 1))))) (iR1 (aCons (e2 subD (eB (c1 lenD) (aCons (eVar 0) (aNil))) (eC (.int 1))) (aNil))))) (aNil))))
def f_is_row : List D → R D := runD 3 m_is_row
abbrev N_is_row : List Str := ["thing", "one", "k"]
def m_is_tie : Mp.Env → SR := sSeq (sIf (tO (tN (toT (eIsi "tuple" (eVar 0)))) (toT (e2 neD (eB (c1 lenD) (aCons (eVar 0) (aNil))) (eC (.int 3))))) (sRet (eC (.bool false))) (sNx)) (sRet (eA (eB (c1 allD) (aCons (eL (lLc [1] (tName 1) (tYesE) (eCall 1 f_is_name (aCons (eVar 1) (aNil))) (iT (eVar 0)))) (aNil))) (e2 leD (e2 idxD (eVar 0) (eC (.int 1))) (e2 idxD (eVar 0) (eC (.int 2))))))
def f_is_tie : List D → R D := runD 2 m_is_tie
abbrev N_is_tie : List Str := ["thing", "part"]
def m_pieces : Mp.Env → SR := sSeq (sSet 1 (eL (lLc [2] (tName 2) (tYesE) (e2 idxD (eVar 2) (eC (.int 0))) (iL (eVar 0))))) (sRetL (eB (cl1 sortD) (aCons (eL (lLc [3] (tName 3) (tYesE) (eL (eB (cl1 sortD) (aCons (e2 idxD (eVar 3) (eC (.int 1))) (aNil)))) (iL (eCall 2 f_heaps_of (aCons (eVar 0) (aCons (eVar 1) (aNil))))))) (aNil))))
def f_pieces : List D → R (List D) := runL 4 m_pieces
abbrev N_pieces : List Str := ["net", "names", "tie", "heap"]
def m_read_tie : Mp.Env → SR := sSeq (sSet 1 (eL (eM "str" splitD (eVar 0) (aCons (eC (.str " ")) (aNil))))) (sSeq (sExpr (eCall 1 f_look (aCons (e2 eqD (eB (c1 lenD) (aCons (eVar 1) (aNil))) (eC (.int 3))) (aNil)))) (sRet (eTup (aCons (e2 idxD (eVar 1) (eC (.int 0))) (aCons (e2 idxD (eVar 1) (eC (.int 1))) (aCons (e2 idxD (eVar 1) (eC (.int 2))) (aNil)))))))
def f_read_tie : List D → R D := runD 2 m_read_tie
abbrev N_read_tie : List Str := ["text", "words"]
def m_big : Mp.Env → SR := sSeq (sIf (toT (e2 geD (eB (c1 absD) (aCons (eCall 2 f_cell_at (aCons (eVar 0) (aCons (eVar 1) (aNil)))) (aNil))) (e2 powD (eC (.int 10)) (eC (.int 18))))) (sRet (e2 subD (eB (c1 absD) (aCons (eCall 2 f_cell_at (aCons (eVar 0) (aCons (eVar 1) (aNil)))) (aNil))) (e2 powD (eC (.int 10)) (eC (.int 18))))) (sNx)) (sSeq (sSet 2 (e2 addD (e2 addD (e2 addD (e2 modD (eCall 2 f_cell_at (aCons (eVar 0) (aCons (eC (.int 0)) (aNil)))) (eC (.int 1000003))) (e2 mulD (eC (.int 7919)) (eVar 1))) (e2 mulD (eC (.int 31)) (eCall 2 f_cell_at (aCons (eVar 0) (aCons (eVar 1) (aNil)))))) (eC (.int 17)))) (sSeq (sSet 2 (e2 addD (e2 modD (eVar 2) (eC (.int 2147483629))) (eC (.int 11)))) (sSeq (sSet 3 (eC (.int 0))) (sSeq (sFor (iR1 (aCons (eC (.int 8)) (aNil))) (tName 4) (sSeq (sSet 2 (e2 modD (e2 addD (e2 addD (e2 addD (e2 mulD (eVar 2) (eC (.int 48271))) (e2 divD (eVar 2) (eC (.int 40692)))) (e2 mulD (e2 mulD (eC (.int 19)) (eVar 4)) (eVar 4))) (eVar 1)) (eC (.int 2147483647)))) (sSet 3 (e2 addD (e2 mulD (eVar 3) (eC (.int 2147483647))) (e2 modD (e2 mulD (eVar 2) (eC (.int 69621))) (eC (.int 2147483629))))))) (sRet (eVar 3))))))
def f_big : List D → R D := runD 5 m_big
abbrev N_big : List Str := ["_law_script", "_law_k", "_law_x", "_law_total", "_law_j"]
def m_crossing : Mp.Env → SR := sSeq (sSet 2 (eCall 1 f__law_reduced (aCons (eVar 0) (aNil)))) (sSeq (sSet 3 (eB (c1 sumD) (aCons (eL (lLc [6] (tName 6) (tYesE) (e2 andD (eVar 6) (e1 negD (eVar 6))) (iL (eVar 2)))) (aNil)))) (sSeq (sSetL 4 (lLst (aNil))) (sSeq (sFor (iR1 (aCons (eVar 1) (aNil))) (tName 5) (sIf (toT (e2 eqD (e2 andD (e2 shrD (eVar 3) (eVar 5)) (eC (.int 1))) (eC (.int 0)))) (sApp 4 (e2 addD (e2 shlD (eC (.int 1)) (eVar 5)) (eB (c1 sumD) (aCons (eL (lLc [6] (tName 6) (toT (e2 eqD (e2 andD (e2 shrD (eVar 6) (eVar 5)) (eC (.int 1))) (eC (.int 1)))) (e2 andD (eVar 6) (e1 negD (eVar 6))) (iL (eVar 2)))) (aNil))))) (sNx))) (sRetO 4))))
def f_crossing : List D → R (List D) := runL 7 m_crossing
abbrev N_crossing : List Str := ["_law_numbers", "_law_many", "_law_rows", "_law_fronts", "_law_found", "_law_place", "_law_row_here"]
def m_row_read : Mp.Env → SR := sSeq (sIf (toT (e2 eqD (eVar 0) (eC (.str "-")))) (sRet (eL (lLst (aNil)))) (sNx)) (sSeq (sSet 1 (eL (eM "str" splitD (eVar 0) (aCons (eC (.str " ")) (aNil))))) (sSeq (sIf (tO (tN (toT (eB (c1 allD) (aCons (eL (lLc [2] (tName 2) (tYesE) (eCall 1 f__law_is_name (aCons (eVar 2) (aNil))) (iL (eVar 1)))) (aNil))))) (toT (e2 neD (eVar 1) (eL (lSet (eVar 1)))))) (sRet (eC (.none))) (sNx)) (sRet (eVar 1))))
def f_row_read : List D → R D := runD 3 m_row_read
abbrev N_row_read : List Str := ["_law_text", "_law_words", "_law_word"]
def m_net_due : Mp.Env → SR := sSeq (sIf (toT (e2 eqD (eVar 0) (eC (.str "-")))) (sRet (eL (lLst (aNil)))) (sNx)) (sSeq (sSet 1 (eL (lLc [5] (tName 5) (tYesE) (eB (c1 tupleD) (aCons (eL (eM "str" splitD (eVar 5) (aCons (eC (.str " ")) (aNil)))) (aNil))) (iL (eL (eM "str" splitD (eVar 0) (aCons (eC (.str ", ")) (aNil)))))))) (sSeq (sFor (iL (eVar 1)) (tName 2) (sIf (tO (toT (e2 neD (eB (c1 lenD) (aCons (eVar 2) (aNil))) (eC (.int 3)))) (tO (tN (toT (eB (c1 allD) (aCons (eL (lLc [6] (tName 6) (tYesE) (eCall 1 f__law_is_name (aCons (eVar 6) (aNil))) (iT (eVar 2)))) (aNil))))) (toT (e2 gtD (e2 idxD (eVar 2) (eC (.int 1))) (e2 idxD (eVar 2) (eC (.int 2))))))) (sRet (eC (.str "NoText"))) (sNx))) (sSeq (sSet 3 (eL (lLc [2] (tName 2) (tYesE) (e2 idxD (eVar 2) (eC (.int 0))) (iL (eVar 1))))) (sSeq (sIf (toT (e2 neD (eVar 3) (eL (lSet (eVar 3))))) (sRet (eC (.str "NoText"))) (sNx)) (sSeq (sSet 4 (eB (c1 lenD) (aCons (eL (eCall 1 f_even (aCons (eVar 1) (aNil)))) (aNil)))) (sSeq (sIf (tO (toT (e2 gtD (eB (c1 lenD) (aCons (eVar 1) (aNil))) (eC (.int 12)))) (tO (toT (e2 gtD (eVar 4) (eC (.int 8)))) (toT (e2 gtD (e2 subD (eB (c1 lenD) (aCons (eVar 1) (aNil))) (eVar 4)) (eC (.int 8)))))) (sRet (eC (.str "TooMany"))) (sNx)) (sRet (eVar 1))))))))
def f_net_due : List D → R D := runD 7 m_net_due
abbrev N_net_due : List Str := ["_law_text", "_law_ties", "_law_tie", "_law_names_here", "_law_low", "_law_part", "_law_word"]
def m_reduced : Mp.Env → SR := sSeq (sSetL 1 (lLst (aNil))) (sSeq (sFor (iL (eVar 0)) (tName 2) (sSeq (sForH 1 (tName 3) (sIf (toT (e2 neD (e2 andD (eVar 2) (eCall 1 f_lead_of (aCons (eVar 3) (aNil)))) (eC (.int 0)))) (sSet 2 (e2 xorD (eVar 2) (eVar 3))) (sNx))) (sIf (toT (e2 neD (eVar 2) (eC (.int 0)))) (sSeq (sSet 4 (eCall 1 f_lead_of (aCons (eVar 2) (aNil)))) (sSeq (sSetL 1 (lLc [3] (tName 3) (tYesE) (eI (toT (e2 neD (e2 andD (eVar 3) (eVar 4)) (eC (.int 0)))) (e2 xorD (eVar 3) (eVar 2)) (eVar 3)) (iL (bVar 1)))) (sApp 1 (eVar 2)))) (sNx)))) (sRetL (lSortK f_lead_of (bVar 1))))
def f_reduced : List D → R (List D) := runL 5 m_reduced
abbrev N_reduced : List Str := ["numbers", "rows", "number", "row", "lead"]
def m_are_rows_of : Mp.Env → SR := sSeq (sIf (tO (tN (toT (eIsi "list" (eVar 0)))) (tO (toT (e2 gtD (eB (c1 lenD) (aCons (eVar 0) (aNil))) (eC (.int 16)))) (tN (toT (eB (c1 allD) (aCons (eL (lLc [2] (tName 2) (tYesE) (eCall 1 f_is_row (aCons (eVar 2) (aNil))) (iL (eVar 0)))) (aNil))))))) (sRet (eC (.bool false))) (sNx)) (sSeq (sFor (iL (eVar 0)) (tName 2) (sIf (tN (toT (eB (c1 allD) (aCons (eL (lLc [3] (tName 3) (tYesE) (e2 inD (eVar 3) (eVar 1)) (iL (eVar 2)))) (aNil))))) (sRet (eC (.bool false))) (sNx))) (sRet (eC (.bool true))))
def f_are_rows_of : List D → R D := runD 4 m_are_rows_of
abbrev N_are_rows_of : List Str := ["thing", "names", "row", "name"]
def m_are_ties : Mp.Env → SR := sSeq (sIf (tO (tN (toT (eIsi "list" (eVar 0)))) (tN (toT (eB (c1 allD) (aCons (eL (lLc [1] (tName 1) (tYesE) (eCall 1 f_is_tie (aCons (eVar 1) (aNil))) (iL (eVar 0)))) (aNil)))))) (sRet (eC (.bool false))) (sNx)) (sRet (eB (c1 allD) (aCons (eL (lLc [2] (tName 2) (tYesE) (e2 ltD (e2 idxD (e2 idxD (eVar 0) (eVar 2)) (eC (.int 0))) (e2 idxD (e2 idxD (eVar 0) (e2 addD (eVar 2) (eC (.int 1)))) (eC (.int 0)))) (iR1 (aCons (e2 subD (eB (c1 lenD) (aCons (eVar 0) (aNil))) (eC (.int 1))) (aNil))))) (aNil))))
def f_are_ties : List D → R D := runD 3 m_are_ties
abbrev N_are_ties : List Str := ["thing", "tie", "place"]
def m_is_bounded : Mp.Env → SR := sSeq (sIf (toT (e2 gtD (eB (c1 lenD) (aCons (eVar 0) (aNil))) (eC (.int 12)))) (sRet (eC (.bool false))) (sNx)) (sSeq (sSet 1 (e2 subD (eB (c1 lenD) (aCons (eL (eCall 1 f_points (aCons (eVar 0) (aNil)))) (aNil))) (eB (c1 lenD) (aCons (eL (eCall 1 f_pieces (aCons (eVar 0) (aNil)))) (aNil))))) (sRet (eA (e2 leD (eVar 1) (eC (.int 8))) (e2 leD (e2 subD (eB (c1 lenD) (aCons (eVar 0) (aNil))) (eVar 1)) (eC (.int 8))))))
def f_is_bounded : List D → R D := runD 2 m_is_bounded
abbrev N_is_bounded : List Str := ["net", "high"]
def m_read_row : Mp.Env → SR := sSeq (sIf (toT (e2 eqD (eVar 0) (eC (.str "-")))) (sRet (eL (lLst (aNil)))) (sNx)) (sSeq (sSet 1 (eL (eM "str" splitD (eVar 0) (aCons (eC (.str " ")) (aNil))))) (sSeq (sExpr (eCall 1 f_look (aCons (eCall 1 f_is_row (aCons (eVar 1) (aNil))) (aNil)))) (sRet (eVar 1))))
def f_read_row : List D → R D := runD 2 m_read_row
abbrev N_read_row : List Str := ["text", "row"]
def m_net : Mp.Env → SR := sSeq (sSet 2 (eCall 2 f_big (aCons (eVar 0) (aCons (eVar 1) (aNil))))) (sSeq (sSet 3 (eL (eCall 3 f_ends (aCons (eCall 2 f_big (aCons (eVar 0) (aCons (e2 addD (eVar 1) (eC (.int 1))) (aNil)))) (aCons (e2 modD (e2 divD (eVar 2) (eC (.int 8))) (eC (.int 13))) (aCons (e2 idxD (eL (lLst (aCons (eC (.int 4)) (aCons (eC (.int 5)) (aCons (eC (.int 3)) (aCons (eC (.int 6)) (aCons (eC (.int 5)) (aCons (eC (.int 9)) (aCons (eC (.int 2)) (aCons (eC (.int 10)) (aNil))))))))))) (e2 modD (eVar 2) (eC (.int 8)))) (aNil))))))) (sSeq (sSet 4 (eL (eCall 2 f_names (aCons (e2 divD (eVar 2) (eC (.int 104))) (aCons (eB (c1 lenD) (aCons (eVar 3) (aNil))) (aNil)))))) (sSeq (sSet 5 (eL (eCall 2 f_names (aCons (eCall 2 f_big (aCons (eVar 0) (aCons (e2 addD (eVar 1) (eC (.int 2))) (aNil)))) (aCons (eC (.int 10)) (aNil)))))) (sSeq (sSetL 6 (lLst (aNil))) (sSeq (sFor (iZ (aCons (eVar 4) (aCons (eVar 3) (aNil)))) (tTupT 2 (tsCons (tName 7) (tsCons (tName 8) (tsNil)))) (sApp 6 (e2 addD (eTup (aCons (eVar 7) (aNil))) (eB (c1 tupleD) (aCons (eL (eB (cl1 sortD) (aCons (eL (lLst (aCons (e2 idxD (eVar 5) (e2 idxD (eVar 8) (eC (.int 0)))) (aCons (e2 idxD (eVar 5) (e2 idxD (eVar 8) (eC (.int 1)))) (aNil))))) (aNil)))) (aNil)))))) (sRetL (eB (cl1 sortD) (aCons (bVar 6) (aNil)))))))))
def f_net : List D → R (List D) := runL 9 m_net
abbrev N_net : List Str := ["_law_script", "_law_at", "_law_head", "_law_ends_here", "_law_ties", "_law_knots", "_law_net_here", "_law_tie", "_law_two"]
def m_small : Mp.Env → SR := sSeq (sIf (toT (e2 ltD (eVar 0) (eC (.int 2)))) (sSeq (sSet 1 (eL (lLst (aCons (eC (.int 7)) (aCons (eC (.int 25)) (aCons (eC (.int 42)) (aCons (eC (.int 75)) (aNil)))))))) (sRet (eTup (aCons (eC (.int 7)) (aCons (e2 idxD (eL (lLst (aCons (eVar 1) (aCons (eL (eCall 2 f_crossing (aCons (eVar 1) (aCons (eC (.int 7)) (aNil))))) (aNil))))) (eVar 0)) (aNil)))))) (sNx)) (sSeq (sSet 2 (eL (lLst (aNil)))) (sSeq (sFor (iR1 (aCons (eC (.int 6)) (aNil))) (tName 3) (sSet 2 (eL (l2 addL (eVar 2) (eL (lLc [6] (tName 6) (tYesE) (eTup (aCons (eVar 3) (aCons (eVar 6) (aNil)))) (iR1 (aCons (eC (.int 6)) (aNil))))))))) (sSeq (sIf (toT (e2 eqD (eVar 0) (eC (.int 2)))) (sSet 2 (eL (lLc [7] (tName 7) (toT (eCh ltD ltD (e2 idxD (eVar 7) (eC (.int 0))) (e2 idxD (eVar 7) (eC (.int 1))) (eC (.int 5)))) (eVar 7) (iL (eVar 2))))) (sSet 2 (eL (lLc [7] (tName 7) (toT (eCh ltD leD (e2 idxD (eVar 7) (eC (.int 0))) (eC (.int 3)) (e2 idxD (eVar 7) (eC (.int 1))))) (eVar 7) (iL (eVar 2)))))) (sSeq (sSetL 4 (lLst (aNil))) (sSeq (sFor (iR1 (aCons (eC (.int 6)) (aNil))) (tName 5) (sApp 4 (eB (c1 sumD) (aCons (eL (lLc [8, 7] (tTupT 2 (tsCons (tName 8) (tsCons (tName 7) (tsNil)))) (toT (e2 inD (eVar 5) (eVar 7))) (e2 shlD (eC (.int 1)) (eVar 8)) (iE (aCons (eVar 2) (aNil))))) (aNil))))) (sFrz 4 (sRet (eTup (aCons (eB (c1 lenD) (aCons (eVar 2) (aNil))) (aCons (eCall 1 f__law_reduced (aCons (eVar 4) (aNil))) (aNil)))))))))))
def f_small : List D → R D := runD 9 m_small
abbrev N_small : List Str := ["_law_kind", "_law_base", "_law_pairs", "_law_one", "_law_lights", "_law_point", "_law_other", "_law_pair", "_law_k"]
def m_table_due : Mp.Env → SR := sSeq (sSet 1 (eL (lLc [5] (tName 5) (tYesE) (eCall 1 f_row_read (aCons (eVar 5) (aNil))) (iL (eL (eM "str" splitD (eVar 0) (aCons (eC (.str " / ")) (aNil)))))))) (sSeq (sIf (toT (e2 inD (eC (.none)) (eVar 1))) (sRet (eC (.str "NoText"))) (sNx)) (sSeq (sFor (iL (eVar 1)) (tName 2) (sIf (tN (toT (eB (c1 allD) (aCons (eL (lLc [6] (tName 6) (tYesE) (e2 inD (eVar 6) (e2 idxD (eVar 1) (eC (.int 0)))) (iL (eVar 2)))) (aNil))))) (sRet (eC (.str "NoText"))) (sNx))) (sSeq (sSet 3 (eB (c1 lenD) (aCons (e2 idxD (eVar 1) (eC (.int 0))) (aNil)))) (sSeq (sSet 4 (eB (c1 lenD) (aCons (eCall 1 f__law_reduced (aCons (eL (lLc [2] (tName 2) (tYesE) (eCall 2 f_mask (aCons (e2 idxD (eVar 1) (eC (.int 0))) (aCons (eVar 2) (aNil)))) (iL (eL (eS slL (eVar 1) (oSo (eC (.int 1))) (oNo)))))) (aNil))) (aNil)))) (sSeq (sIf (tO (toT (e2 gtD (eVar 3) (eC (.int 12)))) (tO (toT (e2 gtD (eB (c1 lenD) (aCons (eVar 1) (aNil))) (eC (.int 17)))) (tO (toT (e2 gtD (eVar 4) (eC (.int 8)))) (toT (e2 gtD (e2 subD (eVar 3) (eVar 4)) (eC (.int 8))))))) (sRet (eC (.str "TooMany"))) (sNx)) (sRet (eTup (aCons (e2 idxD (eVar 1) (eC (.int 0))) (aCons (eL (eS slL (eVar 1) (oSo (eC (.int 1))) (oNo))) (aNil))))))))))
def f_table_due : List D → R D := runD 7 m_table_due
abbrev N_table_due : List Str := ["_law_text", "_law_rows", "_law_row_here", "_law_many", "_law_high", "_law_part", "_law_name"]
def m_steps_of : Mp.Env → SR := sSeq (sSet 1 (eCall 1 f_places_of (aCons (e2 idxD (eVar 0) (eC (.int 0))) (aNil)))) (sRetL (eCall 1 f_reduced (aCons (eL (lLc [2] (tName 2) (tYesE) (eCall 2 f_mask_of (aCons (eVar 1) (aCons (eVar 2) (aNil)))) (iL (e2 idxD (eVar 0) (eC (.int 1)))))) (aNil))))
def f_steps_of : List D → R (List D) := runL 3 m_steps_of
abbrev N_steps_of : List Str := ["table", "bits", "row"]
def m_is_net : Mp.Env → SR := sRet (eA (eCall 1 f_are_ties (aCons (eVar 0) (aNil))) (eCall 1 f_is_bounded (aCons (eVar 0) (aNil))))
def f_is_net : List D → R D := runD 1 m_is_net
abbrev N_is_net : List Str := ["thing"]
def fu__law_steps_of_0 : Mp.Env → Nat := fun _ => 1000
def m__law_steps_of : Mp.Env → SR := sSeq (sSet 2 (eCall 2 f_big (aCons (eVar 0) (aCons (e2 addD (eVar 1) (eC (.int 3))) (aNil))))) (sSeq (sSet 3 (eL (eCall 2 f_net (aCons (eVar 0) (aCons (eVar 1) (aNil)))))) (sSeq (sAsg (tTupT 2 (tsCons (tName 4) (tsCons (tName 5) (tsNil)))) (eTup (aCons (eB (c1 lenD) (aCons (eVar 3) (aNil))) (aCons (eL (eCall 1 f_even (aCons (eVar 3) (aNil)))) (aNil))))) (sSeq (sIf (toT (e2 ltD (e2 modD (eVar 2) (eC (.int 8))) (eC (.int 2)))) (sSet 5 (eL (l2 addL (eVar 5) (eL (eS slL (eL (eCall 2 f_free (aCons (e2 divD (eVar 2) (eC (.int 8))) (aCons (eVar 4) (aNil))))) (oNo) (oSo (e2 addD (eC (.int 1)) (e2 modD (eVar 2) (eC (.int 8)))))))))) (sNx)) (sSeq (sIf (toT (e2 eqD (e2 modD (eVar 2) (eC (.int 8))) (eC (.int 2)))) (sSeq (sSet 4 (e2 addD (eC (.int 1)) (e2 modD (e2 divD (eVar 2) (eC (.int 8))) (eC (.int 12))))) (sSet 5 (eL (eCall 2 f_free (aCons (e2 divD (eVar 2) (eC (.int 96))) (aCons (eVar 4) (aNil))))))) (sNx)) (sSeq (sIf (toT (e2 gtD (e2 modD (eVar 2) (eC (.int 8))) (eC (.int 4)))) (sSeq (sAsg (tTupT 2 (tsCons (tName 4) (tsCons (tName 5) (tsNil)))) (eCall 1 f_small (aCons (e2 modD (e2 divD (eVar 2) (eC (.int 8))) (eC (.int 4))) (aNil)))) (sSeq (sSet 6 (eB (c2 minI) (aCons (eC (.int 12)) (aCons (e2 addD (eVar 4) (e2 modD (e2 divD (eVar 2) (eC (.int 32))) (eC (.int 4)))) (aNil))))) (sSeq (sSet 5 (eCall 4 f_with_more (aCons (eVar 5) (aCons (eVar 4) (aCons (e2 divD (eVar 2) (eC (.int 128))) (aCons (eVar 6) (aNil))))))) (sSet 4 (eVar 6))))) (sNx)) (sSeq (sSet 5 (eL (eS slL (eCall 1 f__law_reduced (aCons (eVar 5) (aNil))) (oNo) (oSo (eC (.int 8)))))) (sSeq (sWhile fu__law_steps_of_0 (toT (e2 gtD (e2 subD (eVar 4) (eB (c1 lenD) (aCons (eVar 5) (aNil)))) (eC (.int 8)))) (sSeq (sAug 4 (· - ·) (eC (.int 1))) (sSet 5 (eCall 1 f__law_reduced (aCons (eL (lLc [7] (tName 7) (tYesE) (e2 andD (eVar 7) (e2 subD (e2 shlD (eC (.int 1)) (eVar 4)) (eC (.int 1)))) (iL (eVar 5)))) (aNil)))))) (sRet (eTup (aCons (eVar 4) (aCons (eVar 5) (aNil))))))))))))
def f__law_steps_of : List D → R D := runD 8 m__law_steps_of
abbrev N__law_steps_of : List Str := ["_law_script", "_law_at", "_law_big_here", "_law_net_here", "_law_many", "_law_base", "_law_most", "_law_step"]
def m_is_table : Mp.Env → SR := sSeq (sIf (tO (tN (toT (eIsi "tuple" (eVar 0)))) (tO (toT (e2 neD (eB (c1 lenD) (aCons (eVar 0) (aNil))) (eC (.int 2)))) (tN (toT (eCall 1 f_is_row (aCons (e2 idxD (eVar 0) (eC (.int 0))) (aNil))))))) (sRet (eC (.bool false))) (sNx)) (sSeq (sIf (tO (toT (e2 gtD (eB (c1 lenD) (aCons (e2 idxD (eVar 0) (eC (.int 0))) (aNil))) (eC (.int 12)))) (tN (toT (eCall 2 f_are_rows_of (aCons (e2 idxD (eVar 0) (eC (.int 1))) (aCons (e2 idxD (eVar 0) (eC (.int 0))) (aNil))))))) (sRet (eC (.bool false))) (sNx)) (sRet (eCall 2 f_keeps_bounds (aCons (eB (c1 lenD) (aCons (e2 idxD (eVar 0) (eC (.int 0))) (aNil))) (aCons (eL (eCall 1 f_steps_of (aCons (eVar 0) (aNil)))) (aNil))))))
def f_is_table : List D → R D := runD 1 m_is_table
abbrev N_is_table : List Str := ["thing"]
def m_read_net : Mp.Env → SR := sSeq (sExpr (eCall 1 f_look (aCons (eIsi "str" (eVar 0)) (aNil)))) (sSeq (sIf (toT (e2 eqD (eVar 0) (eC (.str "-")))) (sRet (eL (lLst (aNil)))) (sNx)) (sSeq (sSet 1 (eL (lLx [2] (tName 2) (tYesE) (eCall 1 f_read_tie (aCons (eVar 2) (aNil))) (iL (eL (eM "str" splitD (eVar 0) (aCons (eC (.str ", ")) (aNil)))))))) (sSeq (sExpr (eCall 1 f_look (aCons (eCall 1 f_are_ties (aCons (eVar 1) (aNil))) (aNil)))) (sSeq (sIf (tN (toT (eCall 1 f_is_net (aCons (eVar 1) (aNil))))) (sRaise "TooMany") (sNx)) (sRet (eVar 1))))))
def f_read_net : List D → R D := runD 3 m_read_net
abbrev N_read_net : List Str := ["text", "net", "part"]
def m_table : Mp.Env → SR := sSeq (sAsg (tTupT 2 (tsCons (tName 2) (tsCons (tName 3) (tsNil)))) (eCall 2 f__law_steps_of (aCons (eVar 0) (aCons (eVar 1) (aNil))))) (sSeq (sSet 4 (eL (eB (cl1 sortD) (aCons (eL (eCall 2 f_names (aCons (eCall 2 f_big (aCons (eVar 0) (aCons (e2 addD (eVar 1) (eC (.int 4))) (aNil)))) (aCons (eVar 2) (aNil))))) (aNil))))) (sSeq (sSetL 5 (eB (cl1 listD) (aCons (eVar 3) (aNil)))) (sSeq (sSet 6 (eCall 2 f_big (aCons (eVar 0) (aCons (e2 addD (eVar 1) (eC (.int 5))) (aNil))))) (sSeq (sFor (iR1 (aCons (e2 modD (eVar 6) (eC (.int 9))) (aNil))) (tName 7) (sSeq (sSet 8 (eC (.int 0))) (sSeq (sFor (iL (eL (eS slL (bVar 5) (oNo) (oSo (eB (c1 lenD) (aCons (eVar 3) (aNil))))))) (tName 9) (sSeq (sSet 8 (e2 xorD (eVar 8) (e2 mulD (eVar 9) (e2 modD (e2 divD (eVar 6) (eC (.int 9))) (eC (.int 2)))))) (sSet 6 (e2 divD (eVar 6) (eC (.int 2)))))) (sIns 5 (e2 modD (e2 divD (eVar 6) (eC (.int 9))) (e2 addD (eB (c1 lenD) (aCons (bVar 5) (aNil))) (eC (.int 1)))) (eVar 8))))) (sRet (eTup (aCons (eVar 4) (aCons (eL (lLc [9] (tName 9) (tYesE) (eL (eCall 2 f_row (aCons (eVar 4) (aCons (eVar 9) (aNil))))) (iL (eL (eS slL (bVar 5) (oNo) (oSo (eC (.int 16)))))))) (aNil)))))))))
def f_table : List D → R D := runD 10 m_table
abbrev N_table : List Str := ["_law_script", "_law_at", "_law_many", "_law_base", "_law_names_here", "_law_rows", "_law_big_here", "_law_k", "_law_mix", "_law_row_here"]
def m_read_table : Mp.Env → SR := sSeq (sExpr (eCall 1 f_look (aCons (eIsi "str" (eVar 0)) (aNil)))) (sSeq (sSet 1 (eL (lLx [5] (tName 5) (tYesE) (eCall 1 f_read_row (aCons (eVar 5) (aNil))) (iL (eL (eM "str" splitD (eVar 0) (aCons (eC (.str " / ")) (aNil)))))))) (sSeq (sSet 2 (e2 idxD (eVar 1) (eC (.int 0)))) (sSeq (sFor (iL (eL (eS slL (eVar 1) (oSo (eC (.int 1))) (oNo)))) (tName 3) (sExpr (eCall 1 f_look (aCons (eB (c1 allD) (aCons (eL (lLc [6] (tName 6) (tYesE) (e2 inD (eVar 6) (eVar 2)) (iL (eVar 3)))) (aNil))) (aNil))))) (sSeq (sSet 4 (eTup (aCons (eVar 2) (aCons (eL (eS slL (eVar 1) (oSo (eC (.int 1))) (oNo))) (aNil))))) (sSeq (sIf (tN (toT (eCall 1 f_is_table (aCons (eVar 4) (aNil))))) (sRaise "TooMany") (sNx)) (sRet (eVar 4)))))))
def f_read_table : List D → R D := runD 7 m_read_table
abbrev N_read_table : List Str := ["text", "rows", "names", "row", "table", "part", "name"]
def ansT (c : Str) : Option D := if c = "NoText" then some (.str "NoText") else if c = "TooMany" then some (.str "TooMany") else none
abbrev N_told : List Str := ["_law_way", "_law_text", "e"]
def m_told : Mp.Env → SR := sTryR (sSeq (sIf (toT (e2 eqD (eVar 0) (eC (.int 0)))) (sRet (eCall 1 f_read_table (aCons (eVar 1) (aNil)))) (sNx)) (sRet (eCall 1 f_read_net (aCons (eVar 1) (aNil))))) ansT
def f_told : List D → R D := runD 3 m_told
abbrev N_law : List Str := ["_law_script", "_law_table_here", "_law_net_here", "_law_texts", "_law_k", "_law_big_here", "_law_text", "_law_thing", "_law_row_here", "_law_tie"]
def m_law : Mp.Env → SR := sSeq (sSet 1 (eCall 2 f_table (aCons (eVar 0) (aCons (eC (.int 1)) (aNil))))) (sSeq (sSet 2 (eL (eCall 2 f_net (aCons (eVar 0) (aCons (eC (.int 10)) (aNil)))))) (sSeq (sSetL 3 (lLst (aCons (eM "str" joinD (eC (.str " / ")) (aCons (eL (lLc [8] (tName 8) (tYesE) (eCall 1 f_written (aCons (eVar 8) (aNil))) (iL (eL (l2 addL (eL (lLst (aCons (e2 idxD (eVar 1) (eC (.int 0))) (aNil)))) (e2 idxD (eVar 1) (eC (.int 1)))))))) (aNil))) (aNil)))) (sSeq (sApp 3 (eM "str" joinD (eC (.str ", ")) (aCons (eL (lLc [9] (tName 9) (tYesE) (eM "str" joinD (eC (.str " ")) (aCons (eVar 9) (aNil))) (iL (eVar 2)))) (aNil)))) (sSeq (sFor (iR1 (aCons (eC (.int 12)) (aNil))) (tName 4) (sSeq (sSet 5 (eCall 2 f_big (aCons (eVar 0) (aCons (e2 addD (eC (.int 13)) (eVar 4)) (aNil))))) (sSeq (sSet 6 (eCall 2 f_bent (aCons (e2 idxD (bVar 3) (e2 modD (eVar 4) (eC (.int 2)))) (aCons (e2 divD (eVar 5) (eC (.int 2))) (aNil))))) (sSeq (sIf (toT (e2 eqD (e2 modD (eVar 5) (eC (.int 16))) (eC (.int 0)))) (sSet 6 (eCall 2 f_bent (aCons (eC (.str "")) (aCons (e2 divD (eVar 5) (eC (.int 16))) (aNil))))) (sNx)) (sSeq (sIf (toT (e2 eqD (e2 modD (eVar 5) (eC (.int 32))) (eC (.int 16)))) (sSet 6 (e2 addD (eC (.str "a")) (e2 mulD (eC (.str " / -")) (e2 addD (eC (.int 16)) (e2 modD (e2 divD (eVar 5) (eC (.int 32))) (eC (.int 2))))))) (sNx)) (sIf (tO (toT (e2 neD (eCall 2 f_told (aCons (eC (.int 0)) (aCons (eVar 6) (aNil)))) (eCall 1 f_table_due (aCons (eVar 6) (aNil))))) (toT (e2 neD (eCall 2 f_told (aCons (eC (.int 1)) (aCons (eVar 6) (aNil)))) (eCall 1 f_net_due (aCons (eVar 6) (aNil)))))) (sRet (eC (.bool false))) (sNx))))))) (sSeq (sFor (iT (eTup (aCons (eC (.none)) (aCons (eC (.int 7)) (aCons (eC (.bool true)) (aCons (eL (lLst (aCons (eC (.str "a")) (aNil)))) (aCons (eTup (aCons (eC (.str "a")) (aCons (eC (.str "b")) (aNil)))) (aNil)))))))) (tName 7) (sIf (tO (toT (e2 neD (eCall 2 f_told (aCons (eC (.int 0)) (aCons (eVar 7) (aNil)))) (eC (.str "NoText")))) (toT (e2 neD (eCall 2 f_told (aCons (eC (.int 1)) (aCons (eVar 7) (aNil)))) (eC (.str "NoText"))))) (sRet (eC (.bool false))) (sNx))) (sRet (eC (.bool true))))))))
def f_law : List D → R D := runD 10 m_law
end K73

set_option Elab.async false
set_option linter.all false
set_option maxRecDepth 100000
set_option maxHeartbeats 0
/-! K73q: names, rows. -/
namespace K73
open PySem PySem.Spec Mp
open L2 (atI)
def SG : Str := "abcdefghijklmnopqrstuvwxyz0123456789"
def isNm (x : Str) : Bool := decide (1 ≤ x.length) && decide (x.length ≤ 6) && x.cps.toList.all fun c => decide (c ∈ SG.cps.toList)
theorem allSg (x : Str) (h : x.length ≤ LIM) : (lLc [1] (tName 1) tYesE (e2 inD (eVar 1) (eC (.str SG))) (iS (eVar 0))) [.val (.str x), .emp] = .ok (x.cps.toList.map fun c => .bool (decide (c ∈ SG.cps.toList))) := by
  refine lLc_mapT (enc := fun c => PyData.str ⟨#[c]⟩) (by simp; rfl) (fun c _ => by simp) ?_
  rw [Array.length_toList]; exact h
theorem v_is_name (x : Str) (h : x.length ≤ LIM) : f_is_name [.str x] = .ok (.bool (isNm x)) := by
  unfold isNm f_is_name runD m_is_name
  simp only [startS]
  by_cases h1 : 1 ≤ x.length
  · have h1' : (1 : Int) ≤ (x.length : Int) := by omega
    by_cases h2 : x.length ≤ 6
    · have h2' : (x.length : Int) ≤ 6 := by omega
      rw [seq_nx (ρ' := [.val (.str x), .emp]) (by simp [len_str h, h1', h2'])]
      have e := allSg x h
      unfold SG at e
      simp only [sRet_ap, eB_ap, aCons_ap, eL_ap, aNil_ap, e]
      simp [h1, h2, SG]
    · have h2' : ¬ (x.length : Int) ≤ 6 := by omega
      rw [seq_rt (d := .bool false) (by simp [len_str h, h1', h2'])]
      simp [h2]
  · have h1' : ¬ (1 : Int) ≤ (x.length : Int) := by omega
    rw [seq_rt (d := .bool false) (by simp [len_str h, h1'])]
    simp [h1]
theorem v__law_is_name (x : Str) (h : x.length ≤ LIM) : f__law_is_name [.str x] = .ok (.bool (isNm x)) := by
  refine runD_rt ?_
  have e : (lLc [2] (tName 2) tYesE (e2 inD (eVar 2) (eVar 1)) (iS (eVar 0))) [.val (.str x), .val (.str SG), .emp] = .ok (x.cps.toList.map fun c => .bool (decide (c ∈ SG.cps.toList))) := by
    refine lLc_mapT (enc := fun c => PyData.str ⟨#[c]⟩) (by simp; rfl) (fun c _ => by simp) ?_
    rw [Array.length_toList]; exact h
  unfold m__law_is_name isNm
  rw [seq_nx (ρ' := [.val (.str x), .val (.str SG), .emp]) (by simp [startS, SG])]
  simp only [sRet_ap, eA_ap, eB_ap, aCons_ap, eL_ap, aNil_ap, e]
  by_cases h1 : 1 ≤ x.length
  · have h1' : (0 : Int) < (x.length : Int) := by omega
    have h0 : 0 < x.length := h1
    by_cases h2 : x.length ≤ 6
    · have h2' : (x.length : Int) < 7 := by omega
      simp [h1, h2, len_str h, h0, h2']
    · have h2' : ¬ (x.length : Int) < 7 := by omega
      simp [h1, h2, len_str h, h0, h2']
  · have h0 : ¬ 0 < x.length := h1
    simp [h1, len_str h, h0]
/-! rows -/
def ascR (xs : List Str) : Bool := (List.range (xs.length - 1)).all fun k => strLt (xs.getD k "") (xs.getD (k + 1) "")
theorem at_map {α : Type} (f : α → D) (xs : List α) (z : α) {k : Nat} (h : k < xs.length) : atI (xs.map f) (k : Int) = some (f (xs.getD k z)) := by
  rw [Mp.atI_nat, List.getElem?_map, List.getElem?_eq_getElem h, List.getD_eq_getElem?_getD, List.getElem?_eq_getElem h]
  rfl
theorem rng_map (n : Nat) : rng 0 n = (List.range n).map fun i => PyData.int ((i : Nat) : Int) := by
  unfold rng
  refine List.map_congr_left fun i _ => ?_
  simp
theorem iR1_len {e : Mp.Env → R D} {xs : List D} {ρ : Mp.Env} (he : e ρ = .ok (.list xs)) (h : xs.length ≤ LIM) : iR1 (aCons (e2 subD (eB (c1 lenD) (aCons e aNil)) (eC (.int 1))) aNil) ρ = .ok ((List.range (xs.length - 1)).map fun i => PyData.int ((i : Nat) : Int)) := by
  have h' : xs.length ≤ 100000 := h
  have c : -(2 ^ 62 : Int) ≤ (xs.length : Int) - 1 ∧ (xs.length : Int) - 1 < 2 ^ 62 := by omega
  have e2 : ((xs.length : Int) - 1).toNat = xs.length - 1 := by omega
  rw [iR1_ap]
  simp only [aCons_ap, aNil_ap, e2_ap, eB_ap, eC_ap, he, bind_ok, c1_ap, len_list, ofO_some, sub_int]
  rw [if_pos c, e2, rng_map]
theorem v_is_row (xs : List Str) (hx : xs.length ≤ LIM) (h : ∀ x ∈ xs, x.length ≤ LIM) : f_is_row [.list (xs.map .str)] = .ok (.bool (xs.all isNm && ascR xs)) := by
  refine runD_rt ?_
  have e1 : (lLc [1] (tName 1) tYesE (eCall 1 f_is_name (aCons (eVar 1) aNil)) (iL (eVar 0))) [.val (.list (xs.map .str)), .emp, .emp] = .ok (xs.map fun x => .bool (isNm x)) :=
    lLc_mapT (enc := PyData.str) (by simp) (fun c hc => by simp [v_is_name c (h c hc)]) hx
  have e2 : (lLc [2] (tName 2) tYesE (e2 ltD (e2 idxD (eVar 0) (eVar 2)) (e2 idxD (eVar 0) (e2 addD (eVar 2) (eC (.int 1))))) (iR1 (aCons (e2 subD (eB (c1 lenD) (aCons (eVar 0) aNil)) (eC (.int 1))) aNil))) [.val (.list (xs.map .str)), .emp, .emp] = .ok ((List.range (xs.length - 1)).map fun k => .bool (strLt (xs.getD k "") (xs.getD (k + 1) ""))) := by
    refine lLc_mapT (enc := fun i => PyData.int ((i : Nat) : Int)) ?_ (fun k hk => ?_) ?_
    · rw [iR1_len (xs := xs.map .str) (by simp) (by simpa using hx), List.length_map]
    · have hk' := List.mem_range.mp hk
      have a1 := at_map PyData.str xs "" (k := k) (by omega)
      have a2 := at_map PyData.str xs "" (k := k + 1) (by omega)
      rw [show ((k + 1 : Nat) : Int) = (k : Int) + 1 from rfl] at a2
      simp [a1, a2]
    · rw [List.length_range]
      omega
  unfold m_is_row
  by_cases h1 : xs.all isNm = true
  · rw [seq_nx (ρ' := [.val (.list (xs.map .str)), .emp, .emp])]
    · simp only [sRet_ap, eB_ap, aCons_ap, eL_ap, aNil_ap, e2]
      simp [h1, ascR]
    · have hs : startS 3 [PyData.list (xs.map .str)] = [.val (.list (xs.map .str)), .emp, .emp] := rfl
      rw [hs]
      simp only [sIf_ap, tO_ap, tN_ap, toT_ap, eB_ap, aCons_ap, eL_ap, aNil_ap, e1]
      simp [h1]
  · have h1' : xs.all isNm = false := by simpa using h1
    rw [seq_rt (d := .bool false)]
    · rw [h1']; rfl
    · have hs : startS 3 [PyData.list (xs.map .str)] = [.val (.list (xs.map .str)), .emp, .emp] := rfl
      rw [hs]
      simp only [sIf_ap, tO_ap, tN_ap, toT_ap, eB_ap, aCons_ap, eL_ap, aNil_ap, e1]
      simp [h1']
end K73

set_option Elab.async false
set_option linter.all false
set_option maxRecDepth 100000
set_option maxHeartbeats 0
/-! K73r: a row read. -/
namespace K73
open PySem PySem.Spec Mp
open L2 (atI)
theorem strLt_iff (a b : Str) : strLt a b = true ↔ a.cps.toList < b.cps.toList := by unfold strLt; simp
theorem ascR_nil : ascR [] = true := rfl
theorem ascR_one (x : Str) : ascR [x] = true := rfl
theorem ascR_cons (x y : Str) (xs : List Str) : ascR (x :: y :: xs) = (strLt x y && ascR (y :: xs)) := by
  unfold ascR
  have e : (x :: y :: xs).length - 1 = xs.length + 1 := by simp
  have e' : (y :: xs).length - 1 = xs.length := by simp
  rw [e, e', List.range_succ_eq_map, List.all_cons, List.all_map]
  rfl
theorem ascR_iff : ∀ xs : List Str, ascR xs = true ↔ Asc xs
  | [] => ⟨fun _ => List.Pairwise.nil, fun _ => rfl⟩
  | [x] => ⟨fun _ => List.pairwise_singleton _ _, fun _ => rfl⟩
  | x :: y :: xs => by
    rw [ascR_cons, Bool.and_eq_true, strLt_iff, ascR_iff (y :: xs)]
    refine ⟨fun ⟨h1, h2⟩ => List.pairwise_cons.mpr ⟨fun z hz => ?_, h2⟩, fun h => ?_⟩
    · rcases List.mem_cons.mp hz with e | hz
      · rw [e]; exact h1
      · exact slt_trans h1 ((List.pairwise_cons.mp h2).1 z hz)
    · obtain ⟨h1, h2⟩ := List.pairwise_cons.mp h
      exact ⟨h1 y List.mem_cons_self, h2⟩
theorem asc_set (xs : List Str) : Asc xs ↔ setS xs = xs := ⟨fun h => (asc_uniq h (asc_setS xs) fun x => (mem_setS x xs).symm).symm, fun h => by rw [← h]; exact asc_setS xs⟩
theorem ascR_set (xs : List Str) : ascR xs = decide (xs = setS xs) := by
  rw [Bool.eq_iff_iff, ascR_iff, asc_set, decide_eq_true_iff]
  exact ⟨Eq.symm, Eq.symm⟩
theorem eqvAll_strs : ∀ xs ys : List Str, PyData.eqvAll (xs.map .str) (ys.map .str) = decide (xs = ys)
  | [], [] => by simp [PyData.eqvAll]
  | [], _ :: _ => by simp [PyData.eqvAll]
  | _ :: _, [] => by simp [PyData.eqvAll]
  | x :: xs, y :: ys => by
    rw [List.map_cons, List.map_cons, PyData.eqvAll, eqvAll_strs xs ys]
    by_cases h : x = y <;> simp [PyData.eqv, h]
theorem depth_strs : ∀ xs : List Str, PyData.depthAll (xs.map .str) ≤ 1
  | [] => by simp [PyData.depthAll]
  | x :: xs => by
    have := depth_strs xs
    simp [PyData.depthAll, PyData.depth]
    omega
theorem ne_strs (xs ys : List Str) : neD (.list (xs.map .str)) (.list (ys.map .str)) = some (.bool (!decide (xs = ys))) := by
  have h := depth_strs xs
  rw [ne_of]
  · rw [PyData.eqv, eqvAll_strs]
  · rw [PyData.plain]; exact plain_strs xs
  · rw [PyData.plain]; exact plain_strs ys
  · simp [PyData.depth]; omega
/-- a row, as read -/
def rowR (p : Str) : Option (List Str) := if p = "-" then some [] else if (Txt.split p " ").all isNm && ascR (Txt.split p " ") then some (Txt.split p " ") else none
def bigT (t : Str) : Prop := t.length ≤ 2000
theorem parts_of {t y p : Str} (h : bigT t) (hp : p ∈ Txt.split t y) : bigT p := Nat.le_trans (PyProof.Rows.part_short hp) h
theorem parts_len {t y : Str} (h : bigT t) : (Txt.split t y).length ≤ 2002 := Nat.le_trans (PyProof.Rows.split_le t y) (by unfold bigT at h; omega)
theorem big_lim {t : Str} (h : bigT t) : t.length ≤ LIM := by unfold bigT at h; unfold LIM; omega
theorem many_lim {n : Nat} (h : n ≤ 2002) : n ≤ LIM := by unfold LIM; omega
theorem v_read_row {p : Str} (h : bigT p) : f_read_row [.str p] = match rowR p with | some r => .ok (.list (r.map .str)) | none => .exc "NoText" := by
  unfold rowR
  have hw := many_lim (parts_len (y := " ") h)
  have hr := v_is_row (Txt.split p " ") hw fun x hx => big_lim (parts_of h hx)
  have hs := split_str (a := p) (b := " ") rfl (big_lim h)
  by_cases c : p = "-"
  · subst c
    rw [if_pos rfl]
    exact runD_rt (by simp [m_read_row, startS])
  · rw [if_neg c]
    by_cases c2 : ((Txt.split p " ").all isNm && ascR (Txt.split p " ")) = true
    · rw [if_pos c2]
      refine runD_rt ?_
      unfold m_read_row
      rw [seq_nx (ρ' := [.val (.str p), .emp]) (by simp [startS, c]), seq_nx (ρ' := [.val (.str p), .val (.list ((Txt.split p " ").map .str))]) (by simp [hs]), seq_nx (ρ' := [.val (.str p), .val (.list ((Txt.split p " ").map .str))]) (by simp [hr, c2, f_look, runD, m_look, startS])]
      simp
    · rw [if_neg c2]
      refine runD_exc ?_
      unfold m_read_row
      rw [seq_nx (ρ' := [.val (.str p), .emp]) (by simp [startS, c]), seq_nx (ρ' := [.val (.str p), .val (.list ((Txt.split p " ").map .str))]) (by simp [hs]), seq_exc (c := "NoText") (by simp [hr, c2, f_look, runD, m_look, startS])]
theorem v_row_read {p : Str} (h : bigT p) : f_row_read [.str p] = .ok (match rowR p with | some r => .list (r.map .str) | none => .none) := by
  unfold rowR
  have hw := many_lim (parts_len (y := " ") h)
  have hn : ∀ x ∈ Txt.split p " ", f__law_is_name [.str x] = .ok (.bool (isNm x)) := fun x hx => v__law_is_name x (big_lim (parts_of h hx))
  have hs := split_str (a := p) (b := " ") rfl (big_lim h)
  by_cases c : p = "-"
  · subst c
    rw [if_pos rfl]
    exact runD_rt (by simp [m_row_read, startS])
  · rw [if_neg c]
    have e1 : (lLc [2] (tName 2) tYesE (eCall 1 f__law_is_name (aCons (eVar 2) aNil)) (iL (eVar 1))) [.val (.str p), .val (.list ((Txt.split p " ").map .str)), .emp] = .ok ((Txt.split p " ").map fun x => .bool (isNm x)) :=
      lLc_mapT (enc := PyData.str) (by simp) (fun c hc => by simp [hn c hc]) hw
    have e2 : (lSet (eVar 1)) [.val (.str p), .val (.list ((Txt.split p " ").map .str)), .emp] = .ok ((setS (Txt.split p " ")).map .str) := by
      have b : (Txt.split p " ").length + 1 < PySem.scanBound := Nat.lt_of_le_of_lt (Nat.succ_le_succ (parts_len h)) (by decide)
      simp [strsOf_map, b]
    refine runD_rt ?_
    unfold m_row_read
    rw [seq_nx (ρ' := [.val (.str p), .emp, .emp]) (by simp [startS, c]), seq_nx (ρ' := [.val (.str p), .val (.list ((Txt.split p " ").map .str)), .emp]) (by simp [hs])]
    by_cases c1 : (Txt.split p " ").all isNm = true
    · by_cases c2 : ascR (Txt.split p " ") = true
      · have c3 := c2
        rw [ascR_set, decide_eq_true_iff] at c3
        rw [c1, c2, seq_nx (ρ' := [.val (.str p), .val (.list ((Txt.split p " ").map .str)), .emp])]
        · simp
        · simp only [sIf_ap, tO_ap, tN_ap, toT_ap, eB_ap, aCons_ap, eL_ap, aNil_ap, e1, e2_ap, e2]
          simp [c1, ne_strs, ← c3]
      · have c3 := c2
        rw [ascR_set, decide_eq_true_iff] at c3
        have c2' : ascR (Txt.split p " ") = false := by simpa using c2
        rw [c1, c2', seq_rt (d := .none)]
        · simp
        · simp only [sIf_ap, tO_ap, tN_ap, toT_ap, eB_ap, aCons_ap, eL_ap, aNil_ap, e1, e2_ap, e2]
          simp [c1, ne_strs, c3]
    · have c1' : (Txt.split p " ").all isNm = false := by simpa using c1
      rw [c1', seq_rt (d := .none)]
      · simp
      · simp only [sIf_ap, tO_ap, tN_ap, toT_ap, eB_ap, aCons_ap, eL_ap, aNil_ap, e1, e2_ap, e2]
        simp [c1', ne_strs]
end K73

set_option Elab.async false
set_option linter.all false
set_option maxRecDepth 100000
set_option maxHeartbeats 0
/-! K73s: numbers reduced. -/
namespace K73
open PySem PySem.Spec Mp
open L2 (atI)
def stepR (n row : Int) : Int := if Builtin.bitAnd (Builtin.bitAnd n row) (-row) = 0 then n else Builtin.bitXor n row
def clr (m row : Int) : Int := if Builtin.bitAnd row (Builtin.bitAnd m (-m)) = 0 then row else Builtin.bitXor row m
def redStep (rows : List Int) (n : Int) : List Int := let m := rows.foldl stepR n; if m = 0 then rows else rows.map (clr m) ++ [m]
def redL (ns : List Int) : List Int := ns.foldl redStep []
theorem redStep_le (rows : List Int) (n : Int) : (redStep rows n).length ≤ rows.length + 1 := by
  unfold redStep
  dsimp only
  split <;> simp
theorem redL_le (ns : List Int) : (redL ns).length ≤ ns.length := by
  suffices h : ∀ rows : List Int, (ns.foldl redStep rows).length ≤ rows.length + ns.length by
    have h2 := h []
    rw [List.length_nil, Nat.zero_add] at h2
    exact h2
  induction ns with
  | nil => exact fun rows => Nat.le_refl _
  | cons n ns ih =>
    intro rows
    have h1 := ih (redStep rows n)
    have h2 := redStep_le rows n
    rw [List.foldl_cons, List.length_cons]
    omega
theorem redL_snoc (ns : List Int) (n : Int) : redL (ns ++ [n]) = redStep (redL ns) n := by unfold redL; rw [List.foldl_append]; rfl
theorem v__law_reduced (ns : List Int) (hn : ns.length < LIM) : f__law_reduced [.list (ns.map .int)] = .ok (.list ((redL ns).map .int)) := by
  refine runD_rt ?_
  unfold m__law_reduced
  rw [seq_nx (ρ' := [.val (.list (ns.map .int)), .val (.list []), .emp, .emp, .emp]) (by simp [startS])]
  let I : List Int → Mp.Env → Prop := fun pre ρ => ∃ a b c : Option D, ρ = [.val (.list (ns.map .int)), .val (.list ((redL pre).map .int)), ov a, ov b, ov c]
  have hl := loopS_inv (enc := PyData.int) (xs := ns) I (h := bodyH (tName 2) (sSeq (sFor (iL (eVar 1)) (tName 3) (sIf (toT (e2 neD (e2 andD (e2 andD (eVar 2) (eVar 3)) (e1 negD (eVar 3))) (eC (.int 0)))) (sSet 2 (e2 xorD (eVar 2) (eVar 3))) (sNx))) (sIf (toT (e2 neD (eVar 2) (eC (.int 0)))) (sSeq (sSet 4 (e2 andD (eVar 2) (e1 negD (eVar 2)))) (sSet 1 (eL (l2 addL (eL (lLc [3] (tName 3) (tYesE) (eI (toT (e2 neD (e2 andD (eVar 3) (eVar 4)) (eC (.int 0)))) (e2 xorD (eVar 3) (eVar 2)) (eVar 3)) (iL (eVar 1)))) (eL (lLst (aCons (eVar 2) (aNil)))))))) (sNx)))) (fun pre x post e ρ hρ => by
    obtain ⟨a, b, c, rfl⟩ := hρ
    have hp := redL_le pre
    have hp2 : pre.length < ns.length := by rw [e]; simp
    generalize hR : redL pre = R at hp
    -- the inner loop
    obtain ⟨ρ1, ⟨b', rfl⟩, h1⟩ := loopS_inv (enc := PyData.int) (xs := R) (fun q ρ => ∃ b : Option D, ρ = [.val (.list (ns.map .int)), .val (.list (R.map .int)), .val (.int (q.foldl stepR x)), ov b, ov c]) (h := bodyH (tName 3) (sIf (toT (e2 neD (e2 andD (e2 andD (eVar 2) (eVar 3)) (e1 negD (eVar 3))) (eC (.int 0)))) (sSet 2 (e2 xorD (eVar 2) (eVar 3))) (sNx))) (fun q y post2 e2 ρ hρ => by
      obtain ⟨b, rfl⟩ := hρ
      refine ⟨_, ⟨some (.int y), rfl⟩, .inl ?_⟩
      rw [List.foldl_append, List.foldl_cons, List.foldl_nil]
      generalize q.foldl stepR x = z
      unfold stepR
      by_cases c0 : Builtin.bitAnd (Builtin.bitAnd z y) (-y) = 0
      · simp [c0, ov_v]
      · simp [c0, ov_v]) (ρ := [.val (.list (ns.map .int)), .val (.list (R.map .int)), .val (.int x), ov b, ov c]) ⟨b, rfl⟩
    have hs : redL (pre ++ [x]) = redStep R x := by rw [redL_snoc, hR]
    have hl2 : R.length ≤ LIM := by omega
    have e0 : ∀ g, bodyH (tName 2) (sSeq (sFor (iL (eVar 1)) (tName 3) (sIf (toT (e2 neD (e2 andD (e2 andD (eVar 2) (eVar 3)) (e1 negD (eVar 3))) (eC (.int 0)))) (sSet 2 (e2 xorD (eVar 2) (eVar 3))) (sNx))) g) (PyData.int x) [.val (.list (ns.map .int)), .val (.list (R.map .int)), ov a, ov b, ov c] = g [.val (.list (ns.map .int)), .val (.list (R.map .int)), .val (.int (R.foldl stepR x)), ov b', ov c] := fun g => by
      rw [bodyH_ap]
      simp only [tName_ap, List.getElem?_cons_succ, List.getElem?_cons_zero, canPut_ov, if_true, List.set_cons_succ, List.set_cons_zero]
      rw [seq_nx]
      rw [sFor_ap, ← h1]
      simp
    rw [e0]
    by_cases c0 : R.foldl stepR x = 0
    · refine ⟨_, ⟨some (.int (R.foldl stepR x)), b', c, rfl⟩, .inl ?_⟩
      rw [hs]
      unfold redStep
      simp [c0, ov_v]
    · refine ⟨_, ⟨some (.int (R.foldl stepR x)), b', some (.int (Builtin.bitAnd (R.foldl stepR x) (-(R.foldl stepR x)))), rfl⟩, .inl ?_⟩
      have e1 : (lLc [3] (tName 3) tYesE (eI (toT (e2 neD (e2 andD (eVar 3) (eVar 4)) (eC (.int 0)))) (e2 xorD (eVar 3) (eVar 2)) (eVar 3)) (iL (eVar 1))) [.val (.list (ns.map .int)), .val (.list (R.map .int)), .val (.int (R.foldl stepR x)), ov b', .val (.int (Builtin.bitAnd (R.foldl stepR x) (-(R.foldl stepR x))))] = .ok (R.map fun y => .int (clr (R.foldl stepR x) y)) :=
        lLc_mapT (enc := PyData.int) (by simp) (fun y _ => by
          unfold clr
          by_cases c1 : Builtin.bitAnd y (Builtin.bitAnd (R.foldl stepR x) (-(R.foldl stepR x))) = 0
          · simp [c1]
          · simp [c1]) hl2
      rw [if_t (by simp [c0]), seq_nx (ρ' := [.val (.list (ns.map .int)), .val (.list (R.map .int)), .val (.int (R.foldl stepR x)), ov b', .val (.int (Builtin.bitAnd (R.foldl stepR x) (-(R.foldl stepR x))))]) (by simp)]
      simp only [sSet_ap, eL_ap, l2_ap, e1, map_ok, bind_ok, lLst_ap, aCons_ap, aNil_ap, eVar_ap, List.getElem?_cons_succ, List.getElem?_cons_zero]
      rw [List.length_singleton, if_pos (show 1 ≤ LIM by decide), map_ok, bind_ok, add_list (by simp; omega)]
      rw [hs]
      unfold redStep
      simp [c0, ov_v, Function.comp_def]) (ρ := [.val (.list (ns.map .int)), .val (.list []), .emp, .emp, .emp]) ⟨none, none, none, rfl⟩
  obtain ⟨ρ', ⟨a, b, c, rfl⟩, h⟩ := hl
  rw [seq_nx (ρ' := [.val (.list (ns.map .int)), .val (.list ((redL ns).map .int)), ov a, ov b, ov c])]
  · simp
  · rw [sFor_ap, ← h]
    simp
end K73

set_option Elab.async false
set_option linter.all false
set_option maxRecDepth 100000
set_option maxHeartbeats 0
/-! K73t: the program's reduced. -/
namespace K73
open PySem PySem.Spec Mp
open L2 (atI)
theorem and_half (x y : Int) : (Builtin.bitAnd x y) / 2 = Builtin.bitAnd (x / 2) (y / 2) ∧ ((Builtin.bitAnd x y) % 2 = 1 ↔ (x % 2 = 1 ∧ y % 2 = 1)) := by
  have h := PySem.W.kbt_halves x y
  split at h
  · rename_i c
    exact ⟨by omega, fun _ => c, fun _ => by omega⟩
  · rename_i c
    exact ⟨by omega, fun _ => by omega, fun q => absurd q c⟩
theorem and_assoc' : ∀ (n : Nat) (x y z : Int), x.natAbs + y.natAbs + z.natAbs ≤ n → Builtin.bitAnd (Builtin.bitAnd x y) z = Builtin.bitAnd x (Builtin.bitAnd y z) := by
  intro n
  induction n using Nat.strongRecOn with
  | ind n ih =>
    intro x y z hn
    by_cases c : (x = 0 ∨ x = -1) ∧ (y = 0 ∨ y = -1) ∧ (z = 0 ∨ z = -1)
    · obtain ⟨cx, cy, cz⟩ := c
      rcases cx with rfl | rfl <;> rcases cy with rfl | rfl <;> rcases cz with rfl | rfl <;> rfl
    · have lt : (x / 2).natAbs + (y / 2).natAbs + (z / 2).natAbs < n := by omega
      have h := ih _ lt (x / 2) (y / 2) (z / 2) (Nat.le_refl _)
      obtain ⟨a1, a2⟩ := and_half x y
      obtain ⟨b1, b2⟩ := and_half y z
      obtain ⟨c1, c2⟩ := and_half (Builtin.bitAnd x y) z
      obtain ⟨d1, d2⟩ := and_half x (Builtin.bitAnd y z)
      rw [a1] at c1
      rw [b1] at d1
      have e1 : Builtin.bitAnd (Builtin.bitAnd x y) z / 2 = Builtin.bitAnd x (Builtin.bitAnd y z) / 2 := by rw [c1, d1, h]
      have e2 : Builtin.bitAnd (Builtin.bitAnd x y) z % 2 = 1 ↔ Builtin.bitAnd x (Builtin.bitAnd y z) % 2 = 1 := by
        rw [c2, d2, a2, b2, and_assoc]
      omega
theorem bAnd_assoc (x y z : Int) : Builtin.bitAnd (Builtin.bitAnd x y) z = Builtin.bitAnd x (Builtin.bitAnd y z) := and_assoc' _ x y z (Nat.le_refl _)
theorem v_lead_of (n : Int) : f_lead_of [.int n] = .ok (.int (Builtin.bitAnd n (-n))) := runD_rt (by simp [m_lead_of, startS])
theorem sorted_int (ks : List Int) (h : ks.length ≤ LIM) : srtOk (ks.map .int) = true := by
  unfold srtOk
  have hp : PyData.plainAll (ks.map PyData.int) = true := by
    clear h
    induction ks with
    | nil => rfl
    | cons k ks ih => simp [PyData.plainAll, PyData.plain, ih]
  simp [hp, PySem.W.alike, notTN, PyData.depth, h]
theorem perm_unmap {α β : Type} {f : α → β} {g : β → α} (hg : ∀ x, g (f x) = x) {zs : List β} {xs : List α} (h : zs.Perm (xs.map f)) : ∃ ys : List α, zs = ys.map f ∧ ys.Perm xs := by
  refine ⟨zs.map g, ?_, ?_⟩
  · rw [List.map_map]
    conv => lhs; rw [← List.map_id zs]
    refine List.map_congr_left fun z hz => ?_
    obtain ⟨x, _, rfl⟩ := List.mem_map.mp (h.mem_iff.mp hz)
    show f x = f (g (f x))
    rw [hg]
  · have h2 := h.map g
    rw [List.map_map] at h2
    have e : xs.map (g ∘ f) = xs := by
      conv => rhs; rw [← List.map_id xs]
      exact List.map_congr_left fun x _ => hg x
    rwa [e] at h2
def intOf : D → Int
  | .int i => i
  | _ => 0
theorem sort_lead {e : Mp.Env → Mp.R D} {ρ : Mp.Env} {xs : List Int} (he : e ρ = .ok (.list (xs.map .int))) (hx : xs.length ≤ LIM) : ∃ ys : List Int, lSortK f_lead_of e ρ = .ok (ys.map .int) ∧ ys.Perm xs := by
  have h1 : (xs.map PyData.int).all (keyed f_lead_of) = true := by
    rw [List.all_map, List.all_eq_true]
    intro x _
    simp [keyed, v_lead_of]
  have h2 : srtOk ((xs.map PyData.int).map (keyD f_lead_of)) = true := by
    have e2 : (xs.map PyData.int).map (keyD f_lead_of) = (xs.map fun x => Builtin.bitAnd x (-x)).map PyData.int := by
      rw [List.map_map, List.map_map]
      refine List.map_congr_left fun x _ => ?_
      simp [keyD, v_lead_of]
    rw [e2]
    exact sorted_int _ (by rw [List.length_map]; exact hx)
  have h0 : decide ((xs.map PyData.int).length ≤ LIM) = true := by simp [hx]
  have hp : ((xs.map PyData.int).mergeSort (PySem.W.dataLe false (keyD f_lead_of))).Perm (xs.map PyData.int) := List.mergeSort_perm _ _
  obtain ⟨ys, e1, e2⟩ := perm_unmap (f := PyData.int) (g := intOf) (fun _ => rfl) hp
  refine ⟨ys, ?_, e2⟩
  rw [lSortK_ap, he, bind_ok]
  dsimp only
  rw [h0, h1, h2]
  simp only [Bool.and_self, if_true]
  rw [e1]
theorem v_reduced (ns : List Int) (hn : ns.length < LIM) : ∃ ys : List Int, f_reduced [.list (ns.map .int)] = .ok (ys.map .int) ∧ ys.Perm (redL ns) := by
  unfold f_reduced
  let I : List Int → Mp.Env → Prop := fun pre ρ => ∃ a b c : Option D, ρ = [.val (.list (ns.map .int)), .own ((redL pre).map .int), ov a, ov b, ov c]
  have hl := loopS_inv (enc := PyData.int) (xs := ns) I (h := bodyH (tName 2) (sSeq (sForH 1 (tName 3) (sIf (toT (e2 neD (e2 andD (eVar 2) (eCall 1 f_lead_of (aCons (eVar 3) (aNil)))) (eC (.int 0)))) (sSet 2 (e2 xorD (eVar 2) (eVar 3))) (sNx))) (sIf (toT (e2 neD (eVar 2) (eC (.int 0)))) (sSeq (sSet 4 (eCall 1 f_lead_of (aCons (eVar 2) (aNil)))) (sSeq (sSetL 1 (lLc [3] (tName 3) (tYesE) (eI (toT (e2 neD (e2 andD (eVar 3) (eVar 4)) (eC (.int 0)))) (e2 xorD (eVar 3) (eVar 2)) (eVar 3)) (iL (bVar 1)))) (sApp 1 (eVar 2)))) (sNx)))) (fun pre x post e ρ hρ => by
    obtain ⟨a, b, c, rfl⟩ := hρ
    have hp := redL_le pre
    have hp2 : pre.length < ns.length := by rw [e]; simp
    generalize hR : redL pre = rs at hp
    obtain ⟨ρ1, ⟨b', rfl⟩, h1⟩ := sForH_inv (enc := PyData.int) (xs := rs) (i := 1) (tg := tName 3) (fb := sIf (toT (e2 neD (e2 andD (eVar 2) (eCall 1 f_lead_of (aCons (eVar 3) (aNil)))) (eC (.int 0)))) (sSet 2 (e2 xorD (eVar 2) (eVar 3))) (sNx)) (ρ := [.val (.list (ns.map .int)), .own (rs.map .int), .val (.int x), ov b, ov c]) (fun q ρ => ∃ b : Option D, ρ = [.val (.list (ns.map .int)), .hold (rs.map .int), .val (.int (q.foldl stepR x)), ov b, ov c]) rfl ⟨b, rfl⟩ (fun q ρ ⟨b, e⟩ => by rw [e]; rfl) (fun q y post2 e2 ρ hρ => by
      obtain ⟨b, rfl⟩ := hρ
      refine ⟨_, ⟨some (.int y), rfl⟩, .inl ?_⟩
      rw [List.foldl_append, List.foldl_cons, List.foldl_nil]
      generalize q.foldl stepR x = z
      unfold stepR
      rw [bAnd_assoc]
      by_cases c0 : Builtin.bitAnd z (Builtin.bitAnd y (-y)) = 0
      · simp [c0, ov_v, v_lead_of]
      · simp [c0, ov_v, v_lead_of])
    have hs : redL (pre ++ [x]) = redStep rs x := by rw [redL_snoc, hR]
    have hl2 : rs.length ≤ LIM := by omega
    have e0 : ∀ g, bodyH (tName 2) (sSeq (sForH 1 (tName 3) (sIf (toT (e2 neD (e2 andD (eVar 2) (eCall 1 f_lead_of (aCons (eVar 3) (aNil)))) (eC (.int 0)))) (sSet 2 (e2 xorD (eVar 2) (eVar 3))) (sNx))) g) (PyData.int x) [.val (.list (ns.map .int)), .own (rs.map .int), ov a, ov b, ov c] = g [.val (.list (ns.map .int)), .own (rs.map .int), .val (.int (rs.foldl stepR x)), ov b', ov c] := fun g => by
      rw [bodyH_ap]
      simp only [tName_ap, List.getElem?_cons_succ, List.getElem?_cons_zero, canPut_ov, if_true, List.set_cons_succ, List.set_cons_zero]
      rw [seq_nx h1]
      rfl
    rw [e0]
    by_cases c0 : rs.foldl stepR x = 0
    · refine ⟨_, ⟨some (.int (rs.foldl stepR x)), b', c, rfl⟩, .inl ?_⟩
      rw [hs]
      unfold redStep
      simp [c0, ov_v]
    · refine ⟨_, ⟨some (.int (rs.foldl stepR x)), b', some (.int (Builtin.bitAnd (rs.foldl stepR x) (-(rs.foldl stepR x)))), rfl⟩, .inl ?_⟩
      have e1 : (lLc [3] (tName 3) tYesE (eI (toT (e2 neD (e2 andD (eVar 3) (eVar 4)) (eC (.int 0)))) (e2 xorD (eVar 3) (eVar 2)) (eVar 3)) (iL (bVar 1))) [.val (.list (ns.map .int)), .own (rs.map .int), .val (.int (rs.foldl stepR x)), ov b', .val (.int (Builtin.bitAnd (rs.foldl stepR x) (-(rs.foldl stepR x))))] = .ok (rs.map fun y => .int (clr (rs.foldl stepR x) y)) :=
        lLc_mapT (enc := PyData.int) (by simp) (fun y _ => by
          unfold clr
          by_cases c1 : Builtin.bitAnd y (Builtin.bitAnd (rs.foldl stepR x) (-(rs.foldl stepR x))) = 0
          · simp [c1]
          · simp [c1]) hl2
      have hl3 : rs.length < LIM := by omega
      rw [if_t (by simp [c0]), seq_nx (ρ' := [.val (.list (ns.map .int)), .own (rs.map .int), .val (.int (rs.foldl stepR x)), ov b', .val (.int (Builtin.bitAnd (rs.foldl stepR x) (-(rs.foldl stepR x))))]) (by simp [v_lead_of])]
      rw [seq_nx (ρ' := [.val (.list (ns.map .int)), .own (rs.map fun y => .int (clr (rs.foldl stepR x) y)), .val (.int (rs.foldl stepR x)), ov b', .val (.int (Builtin.bitAnd (rs.foldl stepR x) (-(rs.foldl stepR x))))])]
      · rw [hs]
        unfold redStep
        simp [c0, ov_v, Function.comp_def, hl3]
      · rw [sSetL_ap, e1]
        simp) (ρ := [.val (.list (ns.map .int)), .own [], .emp, .emp, .emp]) ⟨none, none, none, rfl⟩
  obtain ⟨ρ', ⟨a, b, c, rfl⟩, h⟩ := hl
  have hlim : (redL ns).length ≤ LIM := Nat.le_trans (redL_le ns) (Nat.le_of_lt hn)
  obtain ⟨ys, s1, s2⟩ := sort_lead (e := bVar 1) (ρ := [.val (.list (ns.map .int)), .own ((redL ns).map .int), ov a, ov b, ov c]) (xs := redL ns) (by simp) hlim
  refine ⟨ys, runL_rl ?_, s2⟩
  unfold m_reduced
  rw [seq_nx (ρ' := [.val (.list (ns.map .int)), .own [], .emp, .emp, .emp]) (by simp [startS])]
  rw [seq_nx (ρ' := [.val (.list (ns.map .int)), .own ((redL ns).map .int), ov a, ov b, ov c])]
  · rw [sRetL_ap, s1]
    rfl
  · rw [sFor_ap, ← h]
    simp
end K73

set_option Elab.async false
set_option linter.all false
set_option maxRecDepth 100000
set_option maxHeartbeats 0
/-! K73u: rows as numbers. -/
namespace K73
open PySem PySem.Spec Mp
open L2 (atI)
/-- where a name stands -/
def ix : List Str → Str → Nat
  | [], _ => 0
  | y :: ys, x => if y = x then 0 else ix ys x + 1
theorem ix_lt {x : Str} : ∀ {ys : List Str}, x ∈ ys → ix ys x < ys.length
  | y :: ys, h => by
    unfold ix
    by_cases c : y = x
    · rw [if_pos c]; simp
    · rw [if_neg c]
      have h' : x ∈ ys := by
        rcases List.mem_cons.mp h with e | e
        · exact absurd e.symm c
        · exact e
      have := ix_lt h'
      simp; omega
theorem ix_get {x : Str} : ∀ {ys : List Str}, x ∈ ys → ys[ix ys x]? = some x
  | y :: ys, h => by
    unfold ix
    by_cases c : y = x
    · rw [if_pos c, c]; rfl
    · rw [if_neg c]
      have h' : x ∈ ys := by
        rcases List.mem_cons.mp h with e | e
        · exact absurd e.symm c
        · exact e
      rw [List.getElem?_cons_succ]
      exact ix_get h'
theorem ix_inj {ys : List Str} {x z : Str} (hx : x ∈ ys) (hz : z ∈ ys) (h : ix ys x = ix ys z) : x = z := by
  have h1 := ix_get hx
  have h2 := ix_get hz
  rw [h] at h1
  exact Option.some.inj (h1.symm.trans h2)
theorem findIdx_strs {x : Str} : ∀ {ys : List Str}, x ∈ ys → ((ys.map PyData.str).findIdx? fun z => PyData.eqv z (.str x)) = some (ix ys x)
  | y :: ys, h => by
    rw [List.map_cons, List.findIdx?_cons]
    unfold ix
    by_cases c : y = x
    · subst c
      simp [PyData.eqv]
    · have h' : x ∈ ys := by
        rcases List.mem_cons.mp h with e | e
        · exact absurd e.symm c
        · exact e
      have e : PyData.eqv (.str y) (.str x) = false := by simp [PyData.eqv, c]
      rw [e, if_neg c, findIdx_strs h']
      rfl
theorem canLay_strs : ∀ xs : List Str, (∀ x ∈ xs, PyData.strOk x = true) → PyData.canLayAll0 (xs.map .str) = true
  | [], _ => by simp [PyData.canLayAll0]
  | x :: xs, h => by simp [PyData.canLayAll0, PyData.canLay0, h x List.mem_cons_self, canLay_strs xs fun y hy => h y (List.mem_cons_of_mem _ hy)]
theorem index_strs {x : Str} {ys : List Str} (hs : ∀ x ∈ ys, PyData.strOk x = true) (h : x ∈ ys) : indexD (.list (ys.map .str)) [.str x] = some (.int (ix ys x)) := by
  unfold indexD
  have c : cIn (.str x) (ys.map PyData.str) := ⟨rfl, plain_strs ys, by simp [PyData.depth]⟩
  have hd := depth_strs ys
  have s1 : PySem.SeqAt.shaped (.list (ys.map PyData.str)) = true := by
    unfold PySem.SeqAt.shaped
    rw [PyData.canLay0, canLay_strs _ hs]
    simp [PyData.depth]
    omega
  have s2 : PySem.SeqAt.shaped (.str x) = true := by
    unfold PySem.SeqAt.shaped
    rw [PyData.canLay0, hs x h]
    simp [PyData.depth]
  dsimp only
  rw [if_pos ⟨c, s1, s2⟩, findIdx_strs h]
  rfl
/-! places -/
def plD (k : Nat) : List Str → List (D × D)
  | [] => []
  | x :: xs => (.str x, .int (2 ^ k)) :: plD (k + 1) xs
theorem plD_snoc : ∀ (xs : List Str) (k : Nat) (x : Str), plD k (xs ++ [x]) = plD k xs ++ [(.str x, .int (2 ^ (k + xs.length)))]
  | [], k, x => rfl
  | y :: ys, k, x => by
    show _ :: plD (k + 1) (ys ++ [x]) = _
    rw [plD_snoc ys]
    simp [plD]
    congr 1
    omega
theorem plD_len : ∀ (xs : List Str) (k : Nat), (plD k xs).length = xs.length
  | [], _ => rfl
  | x :: xs, k => by simp [plD, plD_len xs]
theorem plD_any {x : Str} : ∀ (xs : List Str) (k : Nat), x ∉ xs → ((plD k xs).any fun p => eqK p.1 (.inr x)) = false
  | [], _, _ => rfl
  | y :: ys, k, h => by
    have h1 : y ≠ x := fun e => h (by rw [e]; exact List.mem_cons_self)
    have h2 : x ∉ ys := fun e => h (List.mem_cons_of_mem _ e)
    simp only [plD, List.any_cons, plD_any ys (k + 1) h2]
    simp [eqK, h1]
theorem plD_val {x : Str} : ∀ (xs : List Str) (k : Nat), x ∈ xs → valD (plD k xs) (.inr x) = some (.int (2 ^ (k + ix xs x)))
  | y :: ys, k, h => by
    unfold ix valD
    by_cases c : y = x
    · subst c
      simp [plD, eqK]
    · have h' : x ∈ ys := by
        rcases List.mem_cons.mp h with e | e
        · exact absurd e.symm c
        · exact e
      have ih := plD_val ys (k + 1) h'
      unfold valD at ih
      rw [if_neg c]
      simp only [plD, List.find?_cons]
      rw [show eqK (.str y) (.inr x) = false by simp [eqK, c]]
      dsimp only
      rw [ih]
      congr 3
      omega
theorem enums_map : ∀ (xs : List Str) (k : Nat), enums k (xs.map .str) = (xs.zipIdx k).map fun p => .tuple [.int (p.2 : Nat), .str p.1]
  | [], _ => rfl
  | x :: xs, k => by
    rw [List.map_cons, List.zipIdx_cons, List.map_cons, ← enums_map xs (k + 1)]
    rfl
theorem two_pow (n : Nat) : (1 : Int) * 2 ^ ((n : Int)).toNat = 2 ^ n := by simp
theorem v_places_of (xs : List Str) (hn : xs.Nodup) (hl : xs.length < 100000) : f_places_of [.list (xs.map .str)] = .ok (.dict (plD 0 xs)) := by
  refine runD_rt ?_
  unfold m_places_of
  rw [seq_nx (ρ' := [.val (.list (xs.map .str)), .dct [], .emp, .emp]) (by simp [startS])]
  obtain ⟨ρ', ⟨a, b, rfl⟩, h⟩ := loopS_inv (enc := fun p : Str × Nat => PyData.tuple [.int (p.2 : Nat), .str p.1]) (xs := xs.zipIdx) (fun pre ρ => ∃ a b : Option D, ρ = [.val (.list (xs.map .str)), .dct (plD 0 (pre.map (·.1))), ov a, ov b]) (h := bodyH (tTupT 2 (tsCons (tName 2) (tsCons (tName 3) tsNil))) (sDPutD 1 (eVar 3) (e2 shlD (eC (.int 1)) (eVar 2)))) (fun pre x post e ρ hρ => by
    obtain ⟨a, b, rfl⟩ := hρ
    refine ⟨_, ⟨some (.int (x.2 : Nat)), some (.str x.1), rfl⟩, .inl ?_⟩
    have em := congrArg (List.map (·.1)) e
    rw [List.zipIdx_map_fst, List.map_append, List.map_cons] at em
    have h2 : x.2 = pre.length := by
      have q : xs.zipIdx[pre.length]? = some x := by rw [e]; simp
      rw [List.getElem?_zipIdx] at q
      cases hq : xs[pre.length]? with
      | none => rw [hq] at q; cases q
      | some z => rw [hq] at q; injection q with q; rw [← q]; simp
    have hl2 : pre.length < xs.length := by
      have := congrArg List.length e
      simp at this
      omega
    have hnx : x.1 ∉ pre.map (·.1) := by
      rw [em] at hn
      intro q
      exact (List.nodup_append.mp hn).2.2 _ q _ List.mem_cons_self rfl
    have c : cPow 1 ((x.2 : Nat) : Int) := ⟨by omega, by omega, by decide⟩
    have hput : putD (plD 0 (pre.map (·.1))) (.inr x.1) (.int (1 * 2 ^ x.2)) = plD 0 ((pre ++ [x]).map (·.1)) := by
      unfold putD
      rw [plD_any _ _ hnx, List.map_append, List.map_singleton, plD_snoc]
      simp [kD, h2]
    have hl3 : (plD 0 (pre.map (·.1))).length < LIM := by
      rw [plD_len, List.length_map]
      unfold LIM
      omega
    simp [shl_int c, keyOfD, hl3, ov_v]
    simpa using hput) (ρ := [.val (.list (xs.map .str)), .dct [], .emp, .emp]) ⟨none, none, rfl⟩
  rw [seq_nx (ρ' := [.val (.list (xs.map .str)), .dct (plD 0 xs), ov a, ov b])]
  · simp
  · rw [sFor_ap]
    rw [List.zipIdx_map_fst] at h
    rw [← h]
    simp [enums_map]
def maskN (names row : List Str) : Nat := row.foldl (fun n x => n ||| 2 ^ ix names x) 0
theorem v_mask_of (names row : List Str) (h : ∀ x ∈ row, x ∈ names) : f_mask_of [.dict (plD 0 names), .list (row.map .str)] = .ok (.int (maskN names row)) := by
  refine runD_rt ?_
  unfold m_mask_of
  rw [seq_nx (ρ' := [.val (.dict (plD 0 names)), .val (.list (row.map .str)), .val (.int 0), .emp]) (by simp [startS])]
  obtain ⟨ρ', ⟨a, rfl⟩, h⟩ := loopS_inv (enc := PyData.str) (xs := row) (fun pre ρ => ∃ a : Option D, ρ = [.val (.dict (plD 0 names)), .val (.list (row.map .str)), .val (.int (maskN names pre : Nat)), ov a]) (h := bodyH (tName 3) (sSet 2 (e2 orD (eVar 2) (e2 dgetD (eVar 0) (eVar 3))))) (fun pre x post e ρ hρ => by
    obtain ⟨a, rfl⟩ := hρ
    refine ⟨_, ⟨some (.str x), rfl⟩, .inl ?_⟩
    have hx : x ∈ names := h x (by rw [e]; simp)
    have hv := plD_val names 0 hx
    rw [Nat.zero_add] at hv
    have ho : Builtin.bitOr ((maskN names pre : Nat) : Int) (2 ^ ix names x) = ((maskN names (pre ++ [x]) : Nat) : Int) := by
      have e2 : (2 : Int) ^ ix names x = ((2 ^ ix names x : Nat) : Int) := (PySem.W.kbt_cast _).symm
      rw [e2, _root_.Bits.bitOr_pp (Int.natCast_nonneg _) (Int.natCast_nonneg _), Int.toNat_natCast, Int.toNat_natCast]
      unfold maskN
      rw [List.foldl_append]
      rfl
    simp [dgetD, keyOfD, hv, ho, ov_v]) (ρ := [.val (.dict (plD 0 names)), .val (.list (row.map .str)), .val (.int 0), .emp]) ⟨none, rfl⟩
  rw [seq_nx (ρ' := [.val (.dict (plD 0 names)), .val (.list (row.map .str)), .val (.int (maskN names row : Nat)), ov a])]
  · simp
  · rw [sFor_ap, ← h]
    simp
theorem v_mask (names row : List Str) (hl : row.length ≤ LIM) (hn : names.length < 100000) (hs : ∀ x ∈ names, PyData.strOk x = true) (h : ∀ x ∈ row, x ∈ names) : f_mask [.list (names.map .str), .list (row.map .str)] = .ok (.int (row.map fun x => (2 : Int) ^ ix names x).sum) := by
  refine runD_rt ?_
  have e1 : (lLc [2] (tName 2) tYesE (e2 shlD (eC (.int 1)) (eM "list" indexD (eVar 0) (aCons (eVar 2) aNil))) (iL (eVar 1))) [.val (.list (names.map .str)), .val (.list (row.map .str)), .emp] = .ok (row.map fun x => .int (2 ^ ix names x)) :=
    lLc_mapT (enc := PyData.str) (by simp) (fun x hx => by
      have hi := ix_lt (h x hx)
      have c : cPow 1 ((ix names x : Nat) : Int) := ⟨by omega, by omega, by decide⟩
      simp [index_strs hs (h x hx), shl_int c]) hl
  unfold m_mask
  have hs0 : startS 3 [PyData.list (names.map .str), .list (row.map .str)] = [.val (.list (names.map .str)), .val (.list (row.map .str)), .emp] := rfl
  rw [hs0]
  simp only [sRet_ap, eB_ap, aCons_ap, eL_ap, aNil_ap, e1]
  simp
/-- the two ways are one -/
theorem or_bit {a k : Nat} (h : a.testBit k = false) : a ||| 2 ^ k = a + 2 ^ k := by
  have h1 := PySem.W.kbt_bit (a : Int) k
  have h2 : ((a : Int) / 2 ^ k) % 2 = 0 := by
    rw [Nat.testBit_eq_decide_div_mod_eq] at h
    have e : ((a : Int) / 2 ^ k) = ((a / 2 ^ k : Nat) : Int) := by rw [← PySem.W.kbt_cast]; rfl
    rw [e]
    have : a / 2 ^ k % 2 ≠ 1 := by simpa using h
    omega
  rw [h2, Int.zero_mul] at h1
  have h3 := PyProof.Rows.bitOr_and (a : Int) (2 ^ k)
  rw [h1, ← PySem.W.kbt_cast, _root_.Bits.bitOr_pp (Int.natCast_nonneg _) (Int.natCast_nonneg _), Int.toNat_natCast, Int.toNat_natCast] at h3
  omega
theorem fold_or (names : List Str) : ∀ (row : List Str) (a : Nat), row.Nodup → (∀ x ∈ row, x ∈ names) → (∀ x ∈ row, a.testBit (ix names x) = false) → ((row.foldl (fun n x => n ||| 2 ^ ix names x) a : Nat) : Int) = a + (row.map fun x => (2 : Int) ^ ix names x).sum
  | [], a, _, _, _ => by simp
  | x :: xs, a, hn, hm, hb => by
    obtain ⟨n1, n2⟩ := List.nodup_cons.mp hn
    have hx := hb x List.mem_cons_self
    have ih := fold_or names xs (a ||| 2 ^ ix names x) n2 (fun y hy => hm y (List.mem_cons_of_mem _ hy)) fun y hy => by
      rw [Nat.testBit_or, hb y (List.mem_cons_of_mem _ hy), Bool.false_or, Nat.testBit_two_pow]
      have : x ≠ y := fun e => n1 (by rw [e]; exact hy)
      have : ix names x ≠ ix names y := fun e => this (ix_inj (hm x List.mem_cons_self) (hm y (List.mem_cons_of_mem _ hy)) e)
      simpa using this
    rw [List.foldl_cons, ih, or_bit hx, List.map_cons, List.sum_cons, Int.natCast_add, PySem.W.kbt_cast]
    omega
theorem mask_eq (names row : List Str) (hn : row.Nodup) (hm : ∀ x ∈ row, x ∈ names) : ((maskN names row : Nat) : Int) = (row.map fun x => (2 : Int) ^ ix names x).sum := by
  have h := fold_or names row 0 hn hm fun x _ => by simp
  rw [show ((0 : Nat) : Int) = 0 from rfl, Int.zero_add] at h
  exact h
end K73

set_option Elab.async false
set_option linter.all false
set_option maxRecDepth 100000
set_option maxHeartbeats 0
/-! K73v: tables read. -/
namespace K73
open PySem PySem.Spec Mp
open L2 (atI)
def encR (r : List Str) : D := .list (r.map .str)
def okRow (r : List Str) : Prop := r.all isNm = true ∧ ascR r = true
theorem sg_ok {c : Nat} (h : c ∈ SG.cps.toList) : c < 128 := by
  have : ∀ c ∈ SG.cps.toList, c < 128 := by decide +kernel
  exact this c h
theorem nm_ok {x : Str} (h : isNm x = true) : PyData.strOk x = true ∧ x.length ≤ 6 ∧ 1 ≤ x.length := by
  unfold isNm at h
  rw [Bool.and_eq_true, Bool.and_eq_true, decide_eq_true_iff, decide_eq_true_iff, List.all_eq_true] at h
  obtain ⟨⟨h1, h2⟩, h3⟩ := h
  refine ⟨?_, h2, h1⟩
  unfold PyData.strOk
  rw [← Array.all_toList, List.all_eq_true]
  intro c hc
  have := sg_ok (by simpa using h3 c hc)
  simp
  omega
theorem rowR_ok {p : Str} (hp : bigT p) {r : List Str} (h : rowR p = some r) : okRow r ∧ r.length ≤ 2002 := by
  unfold rowR at h
  split at h
  · cases h
    exact ⟨⟨rfl, rfl⟩, by simp⟩
  · split at h
    · rename_i c
      cases h
      rw [Bool.and_eq_true] at c
      exact ⟨c, parts_len hp⟩
    · cases h
theorem okRow_is {r : List Str} (h : okRow r) (hl : r.length ≤ 2002) : f_is_row [encR r] = .ok (.bool true) := by
  have := v_is_row r (many_lim hl) fun x hx => by
    have := nm_ok (List.all_eq_true.mp h.1 x hx)
    have := this.2.1
    unfold LIM
    omega
  unfold encR
  rw [this, h.1, h.2]
  rfl
/-- the rows of a text -/
def allR : List Str → Option (List (List Str))
  | [] => some []
  | p :: ps => match rowR p with
    | none => none
    | some r => (allR ps).map (r :: ·)
theorem allR_len : ∀ {ps : List Str} {rs : List (List Str)}, allR ps = some rs → rs.length = ps.length
  | [], rs, h => by cases h; rfl
  | p :: ps, rs, h => by
    unfold allR at h
    split at h
    · cases h
    · cases e : allR ps with
      | none => rw [e] at h; cases h
      | some qs => rw [e] at h; cases h; simp [allR_len e]
theorem allR_ok : ∀ {ps : List Str} {rs : List (List Str)}, (∀ p ∈ ps, bigT p) → allR ps = some rs → ∀ r ∈ rs, okRow r ∧ r.length ≤ 2002
  | [], rs, _, h, r, hr => by cases h; cases hr
  | p :: ps, rs, hp, h, r, hr => by
    unfold allR at h
    split at h
    · cases h
    · rename_i r0 e0
      cases e : allR ps with
      | none => rw [e] at h; cases h
      | some qs =>
        rw [e] at h
        cases h
        rcases List.mem_cons.mp hr with e1 | e1
        · rw [e1]; exact rowR_ok (hp p List.mem_cons_self) e0
        · exact allR_ok (fun q hq => hp q (List.mem_cons_of_mem _ hq)) e r e1
theorem compX_read : ∀ {ps : List Str} {h : D → Mp.R (Option D)}, (∀ p ∈ ps, h (.str p) = match rowR p with | some r => .ok (some (encR r)) | none => .exc "NoText") → compX h (ps.map .str) = match allR ps with | some rs => .ok (rs.map encR) | none => .exc "NoText"
  | [], h, _ => rfl
  | p :: ps, h, hh => by
    have ih := compX_read (ps := ps) (h := h) fun q hq => hh q (List.mem_cons_of_mem _ hq)
    have h0 := hh p List.mem_cons_self
    rw [List.map_cons]
    unfold compX allR
    rw [h0]
    cases rowR p with
    | none => rfl
    | some r =>
      dsimp only
      rw [ih]
      cases allR ps <;> rfl
theorem all_in (xs ys : List Str) : (xs.all fun x => decide (x ∈ ys)) = true ↔ ∀ x ∈ xs, x ∈ ys := by simp
/-- within the bounds -/
def high (names : List Str) (rest : List (List Str)) : Nat := (redL (rest.map fun r => (maskN names r : Int))).length
def fits (names : List Str) (rest : List (List Str)) : Bool := decide (names.length ≤ 12) && decide (rest.length ≤ 16) && decide (high names rest ≤ 8) && decide (names.length ≤ 8 + high names rest)
theorem v_are_rows_of (names : List Str) (rows : List (List Str)) (hr : ∀ r ∈ rows, okRow r ∧ r.length ≤ 2002) (hin : ∀ r ∈ rows, ∀ x ∈ r, x ∈ names) (hl : rows.length ≤ LIM) : f_are_rows_of [.list (rows.map encR), .list (names.map .str)] = .ok (.bool (decide (rows.length ≤ 16))) := by
  have e1 : (lLc [2] (tName 2) tYesE (eCall 1 f_is_row (aCons (eVar 2) aNil)) (iL (eVar 0))) [.val (.list (rows.map encR)), .val (.list (names.map .str)), .emp, .emp] = .ok (rows.map fun _ => .bool true) :=
    lLc_mapT (enc := encR) (by simp) (fun r h => by simp [okRow_is (hr r h).1 (hr r h).2]) hl
  refine runD_rt ?_
  unfold m_are_rows_of
  by_cases c : rows.length ≤ 16
  · have c' : (rows.length : Int) ≤ 16 := by omega
    rw [seq_nx (ρ' := [.val (.list (rows.map encR)), .val (.list (names.map .str)), .emp, .emp])]
    · obtain ⟨h1, _⟩ := loopS_chk (enc := encR) (xs := rows) (fun _ => true) (r := .exc "x") trivial (fun ρ => ∃ a b : Option D, ρ = [.val (.list (rows.map encR)), .val (.list (names.map .str)), ov a, ov b]) (h := bodyH (tName 2) (sIf (tN (toT (eB (c1 allD) (aCons (eL (lLc [3] (tName 3) (tYesE) (e2 inD (eVar 3) (eVar 1)) (iL (eVar 2)))) (aNil))))) (sRet (eC (.bool false))) (sNx))) (fun r hrm ρ hρ => ⟨fun _ => by
        obtain ⟨a, b, rfl⟩ := hρ
        refine ⟨_, ⟨some (encR r), b, rfl⟩, ?_⟩
        have e2 : (lLc [3] (tName 3) tYesE (e2 inD (eVar 3) (eVar 1)) (iL (eVar 2))) [.val (.list (rows.map encR)), .val (.list (names.map .str)), .val (encR r), ov b] = .ok (r.map fun x => .bool (decide (x ∈ names))) :=
          lLc_mapT (enc := PyData.str) (by simp [encR]) (fun x hx => by simp) (many_lim (hr r hrm).2)
        have e3 : (r.all fun x => decide (x ∈ names)) = true := (all_in r names).mpr (hin r hrm)
        rw [bodyH_ap]
        simp only [tName_ap, List.getElem?_cons_succ, List.getElem?_cons_zero, canPut_ov, if_true, List.set_cons_succ, List.set_cons_zero]
        simp only [sIf_ap, tN_ap, toT_ap, eB_ap, aCons_ap, eL_ap, aNil_ap, e2]
        simp only [map_ok, bind_ok, c1_ap, all_f, e3, ofO_some, onB_b]
        rfl, fun z => nomatch z⟩) (ρ := [.val (.list (rows.map encR)), .val (.list (names.map .str)), .emp, .emp]) ⟨none, none, rfl⟩
      obtain ⟨ρ', ⟨a, b, rfl⟩, h⟩ := h1 (by simp)
      rw [seq_nx (ρ' := [.val (.list (rows.map encR)), .val (.list (names.map .str)), ov a, ov b])]
      · simp [c]
      · rw [sFor_ap, ← h]
        simp
    · have hs0 : startS 4 [PyData.list (rows.map encR), .list (names.map .str)] = [.val (.list (rows.map encR)), .val (.list (names.map .str)), .emp, .emp] := rfl
      rw [hs0]
      simp only [sIf_ap, tO_ap, tN_ap, toT_ap, eB_ap, aCons_ap, eL_ap, aNil_ap, e1]
      have c2 : ¬ (16 : Int) < (rows.length : Int) := by omega
      have e3 : (rows.all fun _ => true) = true := by simp
      simp [c2, c]
  · rw [seq_rt (d := .bool false)]
    · simp [c]
    · have hs0 : startS 4 [PyData.list (rows.map encR), .list (names.map .str)] = [.val (.list (rows.map encR)), .val (.list (names.map .str)), .emp, .emp] := rfl
      rw [hs0]
      simp only [sIf_ap, tO_ap, tN_ap, toT_ap, eB_ap, aCons_ap, eL_ap, aNil_ap, e1]
      have c2 : (16 : Int) < (rows.length : Int) := by omega
      have c3 : 16 < rows.length := by omega
      simp [c2, c3]
end K73

set_option Elab.async false
set_option linter.all false
set_option maxRecDepth 100000
set_option maxHeartbeats 0
/-! K73w: tables read, told. -/
namespace K73
open PySem PySem.Spec Mp
open L2 (atI)
theorem nodup_of {r : List Str} (h : okRow r) : r.Nodup := asc_nodup ((ascR_iff r).mp h.2)
theorem v_steps_of (names : List Str) (rows : List (List Str)) (hn : okRow names ∧ names.length ≤ 2002) (hin : ∀ r ∈ rows, ∀ x ∈ r, x ∈ names) (hl : rows.length ≤ 3000) : ∃ ys : List Int, f_steps_of [.tuple [encR names, .list (rows.map encR)]] = .ok (ys.map .int) ∧ ys.length = high names rows := by
  have hp := v_places_of names (nodup_of hn.1) (by have := hn.2; omega)
  have hl1 : rows.length ≤ LIM := by unfold LIM; omega
  obtain ⟨ys, h1, h2⟩ := v_reduced (rows.map fun r => (maskN names r : Int)) (by rw [List.length_map]; unfold LIM; omega)
  refine ⟨ys, runL_rl ?_, h2.length_eq⟩
  have e1 : (lLc [2] (tName 2) tYesE (eCall 2 f_mask_of (aCons (eVar 1) (aCons (eVar 2) aNil))) (iL (e2 idxD (eVar 0) (eC (.int 1))))) [.val (.tuple [encR names, .list (rows.map encR)]), .val (.dict (plD 0 names)), .emp] = .ok (rows.map fun r => .int (maskN names r : Nat)) :=
    lLc_mapT (enc := encR) (by simp [show atI [encR names, .list (rows.map encR)] 1 = some (.list (rows.map encR)) from rfl]) (fun r hr => by
      have := v_mask_of names r (hin r hr)
      unfold encR
      simp [this]) hl1
  unfold m_steps_of
  rw [seq_nx (ρ' := [.val (.tuple [encR names, .list (rows.map encR)]), .val (.dict (plD 0 names)), .emp])]
  · simp only [sRetL_ap, eCall_ap, aCons_ap, eL_ap, aNil_ap, e1]
    rw [List.map_map] at h1
    simp only [map_ok, bind_ok, List.length_singleton, if_true]
    rw [show (fun r => PyData.int (maskN names r : Nat)) = (PyData.int ∘ fun r => (maskN names r : Int)) from rfl, h1]
    rfl
  · have hs0 : startS 3 [PyData.tuple [encR names, .list (rows.map encR)]] = [.val (.tuple [encR names, .list (rows.map encR)]), .emp, .emp] := rfl
    rw [hs0]
    unfold encR at hp ⊢
    simp [hp]
theorem v_keeps (n : Nat) (ys : List D) : f_keeps_bounds [.int n, .list ys] = .ok (.bool (decide (n ≤ 12) && decide (ys.length ≤ 8) && decide (n ≤ 8 + ys.length))) := by
  refine runD_rt ?_
  have c1 : ((n : Int) ≤ 12) ↔ n ≤ 12 := by omega
  have c2 : ((ys.length : Int) ≤ 8) ↔ ys.length ≤ 8 := by omega
  have c3 : ((n : Int) - ys.length ≤ 8) ↔ n ≤ 8 + ys.length := by omega
  by_cases h1 : n ≤ 12 <;> by_cases h2 : ys.length ≤ 8 <;> simp [m_keeps_bounds, startS, c1, c2, c3, h1, h2]
theorem v_is_table (names : List Str) (rows : List (List Str)) (hn : okRow names ∧ names.length ≤ 2002) (hr : ∀ r ∈ rows, okRow r ∧ r.length ≤ 2002) (hin : ∀ r ∈ rows, ∀ x ∈ r, x ∈ names) (hl : rows.length ≤ 3000) : f_is_table [.tuple [encR names, .list (rows.map encR)]] = .ok (.bool (fits names rows)) := by
  have hl1 : rows.length ≤ LIM := by unfold LIM; omega
  obtain ⟨ys, h1, h2⟩ := v_steps_of names rows hn hin hl
  have h3 := v_are_rows_of names rows hr hin hl1
  have h4 := okRow_is hn.1 hn.2
  have h5 := v_keeps names.length (ys.map .int)
  rw [List.length_map, h2] at h5
  have a0 : atI [encR names, .list (rows.map encR)] 0 = some (encR names) := rfl
  have a1 : atI [encR names, .list (rows.map encR)] 1 = some (.list (rows.map encR)) := rfl
  have hlen : lenD (encR names) = some (.int names.length) := by unfold encR; simp
  have hs0 : startS 1 [PyData.tuple [encR names, .list (rows.map encR)]] = [.val (.tuple [encR names, .list (rows.map encR)])] := rfl
  unfold fits
  refine runD_rt ?_
  unfold m_is_table
  rw [hs0, seq_nx (ρ' := [.val (.tuple [encR names, .list (rows.map encR)])]) (by simp [a0, h4])]
  have h3' : f_are_rows_of [.list (rows.map encR), encR names] = .ok (.bool (decide (rows.length ≤ 16))) := h3
  by_cases c1 : names.length ≤ 12
  · have c1' : ¬ (12 : Int) < (names.length : Int) := by omega
    by_cases c2 : rows.length ≤ 16
    · rw [seq_nx (ρ' := [.val (.tuple [encR names, .list (rows.map encR)])]) (by simp [a0, a1, h3', hlen, c1', c1, c2])]
      simp [a0, hlen, h1, h5, c1, c2]
    · rw [seq_rt (d := .bool false) (by simp [a0, a1, h3', hlen, c1', c1, c2])]
      simp [c2]
  · have c1' : (12 : Int) < (names.length : Int) := by omega
    have c1'' : 12 < names.length := by omega
    rw [seq_rt (d := .bool false) (by simp [a0, a1, h3', hlen, c1', c1''])]
    simp [c1]
/-- what reading a table gives -/
def tabD (t : Str) : Mp.R D := match allR (Txt.split t " / ") with
  | none => .exc "NoText"
  | some rs => if (rs.tail.all fun r => r.all fun x => decide (x ∈ rs.headD [])) = true then (if fits (rs.headD []) rs.tail = true then .ok (.tuple [encR (rs.headD []), .list (rs.tail.map encR)]) else .exc "TooMany") else .exc "NoText"
theorem look_t : f_look [.bool true] = .ok .none := runD_nx (by simp [m_look, startS]; rfl)
theorem look_f : f_look [.bool false] = .exc "NoText" := runD_exc (by simp [m_look, startS])
theorem v_read_table {t : Str} (h : bigT t) : f_read_table [.str t] = tabD t := by
  have hpos := PyProof.Rows.split_pos t " / "
  have hle := parts_len (y := " / ") h
  have hp : ∀ p ∈ Txt.split t " / ", bigT p := fun p hp => parts_of h hp
  have hsp := split_str (a := t) (b := " / ") rfl (big_lim h)
  have e1 : (lLx [5] (tName 5) tYesE (eCall 1 f_read_row (aCons (eVar 5) aNil)) (iL (eL (eM "str" splitD (eVar 0) (aCons (eC (.str " / ")) aNil))))) [.val (.str t), .emp, .emp, .emp, .emp, .emp, .emp] = match allR (Txt.split t " / ") with | some rs => .ok (rs.map encR) | none => .exc "NoText" := by
    rw [lLx_ap]
    have e0 : (iL (eL (eM "str" splitD (eVar 0) (aCons (eC (.str " / ")) aNil)))) [.val (.str t), .emp, .emp, .emp, .emp, .emp, .emp] = .ok ((Txt.split t " / ").map .str) := by simp [hsp]
    rw [e0, bind_ok, if_pos (by rw [List.length_map]; exact many_lim hle)]
    refine compX_read fun p hpm => ?_
    have hr := v_read_row (hp p hpm)
    unfold compHX
    simp [hr]
    cases rowR p <;> rfl
  unfold tabD
  have hs0 : startS 7 [PyData.str t] = [.val (.str t), .emp, .emp, .emp, .emp, .emp, .emp] := rfl
  cases ha : allR (Txt.split t " / ") with
  | none =>
    rw [ha] at e1
    refine runD_exc ?_
    unfold m_read_table
    rw [hs0, seq_nx (ρ' := [.val (.str t), .emp, .emp, .emp, .emp, .emp, .emp]) (by simp [look_t]), seq_exc (c := "NoText")]
    simp only [sSet_ap, eL_ap, e1]
    rfl
  | some rs =>
    rw [ha] at e1
    have hlen := allR_len ha
    have hok := allR_ok hp ha
    obtain ⟨names, rest, rfl⟩ : ∃ n r, rs = n :: r := by
      cases rs with
      | nil => simp at hlen; omega
      | cons a b => exact ⟨a, b, rfl⟩
    show _ = if (rest.all fun r => r.all fun x => decide (x ∈ names)) = true then (if fits names rest = true then Mp.R.ok (PyData.tuple [encR names, .list (rest.map encR)]) else .exc "TooMany") else .exc "NoText"
    have hrl : rest.length ≤ 3000 := by simp at hlen; omega
    have hcut : cutD (PyData.list (names.map .str) :: rest.map encR) (some 1) none = rest.map encR := drop1 _ _
    have hnm := hok names List.mem_cons_self
    have hrs := fun r hr => hok r (List.mem_cons_of_mem _ hr)
    let A : D := .list ((names :: rest).map encR)
    have hA : A = .list (encR names :: rest.map encR) := rfl
    obtain ⟨g1, g2⟩ := loopS_chk (enc := encR) (xs := rest) (fun r => r.all fun x => decide (x ∈ names)) (r := .exc "NoText") trivial (fun ρ => ∃ a b : Option D, ρ = [.val (.str t), .val A, .val (encR names), ov a, .emp, .emp, ov b]) (h := bodyH (tName 3) (sExpr (eCall 1 f_look (aCons (eB (c1 allD) (aCons (eL (lLc [6] (tName 6) (tYesE) (e2 inD (eVar 6) (eVar 2)) (iL (eVar 3)))) (aNil))) (aNil))))) (fun r hrm ρ hρ => by
      obtain ⟨a, b, rfl⟩ := hρ
      have e2' : (lLc [6] (tName 6) tYesE (e2 inD (eVar 6) (eVar 2)) (iL (eVar 3))) [.val (.str t), .val A, .val (encR names), .val (encR r), .emp, .emp, ov b] = .ok (r.map fun x => .bool (decide (x ∈ names))) :=
        lLc_mapT (enc := PyData.str) (by simp [encR]) (fun x hx => by simp [encR]) (many_lim (hrs r hrm).2)
      have e3 : bodyH (tName 3) (sExpr (eCall 1 f_look (aCons (eB (c1 allD) (aCons (eL (lLc [6] (tName 6) (tYesE) (e2 inD (eVar 6) (eVar 2)) (iL (eVar 3)))) (aNil))) (aNil)))) (encR r) [.val (.str t), .val A, .val (encR names), ov a, .emp, .emp, ov b] = lift (f_look [.bool (r.all fun x => decide (x ∈ names))]) fun _ => .nx [.val (.str t), .val A, .val (encR names), .val (encR r), .emp, .emp, ov b] := by
        rw [bodyH_ap]
        simp only [tName_ap, List.getElem?_cons_succ, List.getElem?_cons_zero, canPut_ov, if_true, List.set_cons_succ, List.set_cons_zero]
        simp only [sExpr_ap, eCall_ap, eB_ap, aCons_ap, eL_ap, aNil_ap, e2']
        simp only [map_ok, bind_ok, c1_ap, all_f, ofO_some, List.length_singleton, if_true]
      rw [e3]
      refine ⟨fun c => ⟨_, ⟨some (encR r), b, rfl⟩, ?_⟩, fun c => ?_⟩
      · rw [c, look_t]; rfl
      · rw [c, look_f]; rfl) (ρ := [.val (.str t), .val A, .val (encR names), .emp, .emp, .emp, .emp]) ⟨none, none, rfl⟩
    have start : m_read_table (startS 7 [.str t]) = sSeq (sFor (iL (eL (eS slL (eVar 1) (oSo (eC (.int 1))) (oNo)))) (tName 3) (sExpr (eCall 1 f_look (aCons (eB (c1 allD) (aCons (eL (lLc [6] (tName 6) (tYesE) (e2 inD (eVar 6) (eVar 2)) (iL (eVar 3)))) (aNil))) (aNil))))) (sSeq (sSet 4 (eTup (aCons (eVar 2) (aCons (eL (eS slL (eVar 1) (oSo (eC (.int 1))) (oNo))) (aNil))))) (sSeq (sIf (tN (toT (eCall 1 f_is_table (aCons (eVar 4) (aNil))))) (sRaise "TooMany") (sNx)) (sRet (eVar 4)))) [.val (.str t), .val A, .val (encR names), .emp, .emp, .emp, .emp] := by
      unfold m_read_table
      rw [hs0, seq_nx (ρ' := [.val (.str t), .emp, .emp, .emp, .emp, .emp, .emp]) (by simp [look_t]), seq_nx (ρ' := [.val (.str t), .val A, .emp, .emp, .emp, .emp, .emp]) (by simp only [sSet_ap, eL_ap, e1]; rfl), seq_nx (ρ' := [.val (.str t), .val A, .val (encR names), .emp, .emp, .emp, .emp]) (by rw [hA]; simp)]
    have hsl : (iL (eL (eS slL (eVar 1) (oSo (eC (.int 1))) oNo))) [.val (.str t), .val A, .val (encR names), .emp, .emp, .emp, .emp] = .ok (rest.map encR) := by
      rw [hA]
      have : cutD (encR names :: rest.map encR) (some 1) none = rest.map encR := drop1 _ _
      simp [this]
    by_cases c : (rest.all fun r => r.all fun x => decide (x ∈ names)) = true
    · rw [if_pos c]
      obtain ⟨ρ', ⟨a, b, rfl⟩, hloop⟩ := g1 c
      have hin : ∀ r ∈ rest, ∀ x ∈ r, x ∈ names := fun r hr => (all_in r names).mp (List.all_eq_true.mp c r hr)
      have ht := v_is_table names rest hnm hrs hin hrl
      let B : D := .tuple [encR names, .list (rest.map encR)]
      have s2 : m_read_table (startS 7 [.str t]) = sSeq (sIf (tN (toT (eCall 1 f_is_table (aCons (eVar 4) (aNil))))) (sRaise "TooMany") (sNx)) (sRet (eVar 4)) [.val (.str t), .val A, .val (encR names), ov a, .val B, .emp, ov b] := by
        rw [start, seq_nx (ρ' := [.val (.str t), .val A, .val (encR names), ov a, .emp, .emp, ov b])]
        · rw [seq_nx (ρ' := [.val (.str t), .val A, .val (encR names), ov a, .val B, .emp, ov b])]
          rw [hA]
          have : cutD (encR names :: rest.map encR) (some 1) none = rest.map encR := drop1 _ _
          simp [this, show 2 ≤ LIM by decide, B]
        · rw [sFor_ap, hsl, lift_ok, hloop]
      by_cases cf : fits names rest = true
      · rw [if_pos cf]
        refine runD_rt ?_
        rw [s2, seq_nx (ρ' := [.val (.str t), .val A, .val (encR names), ov a, .val B, .emp, ov b])]
        · simp [B]
        · simp [B, ht, cf]
      · rw [if_neg cf]
        refine runD_exc ?_
        rw [s2, seq_exc (c := "TooMany")]
        simp [B, ht, cf]
    · rw [if_neg c]
      refine runD_exc ?_
      rw [start, seq_exc (c := "NoText")]
      rw [sFor_ap, hsl, lift_ok, g2 (by simpa using c)]
end K73

set_option Elab.async false
set_option linter.all false
set_option maxRecDepth 100000
set_option maxHeartbeats 0
/-! K73x: what is due of a table. -/
namespace K73
open PySem PySem.Spec Mp
open L2 (atI)
def dueOf : Mp.R D → D
  | .ok d => d
  | .exc c => .str c
  | .bad => .none
def resR : Option (List Str) → D
  | some r => encR r
  | none => .none
theorem res_none : ∀ {ps : List Str}, allR ps = none → ((ps.map fun p => resR (rowR p)).any fun z => PyData.eqv z .none) = true
  | [], h => by cases h
  | p :: ps, h => by
    unfold allR at h
    rw [List.map_cons, List.any_cons]
    cases hr : rowR p with
    | none => simp [resR, PyData.eqv]
    | some r =>
      rw [hr] at h
      dsimp only at h
      cases e : allR ps with
      | none => rw [res_none e, Bool.or_true]
      | some qs => rw [e] at h; cases h
theorem res_some : ∀ {ps : List Str} {rs : List (List Str)}, allR ps = some rs → (ps.map fun p => resR (rowR p)) = rs.map encR
  | [], rs, h => by cases h; rfl
  | p :: ps, rs, h => by
    unfold allR at h
    cases hr : rowR p with
    | none => rw [hr] at h; cases h
    | some r =>
      rw [hr] at h
      dsimp only at h
      cases e : allR ps with
      | none => rw [e] at h; cases h
      | some qs =>
        rw [e] at h
        cases h
        rw [List.map_cons, List.map_cons, hr, res_some e]
        rfl
theorem encR_no (rs : List (List Str)) : ((rs.map encR).any fun z => PyData.eqv z .none) = false := by
  rw [List.any_map, List.any_eq_false]
  intro r _
  simp [encR, PyData.eqv]
theorem plain_res (ps : List Str) : PyData.plainAll (ps.map fun p => resR (rowR p)) = true := by
  induction ps with
  | nil => rfl
  | cons p ps ih =>
    rw [List.map_cons, PyData.plainAll, ih]
    cases rowR p with
    | none => rfl
    | some r => simp [resR, encR, PyData.plain, plain_strs]
theorem in_none (xs : List D) (h : PyData.plainAll xs = true) : inD .none (.list xs) = some (.bool (xs.any fun z => PyData.eqv z .none)) := by
  have c : cIn .none xs := ⟨rfl, h, by simp [PyData.depth]⟩
  show ((inStr .none (.list _)).orElse fun _ => inSeq .none (.list _)).map PyData.bool = _
  have e : inSeq .none (.list xs) = some (xs.any fun z => PyData.eqv z .none) := by
    unfold inSeq seqOf
    dsimp only
    rw [if_pos c]
  rw [e]
  rfl
theorem v_table_due {t : Str} (h : bigT t) : f_table_due [.str t] = .ok (dueOf (tabD t)) := by
  have hpos := PyProof.Rows.split_pos t " / "
  have hle := parts_len (y := " / ") h
  have hp : ∀ p ∈ Txt.split t " / ", bigT p := fun p hp => parts_of h hp
  have hsp := split_str (a := t) (b := " / ") rfl (big_lim h)
  have hs0 : startS 7 [PyData.str t] = [.val (.str t), .emp, .emp, .emp, .emp, .emp, .emp] := rfl
  have q1 : (lLc [5] (tName 5) tYesE (eCall 1 f_row_read (aCons (eVar 5) aNil)) (iL (eL (eM "str" splitD (eVar 0) (aCons (eC (.str " / ")) aNil))))) [.val (.str t), .emp, .emp, .emp, .emp, .emp, .emp] = .ok ((Txt.split t " / ").map fun p => resR (rowR p)) :=
    lLc_mapT (enc := PyData.str) (by simp [hsp]) (fun p hpm => by
      simp [v_row_read (hp p hpm)]
      cases rowR p <;> rfl) (many_lim hle)
  have start : m_table_due (startS 7 [PyData.str t]) = (m_table_due (startS 7 [PyData.str t])) := rfl
  unfold m_table_due at start
  conv at start => rhs; rw [hs0, seq_nx (ρ' := [.val (.str t), .val (.list ((Txt.split t " / ").map fun p => resR (rowR p))), .emp, .emp, .emp, .emp, .emp]) (by simp only [sSet_ap, eL_ap, q1]; rfl)]
  refine runD_rt ?_
  unfold m_table_due
  rw [start]
  clear start
  unfold tabD
  cases ha : allR (Txt.split t " / ") with
  | none =>
    rw [seq_rt (d := .str "NoText")]
    · rfl
    · simp [in_none _ (plain_res _), res_none ha]
  | some rs =>
    have hlen := allR_len ha
    have hok := allR_ok hp ha
    have hpl := plain_res (Txt.split t " / ")
    rw [res_some ha] at hpl ⊢
    obtain ⟨names, rest, rfl⟩ : ∃ n r, rs = n :: r := by
      cases rs with
      | nil => simp at hlen; omega
      | cons a b => exact ⟨a, b, rfl⟩
    show _ = SR.rt (dueOf (if (rest.all fun r => r.all fun x => decide (x ∈ names)) = true then (if fits names rest = true then Mp.R.ok (PyData.tuple [encR names, .list (rest.map encR)]) else .exc "TooMany") else .exc "NoText"))
    have hrl : rest.length ≤ 2001 := by simp at hlen; omega
    have hnm := hok names List.mem_cons_self
    have hrs := fun r hr => hok r (List.mem_cons_of_mem _ hr)
    rw [seq_nx (ρ' := [.val (.str t), .val (.list ((names :: rest).map encR)), .emp, .emp, .emp, .emp, .emp]) (by simp only [sIf_ap, toT_ap, e2_ap, eC_ap, eVar_ap, bind_ok, List.getElem?_cons_succ, List.getElem?_cons_zero, in_none _ hpl, encR_no, ofO_some, onB_b]; rfl)]
    let A : D := .list ((names :: rest).map encR)
    have hA : A = .list (encR names :: rest.map encR) := rfl
    obtain ⟨g1, g2⟩ := loopS_chk (enc := encR) (xs := names :: rest) (fun r => r.all fun x => decide (x ∈ names)) (r := .rt (.str "NoText")) trivial (fun ρ => ∃ a b : Option D, ρ = [.val (.str t), .val A, ov a, .emp, .emp, .emp, ov b]) (h := bodyH (tName 2) (sIf (tN (toT (eB (c1 allD) (aCons (eL (lLc [6] (tName 6) (tYesE) (e2 inD (eVar 6) (e2 idxD (eVar 1) (eC (.int 0)))) (iL (eVar 2)))) (aNil))))) (sRet (eC (.str "NoText"))) (sNx))) (fun r hrm ρ hρ => by
      obtain ⟨a, b, rfl⟩ := hρ
      have q2 : (lLc [6] (tName 6) tYesE (e2 inD (eVar 6) (e2 idxD (eVar 1) (eC (.int 0)))) (iL (eVar 2))) [.val (.str t), .val A, .val (encR r), .emp, .emp, .emp, ov b] = .ok (r.map fun x => .bool (decide (x ∈ names))) :=
        lLc_mapT (enc := PyData.str) (by simp [encR]) (fun x hx => by rw [hA]; simp [encR]) (many_lim (hok r hrm).2)
      have q3 : bodyH (tName 2) (sIf (tN (toT (eB (c1 allD) (aCons (eL (lLc [6] (tName 6) (tYesE) (e2 inD (eVar 6) (e2 idxD (eVar 1) (eC (.int 0)))) (iL (eVar 2)))) (aNil))))) (sRet (eC (.str "NoText"))) (sNx)) (encR r) [.val (.str t), .val A, ov a, .emp, .emp, .emp, ov b] = if (r.all fun x => decide (x ∈ names)) = true then .nx [.val (.str t), .val A, .val (encR r), .emp, .emp, .emp, ov b] else .rt (.str "NoText") := by
        rw [bodyH_ap]
        simp only [tName_ap, List.getElem?_cons_succ, List.getElem?_cons_zero, canPut_ov, if_true, List.set_cons_succ, List.set_cons_zero]
        simp only [sIf_ap, tN_ap, toT_ap, eB_ap, aCons_ap, eL_ap, aNil_ap, q2]
        simp only [map_ok, bind_ok, c1_ap, all_f, ofO_some, onB_b, lift_ok]
        cases (r.all fun x => decide (x ∈ names)) <;> rfl
      rw [q3]
      refine ⟨fun c => ⟨_, ⟨some (encR r), b, rfl⟩, ?_⟩, fun c => ?_⟩
      · rw [c]; rfl
      · rw [c]; rfl) (ρ := [.val (.str t), .val A, .emp, .emp, .emp, .emp, .emp]) ⟨none, none, rfl⟩
    have hself : (names.all fun x => decide (x ∈ names)) = true := (all_in names names).mpr fun x hx => hx
    rw [List.all_cons, hself, Bool.true_and] at g1 g2
    have hit : (iL (eVar 1)) [.val (.str t), .val A, .emp, .emp, .emp, .emp, .emp] = .ok ((names :: rest).map encR) := by rw [hA]; simp
    by_cases c : (rest.all fun r => r.all fun x => decide (x ∈ names)) = true
    · rw [if_pos c]
      obtain ⟨ρ', ⟨a, b, rfl⟩, hloop⟩ := g1 c
      have hin : ∀ r ∈ rest, ∀ x ∈ r, x ∈ names := fun r hr => (all_in r names).mp (List.all_eq_true.mp c r hr)
      rw [seq_nx (ρ' := [.val (.str t), .val A, ov a, .emp, .emp, .emp, ov b]) (by rw [sFor_ap, hit, lift_ok, hloop])]
      have hlenN : lenD (encR names) = some (.int names.length) := by unfold encR; simp
      have ho : ∀ x ∈ names, PyData.strOk x = true := fun x hx => (nm_ok (List.all_eq_true.mp hnm.1.1 x hx)).1
      have q4 : (lLc [2] (tName 2) tYesE (eCall 2 f_mask (aCons (e2 idxD (eVar 1) (eC (.int 0))) (aCons (eVar 2) aNil))) (iL (eL (eS slL (eVar 1) (oSo (eC (.int 1))) oNo)))) [.val (.str t), .val A, ov a, .val (.int names.length), .emp, .emp, ov b] = .ok (rest.map fun r => .int (maskN names r : Nat)) :=
        lLc_mapT (enc := encR) (by
          rw [hA]
          have : cutD (encR names :: rest.map encR) (some 1) none = rest.map encR := drop1 _ _
          simp [this]) (fun r hr => by
          have h1 := v_mask names r (many_lim (hrs r hr).2) (by have := hnm.2; omega) ho (hin r hr)
          rw [← mask_eq names r (nodup_of (hrs r hr).1) (hin r hr)] at h1
          rw [hA]
          have h2 : f_mask [encR names, encR r] = .ok (.int (maskN names r : Nat)) := h1
          simp [h2]) (by unfold LIM; omega)
      have q5 := v__law_reduced (rest.map fun r => (maskN names r : Int)) (by rw [List.length_map]; unfold LIM; omega)
      rw [List.map_map] at q5
      have q6 : f__law_reduced [.list (rest.map fun r => .int (maskN names r : Nat))] = .ok (.list ((redL (rest.map fun r => (maskN names r : Int))).map .int)) := q5
      rw [seq_nx (ρ' := [.val (.str t), .val A, ov a, .val (.int names.length), .emp, .emp, ov b]) (by rw [hA]; simp [hlenN])]
      rw [seq_nx (ρ' := [.val (.str t), .val A, ov a, .val (.int names.length), .val (.int (high names rest : Nat)), .emp, ov b])]
      · unfold fits
        generalize high names rest = hg
        have n1 : ((12 : Int) < names.length) ↔ 12 < names.length := by omega
        have n3 : ((8 : Int) < hg) ↔ 8 < hg := by omega
        have n4 : ((8 : Int) < (names.length : Int) - hg) ↔ 8 + hg < names.length := by omega
        have n2 : ((17 : Int) < ((rest.length : Int) + 1)) ↔ 16 < rest.length := by omega
        have hcut : cutD (encR names :: rest.map encR) (some 1) none = rest.map encR := drop1 _ _
        have l2 : (2 : Nat) ≤ LIM := by decide
        rw [hA]
        have k1 : (names.length ≤ 12) ↔ ¬ 12 < names.length := by omega
        have k2 : (rest.length ≤ 16) ↔ ¬ 16 < rest.length := by omega
        have k3 : (hg ≤ 8) ↔ ¬ 8 < hg := by omega
        have k4 : (names.length ≤ 8 + hg) ↔ ¬ 8 + hg < names.length := by omega
        by_cases m1 : 12 < names.length
        · rw [seq_rt (d := .str "TooMany") (by simp [n1, m1])]
          simp [k1, m1, dueOf]
        · by_cases m2 : 16 < rest.length
          · rw [seq_rt (d := .str "TooMany") (by simp [n1, m1, n2, m2])]
            simp [k2, m2, dueOf]
          · by_cases m3 : 8 < hg
            · rw [seq_rt (d := .str "TooMany") (by simp [n1, m1, n2, m2, n3, m3])]
              simp [k3, m3, dueOf]
            · by_cases m4 : 8 + hg < names.length
              · rw [seq_rt (d := .str "TooMany") (by simp [n1, m1, n2, m2, n3, m3, n4, m4])]
                simp [k4, m4, dueOf]
              · rw [seq_nx (ρ' := [.val (.str t), .val (.list (encR names :: rest.map encR)), ov a, .val (.int names.length), .val (.int (hg : Nat)), .emp, ov b]) (by simp [n1, m1, n2, m2, n3, m3, n4, m4])]
                simp [k1, m1, k2, m2, k3, m3, k4, m4, dueOf, hcut, l2]
      · simp only [sSet_ap, eB_ap, eCall_ap, aCons_ap, eL_ap, aNil_ap, q4]
        simp [q6, high]
    · rw [if_neg c]
      rw [seq_rt (d := .str "NoText")]
      · rfl
      · rw [sFor_ap, hit, lift_ok, g2 (by simpa using c)]
theorem v_told0 {t : Str} (h : bigT t) : f_told [.int 0, .str t] = .ok (dueOf (tabD t)) := by
  have hr := v_read_table h
  have hs0 : startS 3 [PyData.int 0, .str t] = [.val (.int 0), .val (.str t), .emp] := rfl
  have e : ∀ r, tabD t = r → (sSeq (sIf (toT (e2 eqD (eVar 0) (eC (.int 0)))) (sRet (eCall 1 f_read_table (aCons (eVar 1) (aNil)))) (sNx)) (sRet (eCall 1 f_read_net (aCons (eVar 1) (aNil))))) [.val (.int 0), .val (.str t), .emp] = lift r .rt := by
    intro r hr0
    rw [hr0] at hr
    cases r with
    | ok d => rw [seq_rt (d := d)]; rfl; simp [hr]
    | exc c => rw [seq_exc (c := c)]; rfl; simp [hr]
    | bad => unfold tabD at hr0; split at hr0 <;> (try split at hr0) <;> (try split at hr0) <;> cases hr0
  refine runD_rt ?_
  unfold m_told sTryR
  rw [hs0]
  have hex : (∃ d, tabD t = .ok d) ∨ tabD t = .exc "NoText" ∨ tabD t = .exc "TooMany" := by
    unfold tabD
    split
    · exact .inr (.inl rfl)
    · split
      · split
        · exact .inl ⟨_, rfl⟩
        · exact .inr (.inr rfl)
      · exact .inr (.inl rfl)
  rcases hex with ⟨d, hd⟩ | hd | hd
  · rw [e _ hd, hd]; rfl
  · rw [e _ hd, hd]; rfl
  · rw [e _ hd, hd]; rfl
end K73

set_option Elab.async false
set_option linter.all false
set_option maxRecDepth 100000
set_option maxHeartbeats 0
/-! K73y: ties. -/
namespace K73
open PySem PySem.Spec Mp
open L2 (atI)
abbrev Tie := Str × Str × Str
def encT (t : Tie) : D := .tuple [.str t.1, .str t.2.1, .str t.2.2]
def tieOk (t : Tie) : Bool := isNm t.1 && isNm t.2.1 && isNm t.2.2 && !strLt t.2.2 t.2.1
def tieS (t : Tie) : Prop := t.1.length ≤ LIM ∧ t.2.1.length ≤ LIM ∧ t.2.2.length ≤ LIM
theorem v_is_tie (t : Tie) (h : tieS t) : f_is_tie [encT t] = .ok (.bool (tieOk t)) := by
  obtain ⟨a, b, c⟩ := t
  obtain ⟨h1, h2, h3⟩ := h
  have hs0 : startS 2 [encT (a, b, c)] = [.val (.tuple [.str a, .str b, .str c]), .emp] := rfl
  have q1 : (lLc [1] (tName 1) tYesE (eCall 1 f_is_name (aCons (eVar 1) aNil)) (iT (eVar 0))) [.val (.tuple [.str a, .str b, .str c]), .emp] = .ok ([a, b, c].map fun x => .bool (isNm x)) :=
    lLc_mapT (enc := PyData.str) (by simp) (fun x hx => by
      have : x.length ≤ LIM := by
        simp at hx
        rcases hx with rfl | rfl | rfl
        · exact h1
        · exact h2
        · exact h3
      simp [v_is_name x this]) (show 3 ≤ LIM by decide)
  have a1 : atI [PyData.str a, .str b, .str c] 1 = some (.str b) := rfl
  have a2 : atI [PyData.str a, .str b, .str c] 2 = some (.str c) := rfl
  refine runD_rt ?_
  unfold m_is_tie
  rw [hs0, seq_nx (ρ' := [.val (.tuple [.str a, .str b, .str c]), .emp]) (by simp)]
  simp only [sRet_ap, eA_ap, eB_ap, aCons_ap, eL_ap, aNil_ap, q1]
  simp only [map_ok, bind_ok, c1_ap, all_f, ofO_some, onB_b, e2_ap, eVar_ap, eC_ap, List.getElem?_cons_zero, idx_tup, a1, a2, le_str']
  unfold tieOk
  simp only [List.all_cons, List.all_nil, Bool.and_true]
  cases isNm a <;> cases isNm b <;> cases isNm c <;> simp
theorem v_are_ties (ns : List Tie) (hl : ns.length ≤ LIM) (h : ∀ t ∈ ns, tieS t) : f_are_ties [.list (ns.map encT)] = .ok (.bool (ns.all tieOk && ascR (ns.map (·.1)))) := by
  have hs0 : startS 3 [PyData.list (ns.map encT)] = [.val (.list (ns.map encT)), .emp, .emp] := rfl
  have q1 : (lLc [1] (tName 1) tYesE (eCall 1 f_is_tie (aCons (eVar 1) aNil)) (iL (eVar 0))) [.val (.list (ns.map encT)), .emp, .emp] = .ok (ns.map fun x => .bool (tieOk x)) :=
    lLc_mapT (enc := encT) (by simp) (fun c hc => by simp [v_is_tie c (h c hc)]) hl
  have q2 : (lLc [2] (tName 2) tYesE (e2 ltD (e2 idxD (e2 idxD (eVar 0) (eVar 2)) (eC (.int 0))) (e2 idxD (e2 idxD (eVar 0) (e2 addD (eVar 2) (eC (.int 1)))) (eC (.int 0)))) (iR1 (aCons (e2 subD (eB (c1 lenD) (aCons (eVar 0) aNil)) (eC (.int 1))) aNil))) [.val (.list (ns.map encT)), .emp, .emp] = .ok ((List.range ((ns.map (·.1)).length - 1)).map fun k => .bool (strLt ((ns.map (·.1)).getD k "") ((ns.map (·.1)).getD (k + 1) ""))) := by
    refine lLc_mapT (enc := fun i => PyData.int ((i : Nat) : Int)) ?_ (fun k hk => ?_) ?_
    · rw [iR1_len (xs := ns.map encT) (by simp) (by simpa using hl), List.length_map, List.length_map]
    · have hk' := List.mem_range.mp hk
      rw [List.length_map] at hk'
      have b1 := at_map encT ns ("", "", "") (k := k) (by omega)
      have b2 := at_map encT ns ("", "", "") (k := k + 1) (by omega)
      rw [show ((k + 1 : Nat) : Int) = (k : Int) + 1 from rfl] at b2
      have g1 : (ns.map (·.1)).getD k ("" : Str) = (ns.getD k ("", "", "")).1 := by
        rw [List.getD_eq_getElem?_getD, List.getD_eq_getElem?_getD, List.getElem?_map, List.getElem?_eq_getElem (by omega : k < ns.length)]
        rfl
      have g2 : (ns.map (·.1)).getD (k + 1) ("" : Str) = (ns.getD (k + 1) ("", "", "")).1 := by
        rw [List.getD_eq_getElem?_getD, List.getD_eq_getElem?_getD, List.getElem?_map, List.getElem?_eq_getElem (by omega : k + 1 < ns.length)]
        rfl
      rw [g1, g2]
      generalize ns.getD k ("", "", "") = u at b1 ⊢
      generalize ns.getD (k + 1) ("", "", "") = v at b2 ⊢
      simp [b1, b2, encT]
    · rw [List.length_range, List.length_map]
      omega
  refine runD_rt ?_
  unfold m_are_ties
  by_cases h1 : ns.all tieOk = true
  · rw [seq_nx (ρ' := [.val (.list (ns.map encT)), .emp, .emp])]
    · simp only [sRet_ap, eB_ap, aCons_ap, eL_ap, aNil_ap, q2]
      simp only [map_ok, bind_ok, c1_ap, all_f, ofO_some, lift_ok]
      rw [h1]
      rfl
    · rw [hs0]
      simp only [sIf_ap, tO_ap, tN_ap, toT_ap, eB_ap, aCons_ap, eL_ap, aNil_ap, q1]
      simp [h1]
  · have h1' : ns.all tieOk = false := by simpa using h1
    rw [seq_rt (d := .bool false)]
    · rw [h1']; rfl
    · rw [hs0]
      simp only [sIf_ap, tO_ap, tN_ap, toT_ap, eB_ap, aCons_ap, eL_ap, aNil_ap, q1]
      simp [h1']
def tie3 (p : Str) : Option Tie := match Txt.split p " " with
  | [a, b, c] => some (a, b, c)
  | _ => none
theorem v_read_tie {p : Str} (h : bigT p) : f_read_tie [.str p] = match tie3 p with | some t => .ok (encT t) | none => .exc "NoText" := by
  have hsp := split_str (a := p) (b := " ") rfl (big_lim h)
  unfold tie3
  have hs0 : startS 2 [PyData.str p] = [.val (.str p), .emp] := rfl
  have st : m_read_tie [.val (.str p), .emp] = sSeq (sExpr (eCall 1 f_look (aCons (e2 eqD (eB (c1 lenD) (aCons (eVar 1) (aNil))) (eC (.int 3))) (aNil)))) (sRet (eTup (aCons (e2 idxD (eVar 1) (eC (.int 0))) (aCons (e2 idxD (eVar 1) (eC (.int 1))) (aCons (e2 idxD (eVar 1) (eC (.int 2))) (aNil)))))) [.val (.str p), .val (.list ((Txt.split p " ").map .str))] := by
    unfold m_read_tie
    rw [seq_nx (ρ' := [.val (.str p), .val (.list ((Txt.split p " ").map .str))]) (by simp [hsp])]
  by_cases c : (Txt.split p " ").length = 3
  · obtain ⟨a, b, d, e⟩ : ∃ a b d, Txt.split p " " = [a, b, d] := by
      match Txt.split p " ", c with
      | [a, b, d], _ => exact ⟨a, b, d, rfl⟩
    rw [e] at st ⊢
    refine runD_rt ?_
    rw [hs0, st, seq_nx (ρ' := [.val (.str p), .val (.list ([a, b, d].map .str))]) (by simp [look_t])]
    have a0 : atI [PyData.str a, .str b, .str d] 0 = some (.str a) := rfl
    have a1 : atI [PyData.str a, .str b, .str d] 1 = some (.str b) := rfl
    have a2 : atI [PyData.str a, .str b, .str d] 2 = some (.str d) := rfl
    have l3 : (3 : Nat) ≤ LIM := by decide
    simp [a0, a1, a2, l3, encT]
  · have c' : ¬ ((Txt.split p " ").length : Int) = 3 := by omega
    have e : (match Txt.split p " " with | [a, b, c] => some (a, b, c) | _ => none) = (none : Option Tie) := by
      match hq : Txt.split p " ", c with
      | [], _ => rfl
      | [_], _ => rfl
      | [_, _], _ => rfl
      | [_, _, _], c => exact absurd rfl c
      | _ :: _ :: _ :: _ :: _, _ => rfl
    rw [e]
    refine runD_exc ?_
    rw [hs0, st, seq_exc (c := "NoText")]
    simp [c', look_f]
def allT : List Str → Option (List Tie)
  | [] => some []
  | p :: ps => match tie3 p with
    | none => none
    | some r => (allT ps).map (r :: ·)
theorem allT_len : ∀ {ps : List Str} {rs : List Tie}, allT ps = some rs → rs.length = ps.length
  | [], rs, h => by cases h; rfl
  | p :: ps, rs, h => by
    unfold allT at h
    split at h
    · cases h
    · cases e : allT ps with
      | none => rw [e] at h; cases h
      | some qs => rw [e] at h; cases h; simp [allT_len e]
theorem tie3_S {p : Str} (h : bigT p) {t : Tie} (e : tie3 p = some t) : tieS t := by
  unfold tie3 at e
  have hp : ∀ x ∈ Txt.split p " ", x.length ≤ LIM := fun x hx => big_lim (parts_of h hx)
  split at e
  · rename_i a b c he
    rw [he] at hp
    cases e
    exact ⟨hp a (by simp), hp b (by simp), hp c (by simp)⟩
  · cases e
theorem allT_S : ∀ {ps : List Str} {rs : List Tie}, (∀ p ∈ ps, bigT p) → allT ps = some rs → ∀ r ∈ rs, tieS r
  | [], rs, _, h, r, hr => by cases h; cases hr
  | p :: ps, rs, hp, h, r, hr => by
    unfold allT at h
    split at h
    · cases h
    · rename_i r0 e0
      cases e : allT ps with
      | none => rw [e] at h; cases h
      | some qs =>
        rw [e] at h
        cases h
        rcases List.mem_cons.mp hr with e1 | e1
        · rw [e1]; exact tie3_S (hp p List.mem_cons_self) e0
        · exact allT_S (fun q hq => hp q (List.mem_cons_of_mem _ hq)) e r e1
theorem compX_ties : ∀ {ps : List Str} {h : D → Mp.R (Option D)}, (∀ p ∈ ps, h (.str p) = match tie3 p with | some r => .ok (some (encT r)) | none => .exc "NoText") → compX h (ps.map .str) = match allT ps with | some rs => .ok (rs.map encT) | none => .exc "NoText"
  | [], h, _ => rfl
  | p :: ps, h, hh => by
    have ih := compX_ties (ps := ps) (h := h) fun q hq => hh q (List.mem_cons_of_mem _ hq)
    have h0 := hh p List.mem_cons_self
    rw [List.map_cons]
    unfold compX allT
    rw [h0]
    cases tie3 p with
    | none => rfl
    | some r =>
      dsimp only
      rw [ih]
      cases allT ps <;> rfl
/-! points -/
def pts (ns : List Tie) : List Str := ns.map (·.2.1) ++ ns.map (·.2.2)
theorem tie_at1 (t : Tie) : idxD (encT t) (.int 1) = some (.str t.2.1) := rfl
theorem tie_at2 (t : Tie) : idxD (encT t) (.int 2) = some (.str t.2.2) := rfl
theorem tie_at0 (t : Tie) : idxD (encT t) (.int 0) = some (.str t.1) := rfl
theorem pts_set (ns : List Tie) (hl : ns.length ≤ 2002) {e1 e2 : Mp.Env → Mp.R (List D)} {ρ : Mp.Env} (h1 : e1 ρ = .ok ((ns.map (·.2.1)).map .str)) (h2 : e2 ρ = .ok ((ns.map (·.2.2)).map .str)) : lSet (eL (l2 addL (eL e1) (eL e2))) ρ = .ok ((setS (pts ns)).map .str) := by
  have b : (pts ns).length + 1 < PySem.scanBound := by
    unfold pts
    rw [List.length_append, List.length_map, List.length_map]
    exact Nat.lt_of_le_of_lt (show _ ≤ 4005 by omega) (by decide)
  have hadd := add_list (a := (ns.map (·.2.1)).map PyData.str) (b := (ns.map (·.2.2)).map PyData.str) (by simp only [List.length_map]; unfold LIM; omega)
  rw [← List.map_append] at hadd
  simp only [lSet_ap, eL_ap, l2_ap, h1, h2, map_ok, bind_ok, hadd, ofO_some]
  unfold pts at b ⊢
  rw [strsOf_map]
  dsimp only
  rw [if_pos b]
theorem v_points (ns : List Tie) (hl : ns.length ≤ 2002) : f_points [.list (ns.map encT)] = .ok ((setS (pts ns)).map .str) := by
  refine runL_rl ?_
  have hs0 : startS 2 [PyData.list (ns.map encT)] = [.val (.list (ns.map encT)), .emp] := rfl
  have hl1 : ns.length ≤ LIM := many_lim hl
  have q1 : (lLc [1] (tName 1) tYesE (e2 idxD (eVar 1) (eC (.int 1))) (iL (eVar 0))) [.val (.list (ns.map encT)), .emp] = .ok ((ns.map (·.2.1)).map .str) := by
    rw [List.map_map]
    exact lLc_mapT (enc := encT) (by simp) (fun t _ => by simp [tie_at1]) hl1
  have q2 : (lLc [1] (tName 1) tYesE (e2 idxD (eVar 1) (eC (.int 2))) (iL (eVar 0))) [.val (.list (ns.map encT)), .emp] = .ok ((ns.map (·.2.2)).map .str) := by
    rw [List.map_map]
    exact lLc_mapT (enc := encT) (by simp) (fun t _ => by simp [tie_at2]) hl1
  unfold m_points
  rw [hs0, sRetL_ap, pts_set ns hl q1 q2]
  rfl
end K73

set_option Elab.async false
set_option linter.all false
set_option maxRecDepth 100000
set_option maxHeartbeats 0
/-! K73z: heaps. -/
namespace K73
open PySem PySem.Spec Mp
open L2 (atI)
def ow : Option (List D) → Sl
  | none => .emp
  | some xs => .own xs
@[simp] theorem canPut_ow (o : Option (List D)) : canPut (some (ow o)) = true := by cases o <;> rfl
theorem ow_o (xs : List D) : ow (some xs) = .own xs := rfl
abbrev Hp2 := List Str × List Str
def encH (h : Hp2) : D := .list [.list (h.1.map .str), .list (h.2.map .str)]
def hJ (a b : Str) (s : Hp2 × List Hp2) (h : Hp2) : Hp2 × List Hp2 := if a ∈ h.1 ∨ b ∈ h.1 then ((s.1.1 ++ h.1, h.2 ++ s.1.2), s.2) else (s.1, s.2 ++ [h])
def hStep (hs : List Hp2) (t : Tie) : List Hp2 := (hs.foldl (hJ t.2.1 t.2.2) (([t.2.1, t.2.2], [t.1]), [])).2 ++ [(hs.foldl (hJ t.2.1 t.2.2) (([t.2.1, t.2.2], [t.1]), [])).1]
def heapsL (ns : List Tie) : List Hp2 := ns.foldl hStep []
def t1 (hs : List Hp2) : Nat := (hs.map fun h => h.1.length).sum
def t2 (hs : List Hp2) : Nat := (hs.map fun h => h.2.length).sum
theorem t1_app (a b : List Hp2) : t1 (a ++ b) = t1 a + t1 b := by simp [t1]
theorem t2_app (a b : List Hp2) : t2 (a ++ b) = t2 a + t2 b := by simp [t2]
theorem t1_one (h : Hp2) : t1 [h] = h.1.length := by simp [t1]
theorem t2_one (h : Hp2) : t2 [h] = h.2.length := by simp [t2]
theorem hJ_sz (a b : Str) (s : Hp2 × List Hp2) (h : Hp2) : (hJ a b s h).1.1.length + t1 (hJ a b s h).2 = s.1.1.length + t1 s.2 + h.1.length ∧ (hJ a b s h).1.2.length + t2 (hJ a b s h).2 = s.1.2.length + t2 s.2 + h.2.length ∧ (hJ a b s h).2.length ≤ s.2.length + 1 := by
  unfold hJ
  split
  · simp
    exact ⟨by omega, by omega⟩
  · simp [t1_app, t2_app, t1_one, t2_one]
    exact ⟨by omega, by omega⟩
theorem fold_sz (a b : Str) : ∀ (hs : List Hp2) (s : Hp2 × List Hp2), (hs.foldl (hJ a b) s).1.1.length + t1 (hs.foldl (hJ a b) s).2 = s.1.1.length + t1 s.2 + t1 hs ∧ (hs.foldl (hJ a b) s).1.2.length + t2 (hs.foldl (hJ a b) s).2 = s.1.2.length + t2 s.2 + t2 hs ∧ (hs.foldl (hJ a b) s).2.length ≤ s.2.length + hs.length
  | [], s => by simp [t1, t2]
  | h :: hs, s => by
    obtain ⟨a1, a2, a3⟩ := hJ_sz a b s h
    obtain ⟨b1, b2, b3⟩ := fold_sz a b hs (hJ a b s h)
    have c1 : t1 (h :: hs) = h.1.length + t1 hs := by simp [t1]
    have c2 : t2 (h :: hs) = h.2.length + t2 hs := by simp [t2]
    rw [List.foldl_cons, c1, c2, List.length_cons]
    exact ⟨by omega, by omega, by omega⟩
theorem hStep_sz (hs : List Hp2) (t : Tie) : t1 (hStep hs t) = t1 hs + 2 ∧ t2 (hStep hs t) = t2 hs + 1 ∧ (hStep hs t).length ≤ hs.length + 1 := by
  obtain ⟨a1, a2, a3⟩ := fold_sz t.2.1 t.2.2 hs (([t.2.1, t.2.2], [t.1]), [])
  unfold hStep
  rw [t1_app, t2_app, t1_one, t2_one, List.length_append]
  simp [t1, t2] at a1 a2 a3 ⊢
  exact ⟨by omega, by omega, by omega⟩
theorem heaps_sz (ns : List Tie) : t1 (heapsL ns) = 2 * ns.length ∧ t2 (heapsL ns) = ns.length ∧ (heapsL ns).length ≤ ns.length := by
  suffices h : ∀ hs : List Hp2, t1 (ns.foldl hStep hs) = t1 hs + 2 * ns.length ∧ t2 (ns.foldl hStep hs) = t2 hs + ns.length ∧ (ns.foldl hStep hs).length ≤ hs.length + ns.length by
    have := h []
    simpa [heapsL, t1, t2] using this
  induction ns with
  | nil => exact fun hs => ⟨rfl, rfl, Nat.le_refl _⟩
  | cons t ns ih =>
    intro hs
    obtain ⟨a1, a2, a3⟩ := hStep_sz hs t
    obtain ⟨b1, b2, b3⟩ := ih (hStep hs t)
    rw [List.foldl_cons, List.length_cons]
    exact ⟨by omega, by omega, by omega⟩
theorem heapsL_snoc (ns : List Tie) (t : Tie) : heapsL (ns ++ [t]) = hStep (heapsL ns) t := by unfold heapsL; rw [List.foldl_append]; rfl
theorem mem_t1 {h : Hp2} {hs : List Hp2} (hh : h ∈ hs) : h.1.length ≤ t1 hs ∧ h.2.length ≤ t2 hs := by
  induction hs with
  | nil => cases hh
  | cons g hs ih =>
    have c1 : t1 (g :: hs) = g.1.length + t1 hs := by simp [t1]
    have c2 : t2 (g :: hs) = g.2.length + t2 hs := by simp [t2]
    rw [c1, c2]
    rcases List.mem_cons.mp hh with e | e
    · subst e; exact ⟨by omega, by omega⟩
    · have := ih e
      exact ⟨by omega, by omega⟩
theorem h_at0 (h : Hp2) : idxD (encH h) (.int 0) = some (.list (h.1.map .str)) := rfl
theorem h_at1 (h : Hp2) : idxD (encH h) (.int 1) = some (.list (h.2.map .str)) := rfl
theorem v_heaps_of (ns : List Tie) (names : List Str) (hl : ns.length ≤ 2002) (hin : ∀ t ∈ ns, t.1 ∈ names) : f_heaps_of [.list (ns.map encT), .list (names.map .str)] = .ok (.list ((heapsL ns).map encH)) := by
  refine runD_rt ?_
  unfold m_heaps_of
  let A : D := .list (ns.map encT)
  let B : D := .list (names.map .str)
  rw [seq_nx (ρ' := [.val A, .val B, .val (.list []), .emp, .emp, .emp, .emp, .emp, .emp]) (by simp [startS, A, B])]
  obtain ⟨ρ', ⟨a3, a4, a5, a6, a7, a8, rfl⟩, h⟩ := loopS_inv (enc := encT) (xs := ns) (fun pre ρ => ∃ (a3 a4 a5 a6 : Option D) (a7 : Option (List D)) (a8 : Option D), ρ = [.val A, .val B, .val (.list ((heapsL pre).map encH)), ov a3, ov a4, ov a5, ov a6, ow a7, ov a8]) (h := bodyH (tTupT 3 (tsCons (tName 3) (tsCons (tName 4) (tsCons (tName 5) (tsNil))))) (sIf (toT (e2 inD (eVar 3) (eVar 1))) (sSeq (sSet 6 (eL (lLst (aCons (eL (lLst (aCons (eVar 4) (aCons (eVar 5) (aNil))))) (aCons (eL (lLst (aCons (eVar 3) (aNil)))) (aNil)))))) (sSeq (sSetL 7 (lLst (aNil))) (sSeq (sFor (iL (eVar 2)) (tName 8) (sIf (tO (toT (e2 inD (eVar 4) (e2 idxD (eVar 8) (eC (.int 0))))) (toT (e2 inD (eVar 5) (e2 idxD (eVar 8) (eC (.int 0)))))) (sSet 6 (eL (lLst (aCons (eL (l2 addL (e2 idxD (eVar 6) (eC (.int 0))) (e2 idxD (eVar 8) (eC (.int 0))))) (aCons (eL (l2 addL (e2 idxD (eVar 8) (eC (.int 1))) (e2 idxD (eVar 6) (eC (.int 1))))) (aNil)))))) (sApp 7 (eVar 8)))) (sSet 2 (eL (l2 addL (bVar 7) (eL (lLst (aCons (eVar 6) (aNil)))))))))) (sNx))) (fun pre t post e ρ hρ => by
    obtain ⟨a3, a4, a5, a6, a7, a8, rfl⟩ := hρ
    obtain ⟨nm, one, other⟩ := t
    have hsz := heaps_sz pre
    have hpre : pre.length < ns.length := by rw [e]; simp
    generalize hR : heapsL pre = hs at hsz
    have hnm : nm ∈ names := hin (nm, one, other) (by rw [e]; simp)
    have lim2 : (2 : Nat) ≤ LIM := by decide
    have lim1 : (1 : Nat) ≤ LIM := by decide
    obtain ⟨ρ1, ⟨b8, hρ1⟩, hloop⟩ := loopS_inv (enc := encH) (xs := hs) (fun q ρ => ∃ b8 : Option D, ρ = [.val A, .val B, .val (.list (hs.map encH)), .val (.str nm), .val (.str one), .val (.str other), .val (encH (q.foldl (hJ one other) (([one, other], [nm]), [])).1), .own ((q.foldl (hJ one other) (([one, other], [nm]), [])).2.map encH), ov b8]) (h := bodyH (tName 8) (sIf (tO (toT (e2 inD (eVar 4) (e2 idxD (eVar 8) (eC (.int 0))))) (toT (e2 inD (eVar 5) (e2 idxD (eVar 8) (eC (.int 0)))))) (sSet 6 (eL (lLst (aCons (eL (l2 addL (e2 idxD (eVar 6) (eC (.int 0))) (e2 idxD (eVar 8) (eC (.int 0))))) (aCons (eL (l2 addL (e2 idxD (eVar 8) (eC (.int 1))) (e2 idxD (eVar 6) (eC (.int 1))))) (aNil)))))) (sApp 7 (eVar 8)))) (fun q g post2 eq2 ρ hρ => by
      obtain ⟨b8, rfl⟩ := hρ
      refine ⟨_, ⟨some (encH g), rfl⟩, .inl ?_⟩
      obtain ⟨z1, z2, z3⟩ := fold_sz one other q (([one, other], [nm]), [])
      have y1 : t1 q + g.1.length ≤ t1 hs ∧ t2 q + g.2.length ≤ t2 hs ∧ q.length < hs.length := by
        rw [eq2, t1_app, t2_app, List.length_append]
        have := (mem_t1 (h := g) (hs := g :: post2) List.mem_cons_self)
        exact ⟨by omega, by omega, by simp⟩
      rw [List.foldl_append, List.foldl_cons, List.foldl_nil]
      generalize q.foldl (hJ one other) (([one, other], [nm]), []) = s at z1 z2 z3
      simp [t1, t2] at z1 z2 z3
      have w1 : s.1.1.length + g.1.length ≤ LIM := by unfold LIM; unfold t1 at *; omega
      have w2 : g.2.length + s.1.2.length ≤ LIM := by unfold LIM; unfold t2 at *; omega
      have w3 : s.2.length < LIM := by unfold LIM; omega
      have d1 := add_list (a := s.1.1.map PyData.str) (b := g.1.map PyData.str) (by simpa using w1)
      have d2 := add_list (a := g.2.map PyData.str) (b := s.1.2.map PyData.str) (by simpa using w2)
      unfold hJ
      by_cases c1 : one ∈ g.1
      · rw [if_pos (.inl c1)]
        simp [h_at0, h_at1, c1, d1, d2, lim2, ov_v]
        simp [encH]
      · by_cases c2 : other ∈ g.1
        · rw [if_pos (.inr c2)]
          simp [h_at0, h_at1, c1, c2, d1, d2, lim2, ov_v]
          simp [encH]
        · rw [if_neg (by rintro (z | z) <;> contradiction)]
          simp [h_at0, h_at1, c1, c2, d1, d2, w3, ov_v]) (ρ := [.val A, .val B, .val (.list (hs.map encH)), .val (.str nm), .val (.str one), .val (.str other), .val (encH ([one, other], [nm])), .own [], ov a8]) ⟨a8, rfl⟩
    subst hρ1
    have hstep : heapsL (pre ++ [(nm, one, other)]) = hStep hs (nm, one, other) := by rw [heapsL_snoc, hR]
    obtain ⟨z1, z2, z3⟩ := fold_sz one other hs (([one, other], [nm]), [])
    unfold hStep at hstep
    dsimp only at hstep
    generalize hs.foldl (hJ one other) (([one, other], [nm]), []) = s at z1 z2 z3 hloop hstep
    have w3 : s.2.length + 1 ≤ LIM := by
      simp at z3
      unfold LIM
      omega
    have d3 := add_list (a := s.2.map encH) (b := [encH s.1]) (by simpa using w3)
    refine ⟨_, ⟨some (.str nm), some (.str one), some (.str other), some (encH s.1), some (s.2.map encH), b8, rfl⟩, .inl ?_⟩
    rw [hstep]
    have st : bodyH (tTupT 3 (tsCons (tName 3) (tsCons (tName 4) (tsCons (tName 5) (tsNil))))) (sIf (toT (Mp.e2 inD (eVar 3) (eVar 1))) (sSeq (sSet 6 (eL (lLst (aCons (eL (lLst (aCons (eVar 4) (aCons (eVar 5) (aNil))))) (aCons (eL (lLst (aCons (eVar 3) (aNil)))) (aNil)))))) (sSeq (sSetL 7 (lLst (aNil))) (sSeq (sFor (iL (eVar 2)) (tName 8) (sIf (tO (toT (Mp.e2 inD (eVar 4) (Mp.e2 idxD (eVar 8) (eC (.int 0))))) (toT (Mp.e2 inD (eVar 5) (Mp.e2 idxD (eVar 8) (eC (.int 0)))))) (sSet 6 (eL (lLst (aCons (eL (l2 addL (Mp.e2 idxD (eVar 6) (eC (.int 0))) (Mp.e2 idxD (eVar 8) (eC (.int 0))))) (aCons (eL (l2 addL (Mp.e2 idxD (eVar 8) (eC (.int 1))) (Mp.e2 idxD (eVar 6) (eC (.int 1))))) (aNil)))))) (sApp 7 (eVar 8)))) (sSet 2 (eL (l2 addL (bVar 7) (eL (lLst (aCons (eVar 6) (aNil)))))))))) (sNx)) (encT (nm, one, other)) [.val A, .val B, .val (.list (hs.map encH)), ov a3, ov a4, ov a5, ov a6, ow a7, ov a8] = (sSeq (sSet 6 (eL (lLst (aCons (eL (lLst (aCons (eVar 4) (aCons (eVar 5) (aNil))))) (aCons (eL (lLst (aCons (eVar 3) (aNil)))) (aNil)))))) (sSeq (sSetL 7 (lLst (aNil))) (sSeq (sFor (iL (eVar 2)) (tName 8) (sIf (tO (toT (Mp.e2 inD (eVar 4) (Mp.e2 idxD (eVar 8) (eC (.int 0))))) (toT (Mp.e2 inD (eVar 5) (Mp.e2 idxD (eVar 8) (eC (.int 0)))))) (sSet 6 (eL (lLst (aCons (eL (l2 addL (Mp.e2 idxD (eVar 6) (eC (.int 0))) (Mp.e2 idxD (eVar 8) (eC (.int 0))))) (aCons (eL (l2 addL (Mp.e2 idxD (eVar 8) (eC (.int 1))) (Mp.e2 idxD (eVar 6) (eC (.int 1))))) (aNil)))))) (sApp 7 (eVar 8)))) (sSet 2 (eL (l2 addL (bVar 7) (eL (lLst (aCons (eVar 6) (aNil)))))))))) [.val A, .val B, .val (.list (hs.map encH)), .val (.str nm), .val (.str one), .val (.str other), ov a6, ow a7, ov a8] := by
      rw [bodyH_ap]
      simp only [encT, tTupT_ap, List.length_cons, List.length_nil, if_true, tsCons_ap, tName_ap, List.getElem?_cons_succ, List.getElem?_cons_zero, canPut_ov, List.set_cons_succ, List.set_cons_zero, bind_ok, tsNil_ap]
      rw [if_t (by simp [B, hnm])]
    rw [st, seq_nx (ρ' := [.val A, .val B, .val (.list (hs.map encH)), .val (.str nm), .val (.str one), .val (.str other), .val (encH ([one, other], [nm])), ow a7, ov a8]) (by simp [encH, lim1, lim2]), seq_nx (ρ' := [.val A, .val B, .val (.list (hs.map encH)), .val (.str nm), .val (.str one), .val (.str other), .val (encH ([one, other], [nm])), .own [], ov a8]) (by simp), seq_nx (ρ' := [.val A, .val B, .val (.list (hs.map encH)), .val (.str nm), .val (.str one), .val (.str other), .val (encH s.1), .own (s.2.map encH), ov b8])]
    · simp [lim1, d3, ov_v, ow_o]
    · rw [sFor_ap, ← hloop]
      simp) (ρ := [.val A, .val B, .val (.list []), .emp, .emp, .emp, .emp, .emp, .emp]) ⟨none, none, none, none, none, none, rfl⟩
  rw [seq_nx (ρ' := [.val A, .val B, .val (.list ((heapsL ns).map encH)), ov a3, ov a4, ov a5, ov a6, ow a7, ov a8])]
  · simp
  · rw [sFor_ap, ← h]
    simp [A]
end K73

set_option Elab.async false
set_option linter.all false
set_option maxRecDepth 100000
set_option maxHeartbeats 0
/-! K73e: pieces, even sets. -/
namespace K73
open PySem PySem.Spec Mp
open L2 (atI)
theorem alike_strs : ∀ xs ys : List Str, PySem.W.alikeAll (xs.map .str) (ys.map .str) = true
  | [], _ => by simp [PySem.W.alikeAll]
  | _ :: _, [] => by simp [PySem.W.alikeAll]
  | x :: xs, y :: ys => by simp [PySem.W.alikeAll, PySem.W.alike, alike_strs xs ys]
theorem sorted_str (xs : List Str) (h : xs.length ≤ LIM) : srtOk (xs.map .str) = true := by
  unfold srtOk
  rw [plain_strs]
  simp [PySem.W.alike, notTN, PyData.depth, h]
theorem srt_strs (xs : List Str) : ∃ ys : List Str, srtL (xs.map .str) = ys.map .str ∧ ys.Perm xs := by
  have hp : (srtL (xs.map PyData.str)).Perm (xs.map PyData.str) := List.mergeSort_perm _ _
  exact perm_unmap (f := PyData.str) (g := fun d => match d with | .str x => x | _ => "") (fun _ => rfl) hp
def isLS (d : D) : Prop := ∃ xs : List Str, d = .list (xs.map .str)
theorem sorted_ls (ds : List D) (hd : ∀ d ∈ ds, isLS d) (h : ds.length ≤ LIM) : srtOk ds = true := by
  unfold srtOk
  have p : PyData.plainAll ds = true := by
    clear h
    induction ds with
    | nil => rfl
    | cons d ds ih =>
      obtain ⟨xs, rfl⟩ := hd d List.mem_cons_self
      rw [PyData.plainAll, ih fun e he => hd e (List.mem_cons_of_mem _ he), PyData.plain, plain_strs]
      rfl
  have a : (ds.all fun d => ds.all fun e => PySem.W.alike d e) = true := by
    rw [List.all_eq_true]
    intro d h1
    rw [List.all_eq_true]
    intro e h2
    obtain ⟨xs, rfl⟩ := hd d h1
    obtain ⟨ys, rfl⟩ := hd e h2
    simp [PySem.W.alike, alike_strs]
  have n : ds.all notTN = true := by
    rw [List.all_eq_true]
    intro d h1
    obtain ⟨xs, rfl⟩ := hd d h1
    rfl
  have q : (ds.all fun d => decide (d.depth ≤ 50)) = true := by
    rw [List.all_eq_true]
    intro d h1
    obtain ⟨xs, rfl⟩ := hd d h1
    have := depth_strs xs
    simp [PyData.depth]
    omega
  rw [p, a, n, q]
  simp [h]
theorem v_pieces (ns : List Tie) (hl : ns.length ≤ 2002) : ∃ ys : List D, f_pieces [.list (ns.map encT)] = .ok ys ∧ ys.length = (heapsL ns).length := by
  obtain ⟨z1, z2, z3⟩ := heaps_sz ns
  have hs0 : startS 4 [PyData.list (ns.map encT)] = [.val (.list (ns.map encT)), .emp, .emp, .emp] := rfl
  have q1 : (lLc [2] (tName 2) tYesE (e2 idxD (eVar 2) (eC (.int 0))) (iL (eVar 0))) [.val (.list (ns.map encT)), .emp, .emp, .emp] = .ok ((ns.map (·.1)).map .str) := by
    rw [List.map_map]
    exact lLc_mapT (enc := encT) (by simp) (fun t _ => by simp [tie_at0]) (many_lim hl)
  have hh := v_heaps_of ns (ns.map (·.1)) hl fun t ht => List.mem_map.mpr ⟨t, ht, rfl⟩
  have q2 : (lLc [3] (tName 3) tYesE (eL (eB (cl1 sortD) (aCons (e2 idxD (eVar 3) (eC (.int 1))) aNil))) (iL (eCall 2 f_heaps_of (aCons (eVar 0) (aCons (eVar 1) aNil))))) [.val (.list (ns.map encT)), .val (.list ((ns.map (·.1)).map .str)), .emp, .emp] = .ok ((heapsL ns).map fun h => .list (srtL (h.2.map .str))) :=
    lLc_mapT (enc := encH) (by rw [iL_ap, eCall_ap]; simp only [aCons_ap, aNil_ap, eVar_ap, List.getElem?_cons_succ, List.getElem?_cons_zero, bind_ok, List.length_cons, List.length_nil, if_true]; rw [hh]; rfl) (fun h hm => by
      have hlen : h.2.length ≤ LIM := by
        have := (mem_t1 hm).2
        unfold LIM
        omega
      simp [h_at1, sortD, sorted_str _ hlen]) (by unfold LIM; omega)
  have hls : ∀ d ∈ ((heapsL ns).map fun h => PyData.list (srtL (h.2.map .str))), isLS d := by
    intro d hd
    obtain ⟨h, _, rfl⟩ := List.mem_map.mp hd
    obtain ⟨ys, e, _⟩ := srt_strs h.2
    exact ⟨ys, by rw [e]⟩
  have hso := sorted_ls _ hls (by rw [List.length_map]; unfold LIM; omega)
  refine ⟨srtL ((heapsL ns).map fun h => .list (srtL (h.2.map .str))), runL_rl ?_, ?_⟩
  · unfold m_pieces
    rw [hs0, seq_nx (ρ' := [.val (.list (ns.map encT)), .val (.list ((ns.map (·.1)).map .str)), .emp, .emp]) (by simp only [sSet_ap, eL_ap, q1]; rfl)]
    simp only [sRetL_ap, eB_ap, aCons_ap, eL_ap, aNil_ap, q2]
    simp only [map_ok, bind_ok, cl1_ap, sortD, hso, if_true, ofO_some, lift_ok]
  · unfold srtL
    rw [List.length_mergeSort, List.length_map]
theorem v_is_bounded (ns : List Tie) (hl : ns.length ≤ 2002) : f_is_bounded [.list (ns.map encT)] = .ok (.bool (decide (ns.length ≤ 12) && (decide (((setS (pts ns)).length : Int) - (heapsL ns).length ≤ 8) && decide ((ns.length : Int) - (((setS (pts ns)).length : Int) - (heapsL ns).length) ≤ 8)))) := by
  obtain ⟨ys, h1, h2⟩ := v_pieces ns hl
  have h3 := v_points ns hl
  have hs0 : startS 2 [PyData.list (ns.map encT)] = [.val (.list (ns.map encT)), .emp] := rfl
  refine runD_rt ?_
  unfold m_is_bounded
  rw [hs0]
  by_cases c : ns.length ≤ 12
  · have c' : ¬ (12 : Int) < (ns.length : Int) := by omega
    have c'' : ¬ 12 < ns.length := by omega
    rw [seq_nx (ρ' := [.val (.list (ns.map encT)), .emp]) (by simp [c', c, c'']), seq_nx (ρ' := [.val (.list (ns.map encT)), .val (.int (((setS (pts ns)).length : Int) - (heapsL ns).length))]) (by simp [h1, h3, h2])]
    generalize ((setS (pts ns)).length : Int) - (heapsL ns).length = hi
    by_cases c3 : hi ≤ 8 <;> simp [c, c3]
  · have c' : (12 : Int) < (ns.length : Int) := by omega
    have c'' : 12 < ns.length := by omega
    rw [seq_rt (d := .bool false) (by simp [c', c''])]
    simp [c]
/-! even sets -/
def edge (K : List Str) (t : Tie) : Int := Builtin.bitXor (2 ^ ix K t.2.1) (2 ^ ix K t.2.2)
def evStep (K : List Str) (kept : List Int) (t : Tie) : List Int := if kept.foldl stepR (edge K t) = 0 then kept else kept ++ [kept.foldl stepR (edge K t)]
def evL (K : List Str) (ns : List Tie) : List Int := ns.foldl (evStep K) []
theorem evL_snoc (K : List Str) (ns : List Tie) (t : Tie) : evL K (ns ++ [t]) = evStep K (evL K ns) t := by unfold evL; rw [List.foldl_append]; rfl
theorem evL_le (K : List Str) (ns : List Tie) : (evL K ns).length ≤ ns.length := by
  suffices h : ∀ ks : List Int, (ns.foldl (evStep K) ks).length ≤ ks.length + ns.length by
    have := h []
    unfold evL
    simpa using this
  induction ns with
  | nil => exact fun ks => Nat.le_refl _
  | cons t ns ih =>
    intro ks
    have h1 := ih (evStep K ks t)
    have h2 : (evStep K ks t).length ≤ ks.length + 1 := by unfold evStep; split <;> simp
    rw [List.foldl_cons, List.length_cons]
    omega
theorem enumsT {α : Type} (f : α → D) : ∀ (xs : List α) (k : Nat), enums k (xs.map f) = (xs.zipIdx k).map fun p => .tuple [.int (p.2 : Nat), f p.1]
  | [], _ => rfl
  | x :: xs, k => by
    rw [List.map_cons, List.zipIdx_cons, List.map_cons, ← enumsT f xs (k + 1)]
    rfl
def encP (p : Int × Int) : D := .tuple [.int p.1, .int p.2]
theorem insS_le (x : Str) : ∀ ys : List Str, (insS x ys).length ≤ ys.length + 1
  | [] => Nat.le_refl _
  | y :: ys => by
    have := insS_le x ys
    unfold insS
    split
    · simp; try omega
    · split <;> simp <;> omega
theorem setS_le : ∀ l : List Str, (setS l).length ≤ l.length
  | [] => Nat.le_refl _
  | x :: xs => by
    have h1 := insS_le x (setS xs)
    have h2 := setS_le xs
    show (insS x (setS xs)).length ≤ xs.length + 1
    omega
theorem v_even (ns : List Tie) (hl : ns.length ≤ 2002) (hS : ∀ x ∈ pts ns, PyData.strOk x = true) : ∃ ys : List Int, f_even [.list (ns.map encT)] = .ok (ys.map .int) ∧ ys.length + (evL (setS (pts ns)) ns).length = ns.length := by
  let A : D := .list (ns.map encT)
  let K := setS (pts ns)
  let B : D := .list (K.map .str)
  have hK : ∀ x, x ∈ K ↔ x ∈ pts ns := fun x => mem_setS x _
  have hKS : ∀ x ∈ K, PyData.strOk x = true := fun x hx => hS x ((hK x).mp hx)
  have hKl : K.length ≤ 4004 := by
    have h1 : (pts ns).length ≤ 4004 := by unfold pts; simp; omega
    exact Nat.le_trans (setS_le _) h1
  have q1 : (lLc [5] (tName 5) tYesE (e2 idxD (eVar 5) (eC (.int 1))) (iL (eVar 0))) [.val A, .emp, .emp, .emp, .emp, .emp, .emp, .emp, .emp, .emp] = .ok ((ns.map (·.2.1)).map .str) := by
    rw [List.map_map]
    exact lLc_mapT (enc := encT) (by simp [A]) (fun t _ => by simp [tie_at1]) (many_lim hl)
  have q2 : (lLc [5] (tName 5) tYesE (e2 idxD (eVar 5) (eC (.int 2))) (iL (eVar 0))) [.val A, .emp, .emp, .emp, .emp, .emp, .emp, .emp, .emp, .emp] = .ok ((ns.map (·.2.2)).map .str) := by
    rw [List.map_map]
    exact lLc_mapT (enc := encT) (by simp [A]) (fun t _ => by simp [tie_at2]) (many_lim hl)
  have hs0 : startS 10 [PyData.list (ns.map encT)] = [.val A, .emp, .emp, .emp, .emp, .emp, .emp, .emp, .emp, .emp] := rfl
  obtain ⟨ρ', ⟨kept, found, a4, a5, a6, a7, a8, a9, k1, k2, rfl⟩, hloop⟩ := loopS_inv (enc := fun p : Tie × Nat => PyData.tuple [.int (p.2 : Nat), encT p.1]) (xs := ns.zipIdx) (fun pre ρ => ∃ (kept : List (Int × Int)) (found : List Int) (a4 a5 a6 a7 a8 a9 : Option D), kept.map (·.1) = evL K (pre.map (·.1)) ∧ found.length + kept.length = pre.length ∧ ρ = [.val A, .val B, .own (kept.map encP), .own (found.map .int), ov a4, ov a5, ov a6, ov a7, ov a8, ov a9]) (h := bodyH (tTupT 2 (tsCons (tName 4) (tsCons (tName 5) (tsNil)))) (sSeq (sSet 6 (e2 xorD (e2 shlD (eC (.int 1)) (eM "list" indexD (eVar 1) (aCons (e2 idxD (eVar 5) (eC (.int 1))) (aNil)))) (e2 shlD (eC (.int 1)) (eM "list" indexD (eVar 1) (aCons (e2 idxD (eVar 5) (eC (.int 2))) (aNil)))))) (sSeq (sSet 7 (e2 shlD (eC (.int 1)) (eVar 4))) (sSeq (sForH 2 (tTupT 2 (tsCons (tName 8) (tsCons (tName 9) (tsNil)))) (sIf (toT (e2 neD (e2 andD (e2 andD (eVar 6) (eVar 8)) (e1 negD (eVar 8))) (eC (.int 0)))) (sSeq (sSet 6 (e2 xorD (eVar 6) (eVar 8))) (sSet 7 (e2 xorD (eVar 7) (eVar 9)))) (sNx))) (sIf (toT (e2 eqD (eVar 6) (eC (.int 0)))) (sApp 3 (eVar 7)) (sApp 2 (eTup (aCons (eVar 6) (aCons (eVar 7) (aNil)))))))))) (fun pre x post eq ρ hρ => by
    obtain ⟨kept, found, a4, a5, a6, a7, a8, a9, k1, k2, rfl⟩ := hρ
    obtain ⟨t, n⟩ := x
    have em := congrArg (List.map (·.1)) eq
    rw [List.zipIdx_map_fst, List.map_append, List.map_cons] at em
    have hpl : pre.length < ns.length := by
      have := congrArg List.length eq
      simp at this
      omega
    have hn : n < ns.length := by
      have hm : (t, n) ∈ ns.zipIdx := by rw [eq]; simp
      have := (List.mem_zipIdx hm).2.1
      omega
    have ht : t ∈ ns := by rw [em]; simp
    have m1 : t.2.1 ∈ K := (hK _).mpr (List.mem_append.mpr (.inl (List.mem_map.mpr ⟨t, ht, rfl⟩)))
    have m2 : t.2.2 ∈ K := (hK _).mpr (List.mem_append.mpr (.inr (List.mem_map.mpr ⟨t, ht, rfl⟩)))
    have i1 := index_strs hKS m1
    have i2 := index_strs hKS m2
    have l1 := ix_lt m1
    have l2 := ix_lt m2
    have c1 : cPow 1 ((ix K t.2.1 : Nat) : Int) := ⟨by omega, by omega, by decide⟩
    have c2 : cPow 1 ((ix K t.2.2 : Nat) : Int) := ⟨by omega, by omega, by decide⟩
    have c3 : cPow 1 ((n : Nat) : Int) := ⟨by omega, by omega, by decide⟩
    obtain ⟨ρ1, ⟨mine, b8, b9, rfl⟩, h1⟩ := sForH_inv (enc := encP) (xs := kept) (i := 2) (tg := tTupT 2 (tsCons (tName 8) (tsCons (tName 9) (tsNil)))) (fb := sIf (toT (Mp.e2 neD (Mp.e2 andD (Mp.e2 andD (eVar 6) (eVar 8)) (e1 negD (eVar 8))) (eC (.int 0)))) (sSeq (sSet 6 (Mp.e2 xorD (eVar 6) (eVar 8))) (sSet 7 (Mp.e2 xorD (eVar 7) (eVar 9)))) (sNx)) (ρ := [.val A, .val B, .own (kept.map encP), .own (found.map .int), .val (.int (n : Nat)), .val (encT t), .val (.int (edge K t)), .val (.int (2 ^ n)), ov a8, ov a9]) (fun q ρ => ∃ (mine : Int) (b8 b9 : Option D), ρ = [.val A, .val B, .hold (kept.map encP), .own (found.map .int), .val (.int (n : Nat)), .val (encT t), .val (.int ((q.map (·.1)).foldl stepR (edge K t))), .val (.int mine), ov b8, ov b9]) rfl ⟨_, a8, a9, rfl⟩ (fun q ρ ⟨_, _, _, e⟩ => by rw [e]; rfl) (fun q y post2 eq2 ρ hρ => by
      obtain ⟨mine, b8, b9, rfl⟩ := hρ
      obtain ⟨far, more⟩ := y
      rw [List.map_append, List.foldl_append, List.map_singleton, List.foldl_cons, List.foldl_nil]
      generalize (q.map (·.1)).foldl stepR (edge K t) = z
      unfold stepR
      by_cases c0 : Builtin.bitAnd (Builtin.bitAnd z far) (-far) = 0
      · exact ⟨_, ⟨mine, some (.int far), some (.int more), rfl⟩, .inl (by simp [c0, ov_v, encP])⟩
      · exact ⟨_, ⟨Builtin.bitXor mine more, some (.int far), some (.int more), rfl⟩, .inl (by simp [c0, ov_v, encP])⟩)
    have st : bodyH (tTupT 2 (tsCons (tName 4) (tsCons (tName 5) (tsNil)))) (sSeq (sSet 6 (Mp.e2 xorD (Mp.e2 shlD (eC (.int 1)) (eM "list" indexD (eVar 1) (aCons (Mp.e2 idxD (eVar 5) (eC (.int 1))) (aNil)))) (Mp.e2 shlD (eC (.int 1)) (eM "list" indexD (eVar 1) (aCons (Mp.e2 idxD (eVar 5) (eC (.int 2))) (aNil)))))) (sSeq (sSet 7 (Mp.e2 shlD (eC (.int 1)) (eVar 4))) (sSeq (sForH 2 (tTupT 2 (tsCons (tName 8) (tsCons (tName 9) (tsNil)))) (sIf (toT (Mp.e2 neD (Mp.e2 andD (Mp.e2 andD (eVar 6) (eVar 8)) (e1 negD (eVar 8))) (eC (.int 0)))) (sSeq (sSet 6 (Mp.e2 xorD (eVar 6) (eVar 8))) (sSet 7 (Mp.e2 xorD (eVar 7) (eVar 9)))) (sNx))) (sIf (toT (Mp.e2 eqD (eVar 6) (eC (.int 0)))) (sApp 3 (eVar 7)) (sApp 2 (eTup (aCons (eVar 6) (aCons (eVar 7) (aNil))))))))) (PyData.tuple [.int (n : Nat), encT t]) [.val A, .val B, .own (kept.map encP), .own (found.map .int), ov a4, ov a5, ov a6, ov a7, ov a8, ov a9] = (sIf (toT (Mp.e2 eqD (eVar 6) (eC (.int 0)))) (sApp 3 (eVar 7)) (sApp 2 (eTup (aCons (eVar 6) (aCons (eVar 7) (aNil)))))) [.val A, .val B, .own (kept.map encP), .own (found.map .int), .val (.int (n : Nat)), .val (encT t), .val (.int ((kept.map (·.1)).foldl stepR (edge K t))), .val (.int mine), ov b8, ov b9] := by
      rw [bodyH_ap]
      simp only [tTupT_ap, List.length_cons, List.length_nil, if_true, tsCons_ap, tName_ap, List.getElem?_cons_succ, List.getElem?_cons_zero, canPut_ov, List.set_cons_succ, List.set_cons_zero, bind_ok, tsNil_ap]
      rw [seq_nx (ρ' := [.val A, .val B, .own (kept.map encP), .own (found.map .int), .val (.int (n : Nat)), .val (encT t), .val (.int (edge K t)), ov a7, ov a8, ov a9]) (by simp [tie_at1, tie_at2, i1, i2, shl_int c1, shl_int c2, B, edge]), seq_nx (ρ' := [.val A, .val B, .own (kept.map encP), .own (found.map .int), .val (.int (n : Nat)), .val (encT t), .val (.int (edge K t)), .val (.int (2 ^ n)), ov a8, ov a9]) (by simp [shl_int c3]), seq_nx h1]
      rfl
    rw [st, k1]
    have hsn : evL K ((pre ++ [(t, n)]).map (·.1)) = evStep K (evL K (pre.map (·.1))) t := by rw [List.map_append]; exact evL_snoc _ _ _
    have hfl : found.length < LIM := by unfold LIM; omega
    have hkl : kept.length < LIM := by unfold LIM; omega
    have lim2 : (2 : Nat) ≤ LIM := by decide
    by_cases c0 : (evL K (pre.map (·.1))).foldl stepR (edge K t) = 0
    · refine ⟨_, ⟨kept, found ++ [mine], some (.int (n : Nat)), some (encT t), some (.int ((evL K (pre.map (·.1))).foldl stepR (edge K t))), some (.int mine), b8, b9, ?_, ?_, rfl⟩, .inl ?_⟩
      · rw [hsn, k1]
        unfold evStep
        rw [if_pos c0]
      · simp; omega
      · simp [c0, ov_v, hfl]
    · refine ⟨_, ⟨kept ++ [((evL K (pre.map (·.1))).foldl stepR (edge K t), mine)], found, some (.int (n : Nat)), some (encT t), some (.int ((evL K (pre.map (·.1))).foldl stepR (edge K t))), some (.int mine), b8, b9, ?_, ?_, rfl⟩, .inl ?_⟩
      · rw [hsn, List.map_append, k1]
        unfold evStep
        rw [if_neg c0]
        rfl
      · simp; omega
      · simp [c0, ov_v, hkl, lim2, encP]) (ρ := [.val A, .val B, .own [], .own [], .emp, .emp, .emp, .emp, .emp, .emp]) ⟨[], [], none, none, none, none, none, none, rfl, rfl, rfl⟩
  rw [List.zipIdx_map_fst] at k1
  refine ⟨found, runL_rl ?_, ?_⟩
  · unfold m_even
    rw [hs0, seq_nx (ρ' := [.val A, .val B, .emp, .emp, .emp, .emp, .emp, .emp, .emp, .emp])]
    · rw [seq_nx (ρ' := [.val A, .val B, .own [], .emp, .emp, .emp, .emp, .emp, .emp, .emp]) (by simp), seq_nx (ρ' := [.val A, .val B, .own [], .own [], .emp, .emp, .emp, .emp, .emp, .emp]) (by simp), seq_nx (ρ' := [.val A, .val B, .own (kept.map encP), .own (found.map .int), ov a4, ov a5, ov a6, ov a7, ov a8, ov a9])]
      · simp
      · rw [sFor_ap, ← hloop]
        simp [A, enumsT]
    · rw [sSet_ap, eL_ap, pts_set ns hl q1 q2]
      rfl
  · have := congrArg List.length k1
    rw [List.length_map] at this
    rw [← this, k2, List.length_zipIdx]
end K73

set_option Elab.async false
set_option linter.all false
set_option maxRecDepth 100000
set_option maxHeartbeats 0
/-! K73g: points less heaps are the ties less even sets. -/
namespace K73
open PySem PySem.Spec Mp
/-! one step is linear -/
theorem odd_part : ∀ n : Nat, n ≠ 0 → ∃ k a : Nat, n = 2 ^ k * (2 * a + 1) := by
  intro n
  induction n using Nat.strongRecOn with
  | ind n ih =>
    intro h
    by_cases c : n % 2 = 1
    · exact ⟨0, n / 2, by omega⟩
    · obtain ⟨k, a, e⟩ := ih (n / 2) (by omega) (by omega)
      refine ⟨k + 1, a, ?_⟩
      rw [Nat.pow_succ, Nat.mul_comm (2 ^ k) 2, Nat.mul_assoc, ← e]
      omega
theorem lin1 (row : Nat) : ∃ f : Nat → Nat, (∀ v : Nat, stepR (v : Int) (row : Int) = (f v : Nat)) ∧ (∀ v w, f (v ^^^ w) = f v ^^^ f w) ∧ (∀ v, f v = v ∨ f v = v ^^^ row) ∧ (row ≠ 0 → f row = 0) := by
  by_cases h0 : row = 0
  · subst h0
    refine ⟨fun v => v, fun v => ?_, fun _ _ => rfl, fun _ => .inl rfl, fun h => absurd rfl h⟩
    unfold stepR
    rw [show ((0 : Nat) : Int) = 0 from rfl, PyProof.Rows.bitAnd_zero]
    simp [PyProof.Rows.bitAnd_zero]
  · obtain ⟨k, a, e⟩ := odd_part row h0
    have hlow : Builtin.bitAnd (row : Int) (-(row : Int)) = 2 ^ k := by
      have e2 : (row : Int) = 2 ^ k * (2 * (a : Int) + 1) := by
        rw [e, Int.natCast_mul, PySem.W.kbt_cast]
        simp
      rw [e2]
      exact PySem.W.kbt_low k a
    have htest : ∀ v : Nat, (Builtin.bitAnd (Builtin.bitAnd (v : Int) row) (-(row : Int)) = 0) ↔ v.testBit k = false := by
      intro v
      rw [bAnd_assoc, hlow, PySem.W.kbt_bit, Nat.testBit_eq_decide_div_mod_eq]
      have e2 : ((v : Int) / 2 ^ k) = ((v / 2 ^ k : Nat) : Int) := by rw [← PySem.W.kbt_cast]; rfl
      rw [e2]
      have hp : (0 : Int) < 2 ^ k := PySem.W.kbt_pos k
      have hm : v / 2 ^ k % 2 = 0 ∨ v / 2 ^ k % 2 = 1 := by omega
      rcases hm with hm | hm
      · have : ((v / 2 ^ k : Nat) : Int) % 2 = 0 := by omega
        rw [this, hm]; simp
      · have : ((v / 2 ^ k : Nat) : Int) % 2 = 1 := by omega
        rw [this, hm]
        simp
        omega
    refine ⟨fun v => if v.testBit k = true then v ^^^ row else v, fun v => ?_, fun v w => ?_, fun v => ?_, fun _ => ?_⟩
    · unfold stepR
      cases hv : v.testBit k with
      | false =>
        rw [if_pos ((htest v).mpr hv)]
        simp [hv]
      | true =>
        rw [if_neg (fun z => by rw [(htest v).mp z] at hv; cases hv), _root_.Bits.bitXor_pp (Int.natCast_nonneg _) (Int.natCast_nonneg _)]
        simp [hv]
    · dsimp only
      rw [Nat.testBit_xor]
      cases hv : v.testBit k <;> cases hw : w.testBit k
      · simp [hv, hw]
      · simp [hv, hw, Nat.xor_assoc]
      · simp only [hv, hw, Bool.xor_false, if_true, Bool.false_eq_true, if_false]
        rw [Nat.xor_assoc, Nat.xor_comm w row, ← Nat.xor_assoc]
      · simp only [hv, hw, Bool.xor_self, if_true, Bool.false_eq_true, if_false]
        rw [Nat.xor_assoc, Nat.xor_comm row (w ^^^ row), Nat.xor_assoc w, Nat.xor_self, Nat.xor_zero]
    · dsimp only
      split
      · exact .inr rfl
      · exact .inl rfl
    · have : row.testBit k = true := by
        rw [Nat.testBit_eq_decide_div_mod_eq, e, Nat.mul_div_cancel_left _ (Nat.two_pow_pos k)]
        simp
      simp [this]
def ci (k : Nat) : Int := (k : Int)
/-- additive -/
def Addv (φ : Nat → Bool) : Prop := ∀ v w, φ (v ^^^ w) = (φ v ^^ φ w)
structure Lin (ks : List Nat) (F : Nat → Nat) : Prop where
  ev : ∀ v : Nat, (ks.map ci).foldl stepR (v : Int) = (F v : Nat)
  add : ∀ v w, F (v ^^^ w) = F v ^^^ F w
  par : ∀ φ : Nat → Bool, Addv φ → (∀ k ∈ ks, φ k = false) → ∀ v, φ (F v) = φ v
theorem lin_nil : Lin [] (fun v => v) := ⟨fun _ => rfl, fun _ _ => rfl, fun _ _ _ _ => rfl⟩
theorem lin_snoc {ks : List Nat} {F : Nat → Nat} (h : Lin ks F) (row : Nat) : ∃ f : Nat → Nat, Lin (ks ++ [row]) (fun v => f (F v)) ∧ (∀ v w, f (v ^^^ w) = f v ^^^ f w) ∧ (row ≠ 0 → f row = 0) := by
  obtain ⟨f, h1, h2, h3, h4⟩ := lin1 row
  refine ⟨f, ⟨fun v => ?_, fun v w => ?_, fun φ ha hk v => ?_⟩, h2, h4⟩
  · rw [List.map_append, List.foldl_append, h.ev]
    exact h1 _
  · rw [h.add, h2]
  · have hr : φ row = false := hk row (by simp)
    have h5 := h.par φ ha (fun k hk2 => hk k (by simp [hk2])) v
    rcases h3 (F v) with e | e
    · rw [e, h5]
    · rw [e, ha, hr, h5, Bool.xor_false]
theorem lin_zero {f : Nat → Nat} (h : ∀ v w, f (v ^^^ w) = f v ^^^ f w) : f 0 = 0 := by
  have := h 0 0
  rw [Nat.xor_self, Nat.xor_self] at this
  exact this
/-! parity over the points -/
def parL (K : List Str) (S : Str → Bool) (v : Nat) : List Str → Bool
  | [] => false
  | p :: ps => (S p && v.testBit (ix K p)) ^^ parL K S v ps
theorem parL_add (K : List Str) (S : Str → Bool) (v w : Nat) : ∀ L : List Str, parL K S (v ^^^ w) L = (parL K S v L ^^ parL K S w L)
  | [] => rfl
  | p :: ps => by
    unfold parL
    rw [parL_add K S v w ps, Nat.testBit_xor]
    cases S p <;> cases v.testBit (ix K p) <;> cases w.testBit (ix K p) <;> cases parL K S v ps <;> cases parL K S w ps <;> rfl
theorem parL_one (K : List Str) (S : Str → Bool) {p : Str} (hp : p ∈ K) : ∀ L : List Str, L.Nodup → (∀ x ∈ L, x ∈ K) → parL K S (2 ^ ix K p) L = (S p && decide (p ∈ L))
  | [], _, _ => by simp [parL]
  | q :: L, nd, hs => by
    obtain ⟨n1, n2⟩ := List.nodup_cons.mp nd
    unfold parL
    rw [parL_one K S hp L n2 fun x hx => hs x (List.mem_cons_of_mem _ hx), Nat.testBit_two_pow]
    by_cases c : p = q
    · subst c
      simp [n1]
    · have : ix K p ≠ ix K q := fun e => c (ix_inj hp (hs q List.mem_cons_self) e)
      simp [this, c]
def E (K : List Str) (p : Str) : Nat := 2 ^ ix K p
/-! heaps -/
def Dj (g h : Hp2) : Prop := ∀ p, p ∈ g.1 → p ∉ h.1
theorem uniq {hs : List Hp2} (hd : hs.Pairwise Dj) {g h : Hp2} (hg : g ∈ hs) (hh : h ∈ hs) {p : Str} (pg : p ∈ g.1) (ph : p ∈ h.1) : g = h := by
  induction hs with
  | nil => cases hg
  | cons x xs ih =>
    obtain ⟨d1, d2⟩ := List.pairwise_cons.mp hd
    rcases List.mem_cons.mp hg with e1 | e1 <;> rcases List.mem_cons.mp hh with e2 | e2
    · rw [e1, e2]
    · rw [e1] at pg; exact absurd ph (d1 h e2 p pg)
    · rw [e2] at ph; exact absurd pg (d1 g e1 p ph)
    · exact ih d2 e1 e2
theorem cnt_le {hs : List Hp2} (hd : hs.Pairwise Dj) (p : Str) : hs.countP (fun h => decide (p ∈ h.1)) ≤ 1 := by
  induction hs with
  | nil => simp
  | cons x xs ih =>
    obtain ⟨d1, d2⟩ := List.pairwise_cons.mp hd
    rw [List.countP_cons]
    by_cases c : p ∈ x.1
    · have : xs.countP (fun h => decide (p ∈ h.1)) = 0 := by
        rw [List.countP_eq_zero]
        intro h hh
        simpa using d1 h hh p c
      rw [this]; simp [c]
    · have := ih d2
      simp [c]
      exact this
theorem incl (A B : Hp2 → Bool) (hs : List Hp2) : hs.countP (fun h => A h || B h) + hs.countP (fun h => A h && B h) = hs.countP A + hs.countP B := by
  induction hs with
  | nil => rfl
  | cons x xs ih =>
    simp only [List.countP_cons]
    cases A x <;> cases B x <;> simp <;> omega
theorem fold_char (a b : Str) : ∀ (hs : List Hp2) (s : Hp2 × List Hp2), (hs.foldl (hJ a b) s).2 = s.2 ++ hs.filter (fun h => !(decide (a ∈ h.1) || decide (b ∈ h.1))) ∧ ∀ p, p ∈ (hs.foldl (hJ a b) s).1.1 ↔ p ∈ s.1.1 ∨ ∃ h ∈ hs, (a ∈ h.1 ∨ b ∈ h.1) ∧ p ∈ h.1
  | [], s => by simp
  | g :: hs, s => by
    obtain ⟨c1, c2⟩ := fold_char a b hs (hJ a b s g)
    rw [List.foldl_cons, c1]
    refine ⟨?_, fun p => ?_⟩
    · unfold hJ
      by_cases c : a ∈ g.1 ∨ b ∈ g.1
      · rw [if_pos c, List.filter_cons_of_neg]
        simp only [Bool.not_eq_true', Bool.or_eq_false_iff, decide_eq_false_iff_not]
        exact fun z => c.elim z.1 z.2
      · rw [if_neg c, List.filter_cons_of_pos]
        · simp
        · simpa using c
    · rw [c2 p]
      unfold hJ
      by_cases c : a ∈ g.1 ∨ b ∈ g.1
      · rw [if_pos c]
        simp only [List.mem_append, List.mem_cons]
        constructor
        · rintro ((h | h) | ⟨h, h1, h2, h3⟩)
          · exact .inl h
          · exact .inr ⟨g, .inl rfl, c, h⟩
          · exact .inr ⟨h, .inr h1, h2, h3⟩
        · rintro (h | ⟨h, (rfl | h1), h2, h3⟩)
          · exact .inl (.inl h)
          · exact .inl (.inr h3)
          · exact .inr ⟨h, h1, h2, h3⟩
      · rw [if_neg c]
        simp only [List.mem_cons]
        constructor
        · rintro (h | ⟨h, h1, h2, h3⟩)
          · exact .inl h
          · exact .inr ⟨h, .inr h1, h2, h3⟩
        · rintro (h | ⟨h, (rfl | h1), h2, h3⟩)
          · exact .inl h
          · exact absurd h2 c
          · exact .inr ⟨h, h1, h2, h3⟩
theorem hStep_char (hs : List Hp2) (n a b : Str) : ∃ J : Hp2, hStep hs (n, a, b) = hs.filter (fun h => !(decide (a ∈ h.1) || decide (b ∈ h.1))) ++ [J] ∧ ∀ p, p ∈ J.1 ↔ p = a ∨ p = b ∨ ∃ h ∈ hs, (a ∈ h.1 ∨ b ∈ h.1) ∧ p ∈ h.1 := by
  obtain ⟨c1, c2⟩ := fold_char a b hs (([a, b], [n]), [])
  refine ⟨(hs.foldl (hJ a b) (([a, b], [n]), [])).1, ?_, fun p => ?_⟩
  · unfold hStep
    dsimp only
    rw [c1]
    rfl
  · rw [c2 p]
    simp [or_assoc]
/-! counting -/
theorem count_new {K : List Str} (nd : K.Nodup) (P : Str → Bool) {a : Str} (ha : a ∈ K) : K.countP (fun p => P p || decide (p = a)) = K.countP P + (if P a = true then 0 else 1) := by
  induction K with
  | nil => cases ha
  | cons x xs ih =>
    obtain ⟨n1, n2⟩ := List.nodup_cons.mp nd
    rw [List.countP_cons, List.countP_cons]
    by_cases c : x = a
    · subst c
      have : xs.countP (fun p => P p || decide (p = x)) = xs.countP P := by
        refine List.countP_congr fun y hy => ?_
        have : y ≠ x := fun e => n1 (by rw [← e]; exact hy)
        simp [this]
      rw [this]
      cases hP : P x <;> simp
    · have ha' : a ∈ xs := by
        rcases List.mem_cons.mp ha with e | e
        · exact absurd e.symm c
        · exact e
      rw [ih n2 ha']
      simp [c]
      omega
structure GInv (K : List Str) (pre : List Tie) (hs : List Hp2) (ks : List Nat) (F : Nat → Nat) : Prop where
  lin : Lin ks F
  dj : hs.Pairwise Dj
  z : ∀ h ∈ hs, ∀ p ∈ h.1, ∀ q ∈ h.1, F (E K p ^^^ E K q) = 0
  par : ∀ S : Str → Bool, (∀ h ∈ hs, ∀ p ∈ h.1, ∀ q ∈ h.1, S p = S q) → ∀ k ∈ ks, parL K S k K = false
  cnt : ks.length + hs.length = K.countP fun p => decide (p ∈ pts pre)
  mem : ∀ p, p ∈ pts pre ↔ ∃ h ∈ hs, p ∈ h.1
theorem pts_snoc (pre : List Tie) (n a b p : Str) : p ∈ pts (pre ++ [(n, a, b)]) ↔ p ∈ pts pre ∨ p = a ∨ p = b := by
  unfold pts
  simp only [List.map_append, List.map_cons, List.map_nil, List.mem_append, List.mem_singleton]
  constructor
  · rintro ((h | h) | (h | h))
    · exact .inl (.inl h)
    · exact .inr (.inl h)
    · exact .inl (.inr h)
    · exact .inr (.inr h)
  · rintro ((h | h) | (h | h))
    · exact .inl (.inl h)
    · exact .inr (.inl h)
    · exact .inl (.inr h)
    · exact .inr (.inr h)
theorem gstep {K : List Str} (nd : K.Nodup) {pre : List Tie} {hs : List Hp2} {ks : List Nat} {F : Nat → Nat} (I : GInv K pre hs ks F) {n a b : Str} (ha : a ∈ K) (hb : b ∈ K) (hK : ∀ p ∈ pts pre, p ∈ K) : ∃ ks' F', GInv K (pre ++ [(n, a, b)]) (hStep hs (n, a, b)) ks' F' ∧ ks'.map ci = (if F (E K a ^^^ E K b) = 0 then ks.map ci else ks.map ci ++ [((F (E K a ^^^ E K b) : Nat) : Int)]) := by
  obtain ⟨J, eJ, mJ⟩ := hStep_char hs n a b
  have hadd : ∀ S, Addv fun v => parL K S v K := fun S v w => parL_add K S v w K
  have hone : ∀ S p, p ∈ K → parL K S (E K p) K = S p := fun S p hp => by
    unfold E
    rw [parL_one K S hp K nd fun x hx => hx]
    simp [hp]
  have F0 : F 0 = 0 := lin_zero I.lin.add
  -- when the sum comes to nothing
  have key : F (E K a ^^^ E K b) = 0 ↔ a = b ∨ ∃ h ∈ hs, a ∈ h.1 ∧ b ∈ h.1 := by
    constructor
    · intro h0
      by_cases c : a = b
      · exact .inl c
      · refine .inr ?_
        let S : Str → Bool := fun p => decide (p = a ∨ ∃ h ∈ hs, a ∈ h.1 ∧ p ∈ h.1)
        have hS : ∀ h ∈ hs, ∀ p ∈ h.1, ∀ q ∈ h.1, S p = S q := by
          have half : ∀ h ∈ hs, ∀ p ∈ h.1, ∀ q ∈ h.1, S p = true → S q = true := by
            intro h hh p hp q hq hSp
            have hSp' := of_decide_eq_true hSp
            refine decide_eq_true ?_
            rcases hSp' with e | ⟨g, hg, ag, pg⟩
            · exact .inr ⟨h, hh, by rw [← e]; exact hp, hq⟩
            · have := uniq I.dj hg hh pg hp
              exact .inr ⟨h, hh, by rw [← this]; exact ag, hq⟩
          intro h hh p hp q hq
          rw [Bool.eq_iff_iff]
          exact ⟨half h hh p hp q hq, half h hh q hq p hp⟩
        have h1 := I.lin.par _ (hadd S) (I.par S hS) (E K a ^^^ E K b)
        rw [h0] at h1
        have hz : parL K S 0 K = false := by
          have := hadd S 0 0
          rw [Nat.xor_self, Bool.xor_self] at this
          exact this
        rw [hz, parL_add, hone S a ha, hone S b hb] at h1
        have hSa : S a = true := decide_eq_true (.inl rfl)
        rw [hSa] at h1
        have hSb : S b = true := by
          cases hq : S b with
          | true => rfl
          | false => rw [hq] at h1; cases h1
        rcases of_decide_eq_true hSb with e | ⟨h, hh, h2, h3⟩
        · exact absurd e.symm c
        · exact ⟨h, hh, h2, h3⟩
    · rintro (e | ⟨h, hh, h2, h3⟩)
      · rw [e, Nat.xor_self]; exact F0
      · exact I.z h hh a h2 b h3
  -- what holds of both cases
  have zz : ∀ F' : Nat → Nat, (∀ v w, F' (v ^^^ w) = F' v ^^^ F' w) → (∀ v, F v = 0 → F' v = 0) → F' (E K a ^^^ E K b) = 0 → ∀ h ∈ hStep hs (n, a, b), ∀ p ∈ h.1, ∀ q ∈ h.1, F' (E K p ^^^ E K q) = 0 := by
    intro F' hl hk hab h hh p hp q hq
    rw [eJ] at hh
    rcases List.mem_append.mp hh with hh | hh
    · exact hk _ (I.z h ((List.mem_filter.mp hh).1) p hp q hq)
    · rw [List.mem_singleton] at hh
      subst hh
      have toA : ∀ p, p ∈ h.1 → F' (E K p ^^^ E K a) = 0 := by
        intro p hp
        rcases (mJ p).mp hp with e | e | ⟨g, hg, hab2, pg⟩
        · rw [e, Nat.xor_self]; exact lin_zero hl
        · rw [e, Nat.xor_comm]; exact hab
        · rcases hab2 with ag | bg
          · exact hk _ (I.z g hg p pg a ag)
          · have e1 : E K p ^^^ E K a = (E K p ^^^ E K b) ^^^ (E K a ^^^ E K b) := by
              rw [Nat.xor_comm (E K a), Nat.xor_assoc, ← Nat.xor_assoc (E K b), Nat.xor_self, Nat.zero_xor]
            rw [e1, hl, hk _ (I.z g hg p pg b bg), hab, Nat.xor_self]
      have e1 : E K p ^^^ E K q = (E K p ^^^ E K a) ^^^ (E K q ^^^ E K a) := by
        rw [Nat.xor_comm (E K q), Nat.xor_assoc, ← Nat.xor_assoc (E K a), Nat.xor_self, Nat.zero_xor]
      rw [e1, hl, toA p hp, toA q hq, Nat.xor_self]
  have dj' : (hStep hs (n, a, b)).Pairwise Dj := by
    rw [eJ, List.pairwise_append]
    refine ⟨I.dj.filter _, List.pairwise_singleton _ _, fun g hg h hh p pg ph => ?_⟩
    rw [List.mem_singleton] at hh
    subst hh
    obtain ⟨g1, g2⟩ := List.mem_filter.mp hg
    have g2' : ¬ (a ∈ g.1 ∨ b ∈ g.1) := by simpa using g2
    rcases (mJ p).mp ph with e | e | ⟨x, hx, hab, px⟩
    · exact g2' (.inl (by rw [← e]; exact pg))
    · exact g2' (.inr (by rw [← e]; exact pg))
    · have := uniq I.dj g1 hx pg px
      rw [this] at g2'
      exact g2' hab
  have mem' : ∀ p, p ∈ pts (pre ++ [(n, a, b)]) ↔ ∃ h ∈ hStep hs (n, a, b), p ∈ h.1 := by
    intro p
    rw [pts_snoc, I.mem, eJ]
    constructor
    · rintro (⟨h, hh, hp⟩ | e | e)
      · by_cases c : a ∈ h.1 ∨ b ∈ h.1
        · exact ⟨J, by simp, (mJ p).mpr (.inr (.inr ⟨h, hh, c, hp⟩))⟩
        · exact ⟨h, List.mem_append.mpr (.inl (List.mem_filter.mpr ⟨hh, by simpa using c⟩)), hp⟩
      · exact ⟨J, by simp, (mJ p).mpr (.inl e)⟩
      · exact ⟨J, by simp, (mJ p).mpr (.inr (.inl e))⟩
    · rintro ⟨h, hh, hp⟩
      rcases List.mem_append.mp hh with hh | hh
      · exact .inl ⟨h, (List.mem_filter.mp hh).1, hp⟩
      · rw [List.mem_singleton] at hh
        subst hh
        rcases (mJ p).mp hp with e | e | ⟨x, hx, hab, px⟩
        · exact .inr (.inl e)
        · exact .inr (.inr e)
        · exact .inl ⟨x, hx, px⟩
  have par0 : ∀ S : Str → Bool, (∀ h ∈ hStep hs (n, a, b), ∀ p ∈ h.1, ∀ q ∈ h.1, S p = S q) → (∀ h ∈ hs, ∀ p ∈ h.1, ∀ q ∈ h.1, S p = S q) ∧ S a = S b := by
    intro S hS
    have hJm : J ∈ hStep hs (n, a, b) := by rw [eJ]; simp
    refine ⟨fun h hh p hp q hq => ?_, hS J hJm a ((mJ a).mpr (.inl rfl)) b ((mJ b).mpr (.inr (.inl rfl)))⟩
    by_cases c : a ∈ h.1 ∨ b ∈ h.1
    · exact hS J hJm p ((mJ p).mpr (.inr (.inr ⟨h, hh, c, hp⟩))) q ((mJ q).mpr (.inr (.inr ⟨h, hh, c, hq⟩)))
    · exact hS h (by rw [eJ]; exact List.mem_append.mpr (.inl (List.mem_filter.mpr ⟨hh, by simpa using c⟩))) p hp q hq
  -- the count
  have cnt' : (if F (E K a ^^^ E K b) = 0 then ks.length else ks.length + 1) + (hStep hs (n, a, b)).length = K.countP fun p => decide (p ∈ pts (pre ++ [(n, a, b)])) := by
    have c0 := I.cnt
    have ca := cnt_le I.dj a
    have cb := cnt_le I.dj b
    have ci := incl (fun h => decide (a ∈ h.1)) (fun h => decide (b ∈ h.1)) hs
    have sa : a ∈ pts pre ↔ hs.countP (fun h => decide (a ∈ h.1)) = 1 := by
      rw [I.mem]
      constructor
      · rintro ⟨h, hh, hp⟩
        have : 0 < hs.countP (fun h => decide (a ∈ h.1)) := List.countP_pos_iff.mpr ⟨h, hh, by simpa using hp⟩
        omega
      · intro e
        obtain ⟨h, hh, hp⟩ := List.countP_pos_iff.mp (by omega : 0 < hs.countP (fun h => decide (a ∈ h.1)))
        exact ⟨h, hh, by simpa using hp⟩
    have sb : b ∈ pts pre ↔ hs.countP (fun h => decide (b ∈ h.1)) = 1 := by
      rw [I.mem]
      constructor
      · rintro ⟨h, hh, hp⟩
        have : 0 < hs.countP (fun h => decide (b ∈ h.1)) := List.countP_pos_iff.mpr ⟨h, hh, by simpa using hp⟩
        omega
      · intro e
        obtain ⟨h, hh, hp⟩ := List.countP_pos_iff.mp (by omega : 0 < hs.countP (fun h => decide (b ∈ h.1)))
        exact ⟨h, hh, by simpa using hp⟩
    have both : (∃ h ∈ hs, a ∈ h.1 ∧ b ∈ h.1) ↔ 0 < hs.countP (fun h => decide (a ∈ h.1) && decide (b ∈ h.1)) := by
      rw [List.countP_pos_iff]
      simp
    have bl : hs.countP (fun h => decide (a ∈ h.1) && decide (b ∈ h.1)) ≤ hs.countP (fun h => decide (a ∈ h.1)) := List.countP_mono_left fun h _ q => by simp at q; simpa using q.1
    have bl2 : hs.countP (fun h => decide (a ∈ h.1) && decide (b ∈ h.1)) ≤ hs.countP (fun h => decide (b ∈ h.1)) := List.countP_mono_left fun h _ q => by simp at q; simpa using q.2
    have hlen : (hStep hs (n, a, b)).length + hs.countP (fun h => decide (a ∈ h.1) || decide (b ∈ h.1)) = hs.length + 1 := by
      rw [eJ, List.length_append, List.length_singleton, ← List.countP_eq_length_filter]
      have := List.length_eq_countP_add_countP (fun h : Hp2 => decide (a ∈ h.1) || decide (b ∈ h.1)) (l := hs)
      have e2 : hs.countP (fun h => !(decide (a ∈ h.1) || decide (b ∈ h.1))) = hs.countP (fun h => decide ¬((decide (a ∈ h.1) || decide (b ∈ h.1)) = true)) := List.countP_congr fun h _ => by simp
      omega
    have n1 := count_new nd (fun p => decide (p ∈ pts pre)) ha
    have n2 := count_new nd (fun p => decide (p ∈ pts pre) || decide (p = a)) hb
    have e3 : (K.countP fun p => decide (p ∈ pts (pre ++ [(n, a, b)]))) = K.countP fun p => (decide (p ∈ pts pre) || decide (p = a)) || decide (p = b) := List.countP_congr fun p _ => by
      have := pts_snoc pre n a b p
      simp [this, or_assoc]
    rw [e3, n2, n1]
    by_cases c : a = b
    · have k0 : F (E K a ^^^ E K b) = 0 := key.mpr (.inl c)
      rw [if_pos k0]
      subst c
      have e4 : hs.countP (fun h => decide (a ∈ h.1) && decide (a ∈ h.1)) = hs.countP (fun h => decide (a ∈ h.1)) := List.countP_congr fun h _ => by simp
      by_cases s : a ∈ pts pre
      · have := sa.mp s
        simp [s]
        omega
      · have : hs.countP (fun h => decide (a ∈ h.1)) = 0 := by
          have : ¬ hs.countP (fun h => decide (a ∈ h.1)) = 1 := fun z => s (sa.mpr z)
          omega
        simp [s]
        omega
    · have c' : ¬ b = a := fun e => c e.symm
      by_cases k0 : F (E K a ^^^ E K b) = 0
      · rw [if_pos k0]
        have bp : ∃ h ∈ hs, a ∈ h.1 ∧ b ∈ h.1 := by
          rcases key.mp k0 with e | e
          · exact absurd e c
          · exact e
        have b1 := both.mp bp
        have s1 : a ∈ pts pre := sa.mpr (by omega)
        have s2 : b ∈ pts pre := sb.mpr (by omega)
        simp [s1, s2]
        omega
      · rw [if_neg k0]
        have b0 : hs.countP (fun h => decide (a ∈ h.1) && decide (b ∈ h.1)) = 0 := by
          have : ¬ 0 < hs.countP (fun h => decide (a ∈ h.1) && decide (b ∈ h.1)) := fun z => k0 (key.mpr (.inr (both.mpr z)))
          omega
        by_cases s1 : a ∈ pts pre <;> by_cases s2 : b ∈ pts pre
        · have := sa.mp s1; have := sb.mp s2; simp [s1, s2, c']; omega
        · have := sa.mp s1
          have : ¬ hs.countP (fun h => decide (b ∈ h.1)) = 1 := fun z => s2 (sb.mpr z)
          simp [s1, s2, c']; omega
        · have := sb.mp s2
          have : ¬ hs.countP (fun h => decide (a ∈ h.1)) = 1 := fun z => s1 (sa.mpr z)
          simp [s1, s2, c']; omega
        · have : ¬ hs.countP (fun h => decide (b ∈ h.1)) = 1 := fun z => s2 (sb.mpr z)
          have : ¬ hs.countP (fun h => decide (a ∈ h.1)) = 1 := fun z => s1 (sa.mpr z)
          simp [s1, s2, c']; omega
  by_cases k0 : F (E K a ^^^ E K b) = 0
  · rw [if_pos k0] at cnt' ⊢
    exact ⟨ks, F, ⟨I.lin, dj', zz F I.lin.add (fun _ h => h) k0, fun S hS k hk => I.par S (par0 S hS).1 k hk, cnt', mem'⟩, rfl⟩
  · rw [if_neg k0] at cnt' ⊢
    obtain ⟨f, l1, l2, l3⟩ := lin_snoc I.lin (F (E K a ^^^ E K b))
    refine ⟨ks ++ [F (E K a ^^^ E K b)], fun v => f (F v), ⟨l1, dj', zz _ l1.add (fun v h => by show f (F v) = 0; rw [h]; exact lin_zero l2) (l3 k0), fun S hS k hk => ?_, ?_, mem'⟩, ?_⟩
    · obtain ⟨h1, h2⟩ := par0 S hS
      rcases List.mem_append.mp hk with hk | hk
      · exact I.par S h1 k hk
      · rw [List.mem_singleton] at hk
        rw [hk, I.lin.par _ (hadd S) (I.par S h1) (E K a ^^^ E K b)]
        show parL K S (E K a ^^^ E K b) K = false
        rw [parL_add, hone S a ha, hone S b hb, h2, Bool.xor_self]
    · rw [← cnt']
      simp
    · rw [List.map_append]
      rfl
theorem ginv_all (K : List Str) (nd : K.Nodup) (ns : List Tie) (hK : ∀ p ∈ pts ns, p ∈ K) : ∃ ks F, GInv K ns (heapsL ns) ks F ∧ evL K ns = ks.map ci := by
  have key : ∀ (post pre : List Tie), ns = pre ++ post → (∃ ks F, GInv K pre (heapsL pre) ks F ∧ evL K pre = ks.map ci) → ∃ ks F, GInv K ns (heapsL ns) ks F ∧ evL K ns = ks.map ci := by
    intro post
    induction post with
    | nil =>
      intro pre e h
      rw [List.append_nil] at e
      rw [e]; exact h
    | cons t post ih =>
      intro pre e ⟨ks, F, I, ek⟩
      obtain ⟨n, a, b⟩ := t
      have sub : ∀ p, p ∈ pts (pre ++ [(n, a, b)]) → p ∈ pts ns := by
        intro p hp
        rw [e]
        unfold pts at hp ⊢
        simp only [List.map_append, List.map_cons, List.map_nil, List.mem_append, List.mem_cons, List.not_mem_nil, or_false] at hp ⊢
        rcases hp with (h | h) | (h | h)
        · exact .inl (.inl h)
        · exact .inl (.inr (.inl h))
        · exact .inr (.inl h)
        · exact .inr (.inr (.inl h))
      have ha : a ∈ K := hK a (sub a ((pts_snoc pre n a b a).mpr (.inr (.inl rfl))))
      have hb : b ∈ K := hK b (sub b ((pts_snoc pre n a b b).mpr (.inr (.inr rfl))))
      obtain ⟨ks', F', I', ek'⟩ := gstep nd I (n := n) ha hb fun p hp => hK p (sub p ((pts_snoc pre n a b p).mpr (.inl hp)))
      refine ih (pre ++ [(n, a, b)]) (by rw [e, List.append_assoc]; rfl) ⟨ks', F', ?_, ?_⟩
      · rw [heapsL_snoc]; exact I'
      · rw [evL_snoc, ek', ek]
        have hedge : edge K (n, a, b) = ((E K a ^^^ E K b : Nat) : Int) := by
          unfold edge E
          rw [← PySem.W.kbt_cast, ← PySem.W.kbt_cast, _root_.Bits.bitXor_pp (Int.natCast_nonneg _) (Int.natCast_nonneg _)]
          rfl
        unfold evStep
        rw [hedge, I.lin.ev]
        by_cases k0 : F (E K a ^^^ E K b) = 0
        · rw [if_pos k0, if_pos (by rw [k0]; rfl)]
        · rw [if_neg k0, if_neg (by omega)]
  refine key ns [] rfl ⟨[], fun v => v, ⟨lin_nil, List.Pairwise.nil, (fun h hh => nomatch hh), (fun _ _ k hk => nomatch hk), ?_, fun p => ?_⟩, rfl⟩
  · have : (K.countP fun p => decide (p ∈ pts [])) = 0 := List.countP_eq_zero.mpr fun p _ => by simp [pts]
    rw [this]; rfl
  · simp [pts, heapsL]
theorem graph (ns : List Tie) : (setS (pts ns)).length = (heapsL ns).length + (evL (setS (pts ns)) ns).length := by
  obtain ⟨ks, F, I, e⟩ := ginv_all (setS (pts ns)) (asc_nodup (asc_setS _)) ns fun p hp => (mem_setS p _).mpr hp
  have c := I.cnt
  have c2 : ((setS (pts ns)).countP fun p => decide (p ∈ pts ns)) = (setS (pts ns)).length := List.countP_eq_length.mpr fun p hp => by simpa using (mem_setS p _).mp hp
  rw [e, List.length_map]
  omega
end K73

set_option Elab.async false
set_option linter.all false
set_option maxRecDepth 100000
set_option maxHeartbeats 0
/-! K73n: nets read, and what is due of them. -/
namespace K73
open PySem PySem.Spec Mp
open L2 (atI)
def rk (ns : List Tie) : Nat := (evL (setS (pts ns)) ns).length
def fitsN (ns : List Tie) : Bool := decide (ns.length ≤ 12) && (decide (rk ns ≤ 8) && decide (ns.length ≤ 8 + rk ns))
theorem bounded_eq (ns : List Tie) : (decide (ns.length ≤ 12) && (decide (((setS (pts ns)).length : Int) - (heapsL ns).length ≤ 8) && decide ((ns.length : Int) - (((setS (pts ns)).length : Int) - (heapsL ns).length) ≤ 8))) = fitsN ns := by
  have g := graph ns
  unfold fitsN rk
  rw [g]
  congr 2
  · exact decide_eq_decide.mpr (by omega)
  · exact decide_eq_decide.mpr (by omega)
def goodN (ns : List Tie) : Bool := ns.all tieOk && ascR (ns.map (·.1))
theorem v_is_net (ns : List Tie) (hl : ns.length ≤ 2002) (h : ∀ t ∈ ns, tieS t) : f_is_net [.list (ns.map encT)] = .ok (.bool (goodN ns && fitsN ns)) := by
  have h1 := v_are_ties ns (many_lim hl) h
  have h2 := v_is_bounded ns hl
  rw [bounded_eq] at h2
  refine runD_rt ?_
  unfold goodN
  cases c : (ns.all tieOk && ascR (ns.map (·.1))) <;> rw [c] at h1 <;> simp [m_is_net, startS, h1, h2]
def netD (t : Str) : Mp.R D := if t = "-" then .ok (.list []) else match allT (Txt.split t ", ") with
  | none => .exc "NoText"
  | some ns => if goodN ns = true then (if fitsN ns = true then .ok (.list (ns.map encT)) else .exc "TooMany") else .exc "NoText"
theorem v_read_net {t : Str} (h : bigT t) : f_read_net [.str t] = netD t := by
  have hle := parts_len (y := ", ") h
  have hp : ∀ p ∈ Txt.split t ", ", bigT p := fun p hp => parts_of h hp
  have hsp := split_str (a := t) (b := ", ") rfl (big_lim h)
  have hs0 : startS 3 [PyData.str t] = [.val (.str t), .emp, .emp] := rfl
  have q1 : (lLx [2] (tName 2) tYesE (eCall 1 f_read_tie (aCons (eVar 2) aNil)) (iL (eL (eM "str" splitD (eVar 0) (aCons (eC (.str ", ")) aNil))))) [.val (.str t), .emp, .emp] = match allT (Txt.split t ", ") with | some rs => .ok (rs.map encT) | none => .exc "NoText" := by
    rw [lLx_ap]
    have q0 : (iL (eL (eM "str" splitD (eVar 0) (aCons (eC (.str ", ")) aNil)))) [.val (.str t), .emp, .emp] = .ok ((Txt.split t ", ").map .str) := by simp [hsp]
    rw [q0, bind_ok, if_pos (by rw [List.length_map]; exact many_lim hle)]
    refine compX_ties fun p hpm => ?_
    have hr := v_read_tie (hp p hpm)
    unfold compHX
    simp [hr]
    cases tie3 p <;> rfl
  unfold netD
  by_cases c : t = "-"
  · subst c
    rw [if_pos rfl]
    refine runD_rt ?_
    unfold m_read_net
    rw [hs0, seq_nx (ρ' := [.val (.str "-"), .emp, .emp]) (by simp [look_t]), seq_rt (d := .list []) (by simp)]
  · rw [if_neg c]
    have st : m_read_net (startS 3 [.str t]) = sSeq (sSet 1 (eL (lLx [2] (tName 2) (tYesE) (eCall 1 f_read_tie (aCons (eVar 2) (aNil))) (iL (eL (eM "str" splitD (eVar 0) (aCons (eC (.str ", ")) (aNil)))))))) (sSeq (sExpr (eCall 1 f_look (aCons (eCall 1 f_are_ties (aCons (eVar 1) (aNil))) (aNil)))) (sSeq (sIf (tN (toT (eCall 1 f_is_net (aCons (eVar 1) (aNil))))) (sRaise "TooMany") (sNx)) (sRet (eVar 1)))) [.val (.str t), .emp, .emp] := by
      unfold m_read_net
      rw [hs0, seq_nx (ρ' := [.val (.str t), .emp, .emp]) (by simp [look_t]), seq_nx (ρ' := [.val (.str t), .emp, .emp]) (by simp [c])]
    cases ha : allT (Txt.split t ", ") with
    | none =>
      rw [ha] at q1
      refine runD_exc ?_
      rw [st, seq_exc (c := "NoText")]
      simp only [sSet_ap, eL_ap, q1]
      rfl
    | some ns =>
      rw [ha] at q1
      have hl : ns.length ≤ 2002 := by rw [allT_len ha]; exact hle
      have hS := allT_S hp ha
      have h1 := v_are_ties ns (many_lim hl) hS
      have h2 := v_is_net ns hl hS
      have st2 : m_read_net (startS 3 [.str t]) = sSeq (sExpr (eCall 1 f_look (aCons (eCall 1 f_are_ties (aCons (eVar 1) (aNil))) (aNil)))) (sSeq (sIf (tN (toT (eCall 1 f_is_net (aCons (eVar 1) (aNil))))) (sRaise "TooMany") (sNx)) (sRet (eVar 1))) [.val (.str t), .val (.list (ns.map encT)), .emp] := by
        rw [st, seq_nx]
        simp only [sSet_ap, eL_ap, q1]
        rfl
      dsimp only
      by_cases g : goodN ns = true
      · rw [if_pos g]
        have g' : (ns.all tieOk && ascR (ns.map (·.1))) = true := g
        rw [g'] at h1
        rw [g, Bool.true_and] at h2
        have st3 : m_read_net (startS 3 [.str t]) = (sSeq (sIf (tN (toT (eCall 1 f_is_net (aCons (eVar 1) (aNil))))) (sRaise "TooMany") (sNx)) (sRet (eVar 1))) [.val (.str t), .val (.list (ns.map encT)), .emp] := by
          rw [st2, seq_nx]
          simp [h1, look_t]
        by_cases f : fitsN ns = true
        · rw [if_pos f]
          refine runD_rt ?_
          rw [st3, seq_nx (ρ' := [.val (.str t), .val (.list (ns.map encT)), .emp]) (by simp [h2, f])]
          simp
        · rw [if_neg f]
          refine runD_exc ?_
          rw [st3, seq_exc (c := "TooMany")]
          simp [h2, f]
      · rw [if_neg g]
        have g' : (ns.all tieOk && ascR (ns.map (·.1))) = false := by simpa [goodN] using g
        rw [g'] at h1
        refine runD_exc ?_
        rw [st2, seq_exc (c := "NoText")]
        simp [h1, look_f]
/-! what is due -/
def wOk : List Str → Bool
  | [a, b, c] => tieOk (a, b, c)
  | _ => false
def encW (w : List Str) : D := .tuple (w.map .str)
theorem words_ok : ∀ {ps : List Str}, ((ps.map fun p => Txt.split p " ").all wOk = true → ∃ ns, allT ps = some ns ∧ ns.all tieOk = true ∧ (ps.map fun p => Txt.split p " ").map encW = ns.map encT) ∧ ((ps.map fun p => Txt.split p " ").all wOk = false → ∀ ns, allT ps = some ns → ns.all tieOk = false)
  | [] => ⟨fun _ => ⟨[], rfl, rfl, rfl⟩, fun z => nomatch z⟩
  | p :: ps => by
    obtain ⟨i1, i2⟩ := words_ok (ps := ps)
    rw [List.map_cons, List.all_cons]
    unfold allT
    have h3 : (wOk (Txt.split p " ") = true → ∃ t, tie3 p = some t ∧ tieOk t = true ∧ encW (Txt.split p " ") = encT t) ∧ (wOk (Txt.split p " ") = false → ∀ t, tie3 p = some t → tieOk t = false) := by
      unfold tie3
      generalize Txt.split p " " = w
      match w with
      | [] => exact ⟨(fun z => nomatch z), fun _ t e => nomatch e⟩
      | [_] => exact ⟨(fun z => nomatch z), fun _ t e => nomatch e⟩
      | [_, _] => exact ⟨(fun z => nomatch z), fun _ t e => nomatch e⟩
      | [a, b, c] => exact ⟨fun z => ⟨(a, b, c), rfl, z, rfl⟩, fun z t e => by cases e; exact z⟩
      | _ :: _ :: _ :: _ :: _ => exact ⟨(fun z => nomatch z), fun _ t e => nomatch e⟩
    obtain ⟨j1, j2⟩ := h3
    constructor
    · intro z
      rw [Bool.and_eq_true] at z
      obtain ⟨t, e1, e2, e3⟩ := j1 z.1
      obtain ⟨ns, f1, f2, f3⟩ := i1 z.2
      refine ⟨t :: ns, ?_, ?_, ?_⟩
      · rw [e1, f1]; rfl
      · rw [List.all_cons, e2, f2]; rfl
      · rw [List.map_cons, List.map_cons, e3, f3]
    · intro z ns e
      cases e1 : tie3 p with
      | none => rw [e1] at e; cases e
      | some t =>
        rw [e1] at e
        dsimp only at e
        cases e2 : allT ps with
        | none => rw [e2] at e; cases e
        | some qs =>
          rw [e2] at e
          cases e
          rw [List.all_cons]
          rw [Bool.and_eq_false_iff] at z
          rcases z with z | z
          · rw [j2 z t e1]; rfl
          · rw [i2 z qs e2, Bool.and_false]
theorem v_net_due {t : Str} (h : bigT t) : f_net_due [.str t] = .ok (dueOf (netD t)) := by
  have hle := parts_len (y := ", ") h
  have hp : ∀ p ∈ Txt.split t ", ", bigT p := fun p hp => parts_of h hp
  have hsp := split_str (a := t) (b := ", ") rfl (big_lim h)
  have hs0 : startS 7 [PyData.str t] = [.val (.str t), .emp, .emp, .emp, .emp, .emp, .emp] := rfl
  have hww : ∀ p ∈ Txt.split t ", ", ∀ x ∈ Txt.split p " ", x.length ≤ LIM := fun p hpm x hx => big_lim (parts_of (hp p hpm) hx)
  have q1 : (lLc [5] (tName 5) tYesE (eB (c1 tupleD) (aCons (eL (eM "str" splitD (eVar 5) (aCons (eC (.str " ")) aNil))) aNil)) (iL (eL (eM "str" splitD (eVar 0) (aCons (eC (.str ", ")) aNil))))) [.val (.str t), .emp, .emp, .emp, .emp, .emp, .emp] = .ok (((Txt.split t ", ").map fun p => Txt.split p " ").map encW) := by
    rw [List.map_map]
    exact lLc_mapT (enc := PyData.str) (by simp [hsp]) (fun p hpm => by
      have := split_str (a := p) (b := " ") rfl (big_lim (hp p hpm))
      simp [this, tupleD, encW]) (many_lim hle)
  unfold netD
  by_cases c : t = "-"
  · subst c
    rw [if_pos rfl]
    refine runD_rt ?_
    unfold m_net_due
    rw [hs0, seq_rt (d := .list []) (by simp)]
    rfl
  · rw [if_neg c]
    let A : D := .list (((Txt.split t ", ").map fun p => Txt.split p " ").map encW)
    obtain ⟨g1, g2⟩ := loopS_chk (enc := encW) (xs := (Txt.split t ", ").map fun p => Txt.split p " ") wOk (r := .rt (.str "NoText")) trivial (fun ρ => ∃ a b : Option D, ρ = [.val (.str t), .val A, ov a, .emp, .emp, .emp, ov b]) (h := bodyH (tName 2) (sIf (tO (toT (e2 neD (eB (c1 lenD) (aCons (eVar 2) (aNil))) (eC (.int 3)))) (tO (tN (toT (eB (c1 allD) (aCons (eL (lLc [6] (tName 6) (tYesE) (eCall 1 f__law_is_name (aCons (eVar 6) (aNil))) (iT (eVar 2)))) (aNil))))) (toT (e2 gtD (e2 idxD (eVar 2) (eC (.int 1))) (e2 idxD (eVar 2) (eC (.int 2))))))) (sRet (eC (.str "NoText"))) (sNx))) (fun w hw ρ hρ => by
      obtain ⟨a, b, rfl⟩ := hρ
      obtain ⟨p, hpm, rfl⟩ := List.mem_map.mp hw
      have hx := hww p hpm
      generalize Txt.split p " " = w at hx
      have q2 : (lLc [6] (tName 6) tYesE (eCall 1 f__law_is_name (aCons (eVar 6) aNil)) (iT (eVar 2))) [.val (.str t), .val A, .val (encW w), .emp, .emp, .emp, ov b] = if w.length ≤ LIM then .ok (w.map fun x => .bool (isNm x)) else .bad := by
        by_cases hl : w.length ≤ LIM
        · rw [if_pos hl]
          exact lLc_mapT (enc := PyData.str) (by simp [encW]) (fun x hxm => by simp [v__law_is_name x (hx x hxm)]) hl
        · rw [if_neg hl, lLc_ap]
          have e0 : iT (eVar 2) [.val (.str t), .val A, .val (encW w), .emp, .emp, .emp, ov b] = .ok (w.map .str) := by simp [encW]
          rw [e0, bind_ok, compR_mapT (g := fun x => .bool (isNm x)) (fun x hxm => by simp [v__law_is_name x (hx x hxm)])]
          simp [hl]
      have hlenW : lenD (encW w) = some (.int w.length) := by simp [encW]
      have q3 : bodyH (tName 2) (sIf (tO (toT (Mp.e2 neD (eB (c1 lenD) (aCons (eVar 2) (aNil))) (eC (.int 3)))) (tO (tN (toT (eB (c1 allD) (aCons (eL (lLc [6] (tName 6) (tYesE) (eCall 1 f__law_is_name (aCons (eVar 6) (aNil))) (iT (eVar 2)))) (aNil))))) (toT (Mp.e2 gtD (Mp.e2 idxD (eVar 2) (eC (.int 1))) (Mp.e2 idxD (eVar 2) (eC (.int 2))))))) (sRet (eC (.str "NoText"))) (sNx)) (encW w) [.val (.str t), .val A, ov a, .emp, .emp, .emp, ov b] = if wOk w = true then .nx [.val (.str t), .val A, .val (encW w), .emp, .emp, .emp, ov b] else .rt (.str "NoText") := by
        rw [bodyH_ap]
        simp only [tName_ap, List.getElem?_cons_succ, List.getElem?_cons_zero, canPut_ov, if_true, List.set_cons_succ, List.set_cons_zero]
        by_cases hl : w.length = 3
        · obtain ⟨x, y, z, rfl⟩ : ∃ x y z, w = [x, y, z] := by
            match w, hl with
            | [x, y, z], _ => exact ⟨x, y, z, rfl⟩
          rw [if_pos (show [x, y, z].length ≤ LIM from (show 3 ≤ LIM by decide))] at q2
          have a1 : idxD (encW [x, y, z]) (.int 1) = some (.str y) := rfl
          have a2 : idxD (encW [x, y, z]) (.int 2) = some (.str z) := rfl
          simp only [sIf_ap, tO_ap, tN_ap, toT_ap, eB_ap, aCons_ap, eL_ap, aNil_ap, q2]
          unfold wOk tieOk
          simp only [e2_ap, eVar_ap, eC_ap, List.getElem?_cons_succ, List.getElem?_cons_zero, bind_ok, map_ok, c1_ap, hlenW, all_f, ofO_some, onB_b, a1, a2, gt_str', List.length_cons, List.length_nil]
          simp only [List.all_cons, List.all_nil, Bool.and_true]
          rcases Bool.eq_false_or_eq_true (isNm x) with h1 | h1 <;> rcases Bool.eq_false_or_eq_true (isNm y) with h2 | h2 <;> rcases Bool.eq_false_or_eq_true (isNm z) with h3 | h3 <;> rcases Bool.eq_false_or_eq_true (strLt z y) with h4 | h4 <;> simp [h1, h2, h3, h4, hlenW]
        · have hl' : ¬ (w.length : Int) = 3 := by omega
          have hwk : wOk w = false := by
            match w, hl with
            | [], _ => rfl
            | [_], _ => rfl
            | [_, _], _ => rfl
            | [_, _, _], hl => exact absurd rfl hl
            | _ :: _ :: _ :: _ :: _, _ => rfl
          rw [hwk]
          simp [hlenW, hl', hl]
      rw [q3]
      refine ⟨fun c => ⟨_, ⟨some (encW w), b, rfl⟩, ?_⟩, fun c => ?_⟩
      · rw [c]; rfl
      · rw [c]; rfl) (ρ := [.val (.str t), .val A, .emp, .emp, .emp, .emp, .emp]) ⟨none, none, rfl⟩
    have hit : (iL (eVar 1)) [.val (.str t), .val A, .emp, .emp, .emp, .emp, .emp] = .ok (((Txt.split t ", ").map fun p => Txt.split p " ").map encW) := by simp [A]
    obtain ⟨w1, w2⟩ := words_ok (ps := Txt.split t ", ")
    refine runD_rt ?_
    unfold m_net_due
    rw [hs0, seq_nx (ρ' := [.val (.str t), .emp, .emp, .emp, .emp, .emp, .emp]) (by simp [c]), seq_nx (ρ' := [.val (.str t), .val A, .emp, .emp, .emp, .emp, .emp]) (by simp only [sSet_ap, eL_ap, q1]; rfl)]
    cases hall : ((Txt.split t ", ").map fun p => Txt.split p " ").all wOk with
    | false =>
      rw [seq_rt (d := .str "NoText") (by rw [sFor_ap, hit, lift_ok, g2 hall])]
      have := w2 hall
      cases ha : allT (Txt.split t ", ") with
      | none => rfl
      | some ns =>
        dsimp only
        rw [if_neg (by unfold goodN; rw [this ns ha]; simp)]
        rfl
    | true =>
      obtain ⟨ns, e1, e2, e3⟩ := w1 hall
      obtain ⟨ρ', ⟨a, b, rfl⟩, hloop⟩ := g1 hall
      rw [seq_nx (ρ' := [.val (.str t), .val A, ov a, .emp, .emp, .emp, ov b]) (by rw [sFor_ap, hit, lift_ok, hloop])]
      have hA : A = .list (ns.map encT) := by simp only [A]; rw [e3]
      rw [hA, e1]
      dsimp only
      have hl : ns.length ≤ 2002 := by rw [allT_len e1]; exact hle
      have hnm : ∀ u ∈ ns, isNm u.1 = true ∧ isNm u.2.1 = true ∧ isNm u.2.2 = true := by
        intro u hu
        have := List.all_eq_true.mp e2 u hu
        unfold tieOk at this
        simp only [Bool.and_eq_true] at this
        exact ⟨this.1.1.1, this.1.1.2, this.1.2⟩
      have q4 : (lLc [2] (tName 2) tYesE (Mp.e2 idxD (eVar 2) (eC (.int 0))) (iL (eVar 1))) [.val (.str t), .val (.list (ns.map encT)), ov a, .emp, .emp, .emp, ov b] = .ok ((ns.map (·.1)).map .str) := by
        rw [List.map_map]
        exact lLc_mapT (enc := encT) (by simp) (fun t _ => by simp [tie_at0]) (many_lim hl)
      have q5 : (lSet (eVar 3)) [.val (.str t), .val (.list (ns.map encT)), ov a, .val (.list ((ns.map (·.1)).map .str)), .emp, .emp, ov b] = .ok ((setS (ns.map (·.1))).map .str) := by
        have b : (ns.map (·.1)).length + 1 < PySem.scanBound := by
          rw [List.length_map]
          exact Nat.lt_of_le_of_lt (show _ ≤ 2003 by omega) (by decide)
        simp only [lSet_ap, eVar_ap, List.getElem?_cons_succ, List.getElem?_cons_zero, bind_ok]
        rw [strsOf_map]
        dsimp only
        rw [if_pos b]
      rw [seq_nx (ρ' := [.val (.str t), .val (.list (ns.map encT)), ov a, .val (.list ((ns.map (·.1)).map .str)), .emp, .emp, ov b]) (by simp only [sSet_ap, eL_ap, q4]; rfl)]
      have hgood : goodN ns = decide (ns.map (·.1) = setS (ns.map (·.1))) := by
        unfold goodN
        rw [e2, Bool.true_and, ascR_set]
      by_cases g : ns.map (·.1) = setS (ns.map (·.1))
      · have g' : goodN ns = true := by rw [hgood]; simpa using g
        rw [if_pos g', seq_nx (ρ' := [.val (.str t), .val (.list (ns.map encT)), ov a, .val (.list ((ns.map (·.1)).map .str)), .emp, .emp, ov b])]
        · obtain ⟨ys, v1, v2⟩ := v_even ns hl fun x hx => by
            unfold pts at hx
            rcases List.mem_append.mp hx with hx | hx
            · obtain ⟨u, hu, rfl⟩ := List.mem_map.mp hx
              exact (nm_ok (hnm u hu).2.1).1
            · obtain ⟨u, hu, rfl⟩ := List.mem_map.mp hx
              exact (nm_ok (hnm u hu).2.2).1
          rw [seq_nx (ρ' := [.val (.str t), .val (.list (ns.map encT)), ov a, .val (.list ((ns.map (·.1)).map .str)), .val (.int ys.length), .emp, ov b]) (by simp [v1])]
          have hy : ys.length + rk ns = ns.length := v2
          unfold fitsN
          generalize rk ns = r at hy
          have n1 : ((12 : Int) < ns.length) ↔ 12 < ns.length := by omega
          have n2 : ((8 : Int) < ys.length) ↔ 8 < ys.length := by omega
          have n3 : ((8 : Int) < (ns.length : Int) - ys.length) ↔ 8 < r := by omega
          have k1 : (ns.length ≤ 12) ↔ ¬ 12 < ns.length := by omega
          have k2 : (ns.length ≤ 8 + r) ↔ ¬ 8 < ys.length := by omega
          have k3 : (r ≤ 8) ↔ ¬ 8 < r := by omega
          by_cases m1 : 12 < ns.length
          · rw [seq_rt (d := .str "TooMany") (by simp [n1, m1])]
            simp [k1, m1, dueOf]
          · by_cases m2 : 8 < ys.length
            · rw [seq_rt (d := .str "TooMany") (by simp [n1, m1, n2, m2])]
              simp [k2, m2, dueOf]
            · by_cases m3 : 8 < r
              · rw [seq_rt (d := .str "TooMany") (by simp [n1, m1, n2, m2, n3, m3])]
                simp [k3, m3, dueOf]
              · rw [seq_nx (ρ' := [.val (.str t), .val (.list (ns.map encT)), ov a, .val (.list ((ns.map (·.1)).map .str)), .val (.int ys.length), .emp, ov b]) (by simp [n1, m1, n2, m2, n3, m3])]
                simp [k1, m1, k2, m2, k3, m3, dueOf]
        · simp only [sIf_ap, toT_ap, e2_ap, eL_ap, q5, eVar_ap, List.getElem?_cons_succ, List.getElem?_cons_zero, bind_ok, map_ok, ne_strs, ofO_some, onB_b, lift_ok]
          simp [← g]
      · have g' : ¬ goodN ns = true := by rw [hgood]; simpa using g
        rw [if_neg g', seq_rt (d := .str "NoText")]
        · rfl
        · simp only [sIf_ap, toT_ap, e2_ap, eL_ap, q5, eVar_ap, List.getElem?_cons_succ, List.getElem?_cons_zero, bind_ok, map_ok, ne_strs, ofO_some, onB_b, lift_ok]
          simp [g]
theorem v_told1 {t : Str} (h : bigT t) : f_told [.int 1, .str t] = .ok (dueOf (netD t)) := by
  have hr := v_read_net h
  have hs0 : startS 3 [PyData.int 1, .str t] = [.val (.int 1), .val (.str t), .emp] := rfl
  have hex : (∃ d, netD t = .ok d) ∨ netD t = .exc "NoText" ∨ netD t = .exc "TooMany" := by
    unfold netD
    split
    · exact .inl ⟨_, rfl⟩
    · split
      · exact .inr (.inl rfl)
      · split
        · split
          · exact .inl ⟨_, rfl⟩
          · exact .inr (.inr rfl)
        · exact .inr (.inl rfl)
  have e : ∀ r, netD t = r → (sSeq (sIf (toT (e2 eqD (eVar 0) (eC (.int 0)))) (sRet (eCall 1 f_read_table (aCons (eVar 1) (aNil)))) (sNx)) (sRet (eCall 1 f_read_net (aCons (eVar 1) (aNil))))) [.val (.int 1), .val (.str t), .emp] = lift r .rt := by
    intro r hr0
    rw [hr0] at hr
    rw [seq_nx (ρ' := [.val (.int 1), .val (.str t), .emp]) (by simp)]
    simp [hr]
  refine runD_rt ?_
  unfold m_told sTryR
  rw [hs0]
  rcases hex with ⟨d, hd⟩ | hd | hd
  · rw [e _ hd, hd]; rfl
  · rw [e _ hd, hd]; rfl
  · rw [e _ hd, hd]; rfl
/-- what is no text -/
theorem v_told_no (w : Int) (hw : w = 0 ∨ w = 1) (d : D) (hd : isiD "str" d = some (.bool false)) : f_told [.int w, d] = .ok (.str "NoText") := by
  have hs0 : startS 3 [PyData.int w, d] = [.val (.int w), .val d, .emp] := rfl
  have r1 : f_read_table [d] = .exc "NoText" := by
    refine runD_exc ?_
    unfold m_read_table
    rw [seq_exc (c := "NoText")]
    simp [startS, hd, look_f]
  have r2 : f_read_net [d] = .exc "NoText" := by
    refine runD_exc ?_
    unfold m_read_net
    rw [seq_exc (c := "NoText")]
    simp [startS, hd, look_f]
  refine runD_rt ?_
  unfold m_told sTryR
  rw [hs0]
  rcases hw with rfl | rfl
  · rw [seq_exc (c := "NoText") (by simp [r1])]; rfl
  · rw [seq_nx (ρ' := [.val (.int 1), .val d, .emp]) (by simp)]
    simp [r2]
    rfl
end K73

set_option Elab.async false
set_option linter.all false
set_option maxRecDepth 100000
set_option maxHeartbeats 0
/-! K73i: what is drawn: numbers, names. -/
namespace K73
open PySem PySem.Spec Mp
open L2 (atI)
theorem mulR (i : Int) {j : Int} (h1 : -(2 ^ 64) < j) (h2 : j < 2 ^ 64) : mulD (.int i) (.int j) = some (.int (i * j)) := mul_int (.inr ⟨h1, h2⟩)
theorem mulLt {i : Int} (j : Int) (h1 : -(2 ^ 64) < i) (h2 : i < 2 ^ 64) : mulD (.int i) (.int j) = some (.int (i * j)) := mul_int (.inl ⟨h1, h2⟩)
theorem divR (i : Int) {j : Int} (h1 : 0 < j) (h2 : j < 1073741824) : divD (.int i) (.int j) = some (.int (i / j)) := div_int ⟨h1, h2⟩
theorem v_cell_at (ns : List Int) (k : Nat) : ∃ c : Int, f_cell_at [scr ns, .int k] = .ok (.int c) := by
  by_cases h : k < ns.length
  · have h' : (k : Int) < (ns.length : Int) := by omega
    have ha := at_map PyData.int ns 0 h
    refine ⟨ns.getD k 0, runD_rt ?_⟩
    unfold m_cell_at
    rw [seq_rt (d := .int (ns.getD k 0))]
    have hl : lenD (scr ns) = some (.int ns.length) := by unfold scr; simp [lenD]
    have hx : idxD (scr ns) (.int k) = some (.int (ns.getD k 0)) := ha
    simp [startS, hl, h, hx]
  · refine ⟨0, runD_rt ?_⟩
    have h' : ¬ (k : Int) < (ns.length : Int) := by omega
    have hl : lenD (scr ns) = some (.int ns.length) := by unfold scr; simp [lenD]
    unfold m_cell_at
    rw [seq_nx (ρ' := [.val (scr ns), .val (.int k)]) (by simp [startS, hl, h])]
    simp
theorem absD_int (i : Int) : absD (.int i) = some (.int (if i < 0 then -i else i)) := rfl
theorem pow18 : powD (.int 10) (.int 18) = some (.int 1000000000000000000) := by
  rw [pow_int (by unfold cPow; decide)]
  simp
def bigB (a b c m p n : Int) : Mp.Env → SR := sSeq (sSet 2 (e2 modD (e2 addD (e2 addD (e2 addD (e2 mulD (eVar 2) (eC (.int a))) (e2 divD (eVar 2) (eC (.int b)))) (e2 mulD (e2 mulD (eC (.int c)) (eVar 4)) (eVar 4))) (eVar 1)) (eC (.int m)))) (sSet 3 (e2 addD (e2 mulD (eVar 3) (eC (.int m))) (e2 modD (e2 mulD (eVar 2) (eC (.int p))) (eC (.int n)))))
theorem big_body (a b c m p n : Int) (m3 : ∀ z, mulD (.int z) (.int a) = some (.int (z * a))) (m4 : ∀ z, mulD (.int z) (.int m) = some (.int (z * m))) (m5 : ∀ z, mulD (.int z) (.int p) = some (.int (z * p))) (d1 : ∀ z, divD (.int z) (.int b) = some (.int (z / b))) (o1 : ∀ z, modD (.int z) (.int m) = some (.int (z % m))) (o2 : ∀ z, modD (.int z) (.int n) = some (.int (z % n))) (s : D) (k x t j : Int) (m1 : mulD (.int c) (.int j) = some (.int (c * j))) (m2 : mulD (.int (c * j)) (.int j) = some (.int (c * j * j))) (o : Option D) : ∃ x' t' : Int, bodyH (tName 4) (bigB a b c m p n) (.int j) [.val s, .val (.int k), .val (.int x), .val (.int t), ov o] = .nx [.val s, .val (.int k), .val (.int x'), .val (.int t'), .val (.int j)] := by
  refine ⟨(x * a + x / b + c * j * j + k) % m, t * m + (x * a + x / b + c * j * j + k) % m * p % n, ?_⟩
  rw [bodyH_ap]
  unfold bigB
  simp [m1, m2, m3, m4, m5, d1, o1, o2]
theorem m_3 (z : Int) : mulD (.int z) (.int 48271) = some (.int (z * 48271)) := mulR z (by omega) (by omega)
theorem m_4 (z : Int) : mulD (.int z) (.int 2147483647) = some (.int (z * 2147483647)) := mulR z (by omega) (by omega)
theorem m_5 (z : Int) : mulD (.int z) (.int 69621) = some (.int (z * 69621)) := mulR z (by omega) (by omega)
theorem d_1 (z : Int) : divD (.int z) (.int 40692) = some (.int (z / 40692)) := divR z (by omega) (by omega)
theorem o_1 (z : Int) : modD (.int z) (.int 2147483647) = some (.int (z % 2147483647)) := mod_int (by omega)
theorem o_2 (z : Int) : modD (.int z) (.int 2147483629) = some (.int (z % 2147483629)) := mod_int (by omega)
theorem v_big (ns : List Int) (k : Nat) : ∃ x : Int, f_big [scr ns, .int k] = .ok (.int x) := by
  obtain ⟨c, hc⟩ := v_cell_at ns k
  obtain ⟨c0, hc0⟩ := v_cell_at ns 0
  have hc0' : f_cell_at [scr ns, .int 0] = .ok (.int c0) := hc0
  have hs0 : startS 5 [scr ns, PyData.int k] = [.val (scr ns), .val (.int k), .emp, .emp, .emp] := rfl
  generalize scr ns = s at *
  have hac : ∃ ac, absD (.int c) = some (.int ac) := ⟨_, absD_int c⟩
  obtain ⟨ac, hA⟩ := hac
  have hT : (toT (e2 geD (eB (c1 absD) (aCons (eCall 2 f_cell_at (aCons (eVar 0) (aCons (eVar 1) aNil))) aNil)) (e2 powD (eC (.int 10)) (eC (.int 18))))) [.val s, .val (.int k), .emp, .emp, .emp] = .ok (decide (1000000000000000000 ≤ ac)) := by
    simp [hc, hA, pow18]
  cases h : decide ((1000000000000000000 : Int) ≤ ac) with
  | true =>
    rw [h] at hT
    refine ⟨ac - 1000000000000000000, runD_rt ?_⟩
    unfold m_big
    rw [hs0, seq_rt (d := .int (ac - 1000000000000000000))]
    rw [if_t hT]
    simp [hc, hA, pow18]
  | false =>
    rw [h] at hT
    obtain ⟨ρ', ⟨x, t, o, rfl⟩, hloop⟩ := loopS_inv (enc := fun i : Nat => PyData.int ((i : Nat) : Int)) (xs := List.range 8) (fun pre ρ => ∃ (x t : Int) (o : Option D), ρ = [.val s, .val (.int k), .val (.int x), .val (.int t), ov o]) (h := bodyH (tName 4) (bigB 48271 40692 19 2147483647 69621 2147483629)) (fun pre i post e ρ hρ => by
      obtain ⟨x, t, o, rfl⟩ := hρ
      have hi : i < 8 := List.mem_range.mp (by rw [e]; simp)
      obtain ⟨x', t', q⟩ := big_body 48271 40692 19 2147483647 69621 2147483629 m_3 m_4 m_5 d_1 o_1 o_2 s k x t (i : Int) (mulR 19 (by omega) (by omega)) (mulR _ (by omega) (by omega)) o
      exact ⟨_, ⟨x', t', some (.int i), rfl⟩, .inl q⟩) (ρ := [.val s, .val (.int k), .val (.int (((c0 % 1000003 + 7919 * k) + 31 * c + 17) % 2147483629 + 11)), .val (.int 0), .emp]) ⟨_, _, none, rfl⟩
    refine ⟨t, runD_rt ?_⟩
    unfold m_big
    rw [hs0, seq_nx (ρ' := [.val s, .val (.int k), .emp, .emp, .emp]) (by rw [if_f hT]; rfl)]
    have m1 : mulD (.int 7919) (.int (k : Int)) = some (.int (7919 * (k : Int))) := mulLt (k : Int) (by omega) (by omega)
    have m2 : mulD (.int 31) (.int c) = some (.int (31 * c)) := mulLt c (by omega) (by omega)
    have o1 : modD (.int c0) (.int 1000003) = some (.int (c0 % 1000003)) := mod_int (by omega)
    have o2 : ∀ z, modD (.int z) (.int 2147483629) = some (.int (z % 2147483629)) := fun z => mod_int (by omega)
    rw [seq_nx (ρ' := [.val s, .val (.int k), .val (.int ((c0 % 1000003 + 7919 * k) + 31 * c + 17)), .emp, .emp]) (by simp [hc, hc0', o1, m1, m2])]
    rw [seq_nx (ρ' := [.val s, .val (.int k), .val (.int (((c0 % 1000003 + 7919 * k) + 31 * c + 17) % 2147483629 + 11)), .emp, .emp]) (by simp [o2])]
    rw [seq_nx (ρ' := [.val s, .val (.int k), .val (.int (((c0 % 1000003 + 7919 * k) + 31 * c + 17) % 2147483629 + 11)), .val (.int 0), .emp]) (by simp)]
    rw [seq_nx (ρ' := [.val s, .val (.int k), .val (.int x), .val (.int t), ov o])]
    · simp
    · have hr : (iR1 (aCons (eC (.int 8)) aNil)) [.val s, .val (.int k), .val (.int (((c0 % 1000003 + 7919 * k) + 31 * c + 17) % 2147483629 + 11)), .val (.int 0), .emp] = .ok ((List.range 8).map fun i : Nat => PyData.int ((i : Nat) : Int)) := by
        rw [← rng_map]
        rfl
      rw [sFor_ap, hr, lift_ok]
      exact hloop
end K73

set_option Elab.async false
set_option linter.all false
set_option maxRecDepth 100000
set_option maxHeartbeats 0
/-! K73j: names drawn. -/
namespace K73
open PySem PySem.Spec Mp
open L2 (atI)
def txt (l : List Nat) : Str := ⟨l.toArray⟩
theorem txt_len (l : List Nat) : (txt l).length = l.length := by show l.toArray.size = _; simp
theorem txt_app (l m : List Nat) : txt l ++ txt m = txt (l ++ m) := by
  show (⟨l.toArray ++ m.toArray⟩ : Str) = _
  simp [txt]
theorem txt_cps (l : List Nat) : (txt l).cps.toList = l := by simp [txt]
def SGl (l : List Nat) : Prop := ∀ c ∈ l, c ∈ SG.cps.toList
theorem sg_len : SG.length = 36 := by decide +kernel
theorem sg_idx (j : Int) (h0 : 0 ≤ j) (h1 : j < 36) : ∃ c, idxD (.str SG) (.int j) = some (.str (txt [c])) ∧ c ∈ SG.cps.toList := by
  obtain ⟨n, rfl⟩ : ∃ n : Nat, j = n := ⟨j.toNat, by omega⟩
  have hn : n < SG.cps.toList.length := by
    have : SG.cps.toList.length = 36 := by decide +kernel
    omega
  refine ⟨SG.cps.toList[n], ?_, List.getElem_mem hn⟩
  have hl : SG.length ≤ LIM := by rw [sg_len]; decide
  show (if SG.length ≤ LIM then (atI SG.cps.toList (n : Int)).map fun c => PyData.str ⟨#[c]⟩ else none) = _
  rw [if_pos hl, Mp.atI_nat, List.getElem?_eq_getElem hn]
  rfl
theorem m36 (z : Int) : modD (.int z) (.int 36) = some (.int (z % 36)) := mod_int (by omega)
theorem d6 (z : Int) : divD (.int z) (.int 6) = some (.int (z / 6)) := divR z (by omega) (by omega)
theorem d36 (z : Int) : divD (.int z) (.int 36) = some (.int (z / 36)) := divR z (by omega) (by omega)
theorem d216 (z : Int) : divD (.int z) (.int 216) = some (.int (z / 216)) := divR z (by omega) (by omega)
theorem m6 (z : Int) : modD (.int z) (.int 6) = some (.int (z % 6)) := mod_int (by omega)
theorem cut_hd (l : List Nat) (k : Nat) (hk : k ≤ l.length) : L2.cutS (txt l) none (some (k : Int)) = txt (l.take k) := by
  unfold L2.cutS
  rw [HT.sIx_nat, HT.sIx_none, txt_len, txt_cps]
  simp [txt, Nat.min_eq_left hk]
theorem cut_tl (l : List Nat) (k : Nat) (hk : k ≤ l.length) : L2.cutS (txt l) (some (k : Int)) none = txt (l.drop k) := by
  unfold L2.cutS
  rw [HT.sIx_nat, HT.sIx_none, txt_len, txt_cps, Nat.min_eq_left hk]
  have : (l.drop k).take (l.length - k) = l.drop k := List.take_of_length_le (by simp)
  rw [this]; rfl
theorem add_txt {l m : List Nat} (h : l.length + m.length ≤ LIM) : addD (.str (txt l)) (.str (txt m)) = some (.str (txt (l ++ m))) := by
  rw [add_str (by rw [txt_len, txt_len]; exact h), txt_app]
theorem isNm_txt {l : List Nat} (h1 : 1 ≤ l.length) (h2 : l.length ≤ 6) (h3 : SGl l) : isNm (txt l) = true := by
  unfold isNm
  rw [txt_len, txt_cps]
  have : (l.all fun c => decide (c ∈ SG.cps.toList)) = true := List.all_eq_true.mpr fun c hc => decide_eq_true (h3 c hc)
  rw [this]
  simp [h1, h2]
theorem iR1_z {e : Mp.Env → Mp.R D} {z : Int} {ρ : Mp.Env} (he : e ρ = .ok (.int z)) (c : -(2 ^ 62 : Int) ≤ z ∧ z < 2 ^ 62) : iR1 (aCons e aNil) ρ = .ok (rng 0 z.toNat) := by
  rw [iR1_ap]
  simp only [aCons_ap, aNil_ap, he, bind_ok]
  rw [if_pos c]
theorem iR1_nat {e : Mp.Env → Mp.R D} {n : Nat} {ρ : Mp.Env} (he : e ρ = .ok (.int (n : Int))) (h : n ≤ 100000) : iR1 (aCons e aNil) ρ = .ok ((List.range n).map fun i => PyData.int ((i : Nat) : Int)) := by
  rw [iR1_z he (by omega), rng_map, Int.toNat_natCast]
theorem v_names (b : Int) (many : Nat) (hm : many ≤ 1000) : ∃ xs : List Str, f_names [.int b, .int many] = .ok (xs.map .str) ∧ xs.length = many ∧ ∀ x ∈ xs, isNm x = true := by
  have hs0 : startS 9 [PyData.int b, .int many] = [.val (.int b), .val (.int many), .emp, .emp, .emp, .emp, .emp, .emp, .emp] := rfl
  obtain ⟨n, hn, hn5⟩ : ∃ n : Nat, b % 6 = n ∧ n ≤ 5 := ⟨(b % 6).toNat, by omega, by omega⟩
  obtain ⟨ρ', ⟨b', l, o, hl1, hl2, rfl⟩, hloop⟩ := loopS_inv (enc := fun i : Nat => PyData.int ((i : Nat) : Int)) (xs := List.range (1 + n)) (fun pre ρ => ∃ (b' : Int) (l : List Nat) (o : Option D), l.length = pre.length ∧ SGl l ∧ ρ = [.val (.int b'), .val (.int many), .val (.str SG), .val (.str (txt l)), ov o, .emp, .emp, .emp, .emp]) (h := bodyH (tName 4) (sSeq (sSet 3 (e2 addD (eVar 3) (e2 idxD (eVar 2) (e2 modD (e2 divD (eVar 0) (eC (.int 6))) (eC (.int 36)))))) (sSet 0 (e2 divD (eVar 0) (eC (.int 36)))))) (fun pre i post e ρ hρ => by
    obtain ⟨b', l, o, hl1, hl2, rfl⟩ := hρ
    obtain ⟨c, hc, hcm⟩ := sg_idx (b' / 6 % 36) (by omega) (by omega)
    have hpl : pre.length < 1 + n := by
      have := congrArg List.length e
      simp at this
      omega
    refine ⟨_, ⟨b' / 36, l ++ [c], some (.int i), by simp [hl1], ?_, rfl⟩, .inl ?_⟩
    · intro z hz
      rcases List.mem_append.mp hz with h | h
      · exact hl2 z h
      · rw [List.mem_singleton] at h; rw [h]; exact hcm
    · have ha := add_txt (l := l) (m := [c]) (by simp; unfold LIM; omega)
      simp [d6, m36, d36, hc, ha, ov_v]) (ρ := [.val (.int b), .val (.int many), .val (.str SG), .val (.str (txt [])), .emp, .emp, .emp, .emp, .emp]) ⟨b, [], none, rfl, (fun z hz => nomatch hz), rfl⟩
  rw [List.length_range] at hl1
  have hL : 1 ≤ l.length ∧ l.length ≤ 6 := by omega
  obtain ⟨k, hk, hkl⟩ : ∃ k : Nat, b' / 6 % (l.length : Int) = k ∧ k < l.length := by
    have h1 := Int.emod_nonneg (b' / 6) (show (l.length : Int) ≠ 0 by omega)
    have h2 := Int.emod_lt_of_pos (b' / 6) (show (0 : Int) < l.length by omega)
    exact ⟨(b' / 6 % (l.length : Int)).toNat, by omega, by omega⟩
  have hml : modD (.int (b' / 6)) (.int (l.length : Int)) = some (.int (k : Int)) := by rw [mod_int (by omega), hk]
  have hlen : lenD (.str (txt l)) = some (.int l.length) := by rw [len_str (by rw [txt_len]; unfold LIM; omega), txt_len]
  have hsl1 : slS (.str (txt l)) none (some (k : Int)) = some (.str (txt (l.take k))) := by
    unfold slS
    dsimp only
    rw [if_pos (by rw [txt_len]; unfold LIM; omega), cut_hd l k (by omega)]
  have hsl2 : slS (.str (txt l)) (some ((k : Int) + 1)) none = some (.str (txt (l.drop (k + 1)))) := by
    unfold slS
    dsimp only
    rw [if_pos (by rw [txt_len]; unfold LIM; omega), show (k : Int) + 1 = ((k + 1 : Nat) : Int) from rfl, cut_tl l (k + 1) (by omega)]
  -- the names
  have hex : ∀ i : Nat, ∃ c, idxD (.str SG) (.int ((b' / 216 % 36 + 7 * (i : Int)) % 36)) = some (.str (txt [c])) ∧ c ∈ SG.cps.toList := fun i => sg_idx _ (by omega) (by omega)
  let cc : Nat → Nat := fun i => Classical.choose (hex i)
  have hcc : ∀ i : Nat, idxD (.str SG) (.int ((b' / 216 % 36 + 7 * (i : Int)) % 36)) = some (.str (txt [cc i])) ∧ cc i ∈ SG.cps.toList := fun i => Classical.choose_spec (hex i)
  let nm : Nat → List Nat := fun i => (l.take k ++ [cc i]) ++ l.drop (k + 1)
  have hnl : ∀ i, (nm i).length = l.length := by
    intro i
    simp [nm]
    omega
  have q1 : (lLc [4] (tName 4) tYesE (e2 addD (e2 addD (eVar 7) (e2 idxD (eVar 2) (e2 modD (e2 addD (eVar 6) (e2 mulD (eC (.int 7)) (eVar 4))) (eC (.int 36))))) (eVar 8)) (iR1 (aCons (eVar 1) aNil))) [.val (.int b'), .val (.int many), .val (.str SG), .val (.str (txt l)), ov o, .val (.int k), .val (.int (b' / 216 % 36)), .val (.str (txt (l.take k))), .val (.str (txt (l.drop (k + 1))))] = .ok ((List.range many).map fun i => .str (txt (nm i))) :=
    lLc_mapT (enc := fun i : Nat => PyData.int ((i : Nat) : Int)) (iR1_nat (by simp) (by omega)) (fun i hi => by
      have m7 : mulD (.int 7) (.int (i : Int)) = some (.int (7 * (i : Int))) := mulLt (i : Int) (by omega) (by omega)
      have a1 := add_txt (l := l.take k) (m := [cc i]) (by simp; unfold LIM; omega)
      have a2 := add_txt (l := l.take k ++ [cc i]) (m := l.drop (k + 1)) (by simp; unfold LIM; omega)
      simp only [compH_ap, wipe1, wipe0, tName_ap, List.getElem?_cons_succ, List.getElem?_cons_zero, canPut_e, if_true, List.set_cons_succ, List.set_cons_zero, bind_ok, tYes_ap, e2_ap, eVar_ap, eC_ap, m7, m36, ofO_some, add_int, (hcc i).1, a1, a2, map_ok]
      rfl) (by rw [List.length_range]; unfold LIM; omega)
  refine ⟨(List.range many).map fun i => txt (nm i), runL_rl ?_, by simp, ?_⟩
  · unfold m_names
    rw [hs0, seq_nx (ρ' := [.val (.int b), .val (.int many), .val (.str SG), .emp, .emp, .emp, .emp, .emp, .emp]) (by simp [SG]), seq_nx (ρ' := [.val (.int b), .val (.int many), .val (.str SG), .val (.str (txt [])), .emp, .emp, .emp, .emp, .emp]) (by simp; rfl), seq_nx (ρ' := [.val (.int b'), .val (.int many), .val (.str SG), .val (.str (txt l)), ov o, .emp, .emp, .emp, .emp])]
    · rw [seq_nx (ρ' := [.val (.int b'), .val (.int many), .val (.str SG), .val (.str (txt l)), ov o, .val (.int k), .emp, .emp, .emp]) (by simp [d6, hlen, hml]), seq_nx (ρ' := [.val (.int b'), .val (.int many), .val (.str SG), .val (.str (txt l)), ov o, .val (.int k), .val (.int (b' / 216 % 36)), .emp, .emp]) (by simp [d216, m36]), seq_nx (ρ' := [.val (.int b'), .val (.int many), .val (.str SG), .val (.str (txt l)), ov o, .val (.int k), .val (.int (b' / 216 % 36)), .val (.str (txt (l.take k))), .val (.str (txt (l.drop (k + 1))))])]
      · rw [sRetL_ap, q1, List.map_map]
        rfl
      · have lim2 : (2 : Nat) ≤ LIM := by decide
        simp [hsl1, hsl2, lim2]
    · have hr : (iR1 (aCons (e2 addD (eC (.int 1)) (e2 modD (eVar 0) (eC (.int 6)))) aNil)) [.val (.int b), .val (.int many), .val (.str SG), .val (.str (txt [])), .emp, .emp, .emp, .emp, .emp] = .ok ((List.range (1 + n)).map fun i : Nat => PyData.int ((i : Nat) : Int)) :=
        iR1_nat (by simp [m6, hn]) (by omega)
      rw [sFor_ap, hr, lift_ok]
      exact hloop
  · intro x hx
    obtain ⟨i, _, rfl⟩ := List.mem_map.mp hx
    refine isNm_txt (by rw [hnl]; exact hL.1) (by rw [hnl]; exact hL.2) ?_
    intro c hc
    simp only [nm, List.mem_append, List.mem_singleton] at hc
    rcases hc with (h | h) | h
    · exact hl2 c (List.mem_of_mem_take h)
    · rw [h]; exact (hcc i).2
    · exact hl2 c (List.mem_of_mem_drop h)
end K73

set_option Elab.async false
set_option linter.all false
set_option maxRecDepth 100000
set_option maxHeartbeats 0
/-! K73k: ends drawn. -/
namespace K73
open PySem PySem.Spec Mp
open L2 (atI)
def encE (e : Nat × Nat) : D := .tuple [.int (e.1 : Nat), .int (e.2 : Nat)]
theorem d_sp (z : Int) {s : Nat} (h1 : 1 ≤ s) (h2 : s ≤ 1000) : divD (.int z) (.int (s : Int)) = some (.int (z / (s : Int))) := divR z (by omega) (by omega)
theorem m_sp (z : Int) {s : Nat} (h1 : 1 ≤ s) : ∃ k : Nat, modD (.int z) (.int (s : Int)) = some (.int (k : Int)) ∧ k < s := by
  have a1 := Int.emod_nonneg z (show (s : Int) ≠ 0 by omega)
  have a2 := Int.emod_lt_of_pos z (show (0 : Int) < s by omega)
  refine ⟨(z % (s : Int)).toNat, ?_, by omega⟩
  rw [mod_int (by omega), Int.toNat_of_nonneg a1]
def endsB : Mp.Env → SR := sSeq (sAsg (tTupT 2 (tsCons (tName 7) (tsCons (tName 8) (tsNil)))) (eTup (aCons (e2 modD (eVar 0) (eVar 2)) (aCons (e2 modD (e2 divD (eVar 0) (eVar 2)) (eVar 2)) (aNil))))) (sSeq (sSet 0 (e2 divD (e2 divD (eVar 0) (eVar 2)) (eVar 2))) (sIf (tA (toT (e2 eqD (e2 idxD (eVar 3) (eVar 7)) (e2 idxD (eVar 3) (eVar 8)))) (toT (e2 ltD (e2 subD (eB (c1 lenD) (aCons (bVar 4) (aNil))) (eVar 5)) (eC (.int 8))))) (sApp 4 (eTup (aCons (eVar 7) (aCons (eVar 8) (aNil))))) (sIf (tA (toT (e2 neD (e2 idxD (eVar 3) (eVar 7)) (e2 idxD (eVar 3) (eVar 8)))) (toT (e2 ltD (eVar 5) (eC (.int 8))))) (sSeq (sApp 4 (eTup (aCons (eVar 7) (aCons (eVar 8) (aNil))))) (sSeq (sAug 5 (· + ·) (eC (.int 1))) (sSeq (sSet 9 (e2 idxD (eVar 3) (eVar 8))) (sSet 3 (eL (lLc [10] (tName 10) (tYesE) (eI (toT (e2 eqD (eVar 10) (eVar 9))) (e2 idxD (eVar 3) (eVar 7)) (eVar 10)) (iL (eVar 3)))))))) (sNx))))
theorem ends_body (b many high : Int) (s : Nat) (h1 : 1 ≤ s) (h2 : s ≤ 1000) (heaps : List Int) (hh : heaps.length = s) (es : List (Nat × Nat)) (hes : es.length < 1000) (he : ∀ e ∈ es, e.1 < s ∧ e.2 < s) (j : Int) (a6 a7 a8 a9 : Option D) : ∃ (b' high' : Int) (heaps' : List Int) (es' : List (Nat × Nat)) (c7 c8 c9 : Option D), heaps'.length = s ∧ es'.length ≤ es.length + 1 ∧ (∀ e ∈ es', e.1 < s ∧ e.2 < s) ∧ bodyH (tName 6) endsB (.int j) [.val (.int b), .val (.int many), .val (.int s), .val (.list (heaps.map .int)), .own (es.map encE), .val (.int high), ov a6, ov a7, ov a8, ov a9, .emp] = .nx [.val (.int b'), .val (.int many), .val (.int s), .val (.list (heaps'.map .int)), .own (es'.map encE), .val (.int high'), .val (.int j), ov c7, ov c8, ov c9, .emp] := by
  obtain ⟨p, hp, hps⟩ := m_sp b h1
  obtain ⟨q, hq, hqs⟩ := m_sp (b / (s : Int)) h1
  have d1 := fun z => d_sp z h1 h2
  have i1 := at_map PyData.int heaps 0 (k := p) (by omega)
  have i2 := at_map PyData.int heaps 0 (k := q) (by omega)
  have lim2 : (2 : Nat) ≤ LIM := by decide
  generalize heaps.getD p 0 = x at i1
  generalize heaps.getD q 0 = y at i2
  have hlim : es.length < LIM := by unfold LIM; omega
  have hsm : ∀ e ∈ es ++ [(p, q)], e.1 < s ∧ e.2 < s := by
    intro e hm
    rcases List.mem_append.mp hm with h | h
    · exact he e h
    · rw [List.mem_singleton] at h; rw [h]; exact ⟨hps, hqs⟩
  have st : bodyH (tName 6) endsB (.int j) [.val (.int b), .val (.int many), .val (.int s), .val (.list (heaps.map .int)), .own (es.map encE), .val (.int high), ov a6, ov a7, ov a8, ov a9, .emp] = (sIf (tA (toT (e2 eqD (e2 idxD (eVar 3) (eVar 7)) (e2 idxD (eVar 3) (eVar 8)))) (toT (e2 ltD (e2 subD (eB (c1 lenD) (aCons (bVar 4) (aNil))) (eVar 5)) (eC (.int 8))))) (sApp 4 (eTup (aCons (eVar 7) (aCons (eVar 8) (aNil))))) (sIf (tA (toT (e2 neD (e2 idxD (eVar 3) (eVar 7)) (e2 idxD (eVar 3) (eVar 8)))) (toT (e2 ltD (eVar 5) (eC (.int 8))))) (sSeq (sApp 4 (eTup (aCons (eVar 7) (aCons (eVar 8) (aNil))))) (sSeq (sAug 5 (· + ·) (eC (.int 1))) (sSeq (sSet 9 (e2 idxD (eVar 3) (eVar 8))) (sSet 3 (eL (lLc [10] (tName 10) (tYesE) (eI (toT (e2 eqD (eVar 10) (eVar 9))) (e2 idxD (eVar 3) (eVar 7)) (eVar 10)) (iL (eVar 3)))))))) (sNx))) [.val (.int (b / s / s)), .val (.int many), .val (.int s), .val (.list (heaps.map .int)), .own (es.map encE), .val (.int high), .val (.int j), .val (.int p), .val (.int q), ov a9, .emp] := by
    rw [bodyH_ap]
    simp only [tName_ap, List.getElem?_cons_succ, List.getElem?_cons_zero, canPut_ov, if_true, List.set_cons_succ, List.set_cons_zero]
    unfold endsB
    rw [seq_nx (ρ' := [.val (.int b), .val (.int many), .val (.int s), .val (.list (heaps.map .int)), .own (es.map encE), .val (.int high), .val (.int j), .val (.int p), .val (.int q), ov a9, .emp]) (by simp [hp, hq, d1, lim2]), seq_nx (ρ' := [.val (.int (b / s / s)), .val (.int many), .val (.int s), .val (.list (heaps.map .int)), .own (es.map encE), .val (.int high), .val (.int j), .val (.int p), .val (.int q), ov a9, .emp]) (by simp [d1])]
  rw [st]
  clear st
  by_cases g1 : x = y ∧ (es.length : Int) - high < 8
  · refine ⟨b / s / s, high, heaps, es ++ [(p, q)], some (.int p), some (.int q), a9, hh, by simp, hsm, ?_⟩
    rw [if_t (by simp [i1, i2, g1.1, g1.2])]
    simp [lim2, hlim, ov_v, encE]
  · have f1 : (tA (toT (e2 eqD (e2 idxD (eVar 3) (eVar 7)) (e2 idxD (eVar 3) (eVar 8)))) (toT (e2 ltD (e2 subD (eB (c1 lenD) (aCons (bVar 4) (aNil))) (eVar 5)) (eC (.int 8))))) [.val (.int (b / s / s)), .val (.int many), .val (.int s), .val (.list (heaps.map .int)), .own (es.map encE), .val (.int high), .val (.int j), .val (.int p), .val (.int q), ov a9, .emp] = .ok false := by
      by_cases e : x = y
      · have : ¬ (es.length : Int) - high < 8 := fun z => g1 ⟨e, z⟩
        simp [i1, i2, e, this]
      · simp [i1, i2, e]
    rw [if_f f1]
    by_cases c2 : x ≠ y ∧ high < 8
    · refine ⟨b / s / s, high + 1, heaps.map fun z => if z = y then x else z, es ++ [(p, q)], some (.int p), some (.int q), some (.int y), by simp [hh], by simp, hsm, ?_⟩
      rw [if_t (by simp [i1, i2, c2.1, c2.2])]
      have q1 : (lLc [10] (tName 10) tYesE (eI (toT (e2 eqD (eVar 10) (eVar 9))) (e2 idxD (eVar 3) (eVar 7)) (eVar 10)) (iL (eVar 3))) [.val (.int (b / s / s)), .val (.int many), .val (.int s), .val (.list (heaps.map .int)), .own ((es ++ [(p, q)]).map encE), .val (.int (high + 1)), .val (.int j), .val (.int p), .val (.int q), .val (.int y), .emp] = .ok (heaps.map fun z => .int (if z = y then x else z)) :=
        lLc_mapT (enc := PyData.int) (by simp) (fun z _ => by
          by_cases e : z = y
          · simp [e, i1]
          · simp [e]) (by unfold LIM; omega)
      rw [seq_nx (ρ' := [.val (.int (b / s / s)), .val (.int many), .val (.int s), .val (.list (heaps.map .int)), .own ((es ++ [(p, q)]).map encE), .val (.int high), .val (.int j), .val (.int p), .val (.int q), ov a9, .emp]) (by simp [lim2, hlim, encE]), seq_nx (ρ' := [.val (.int (b / s / s)), .val (.int many), .val (.int s), .val (.list (heaps.map .int)), .own ((es ++ [(p, q)]).map encE), .val (.int (high + 1)), .val (.int j), .val (.int p), .val (.int q), ov a9, .emp]) (by simp), seq_nx (ρ' := [.val (.int (b / s / s)), .val (.int many), .val (.int s), .val (.list (heaps.map .int)), .own ((es ++ [(p, q)]).map encE), .val (.int (high + 1)), .val (.int j), .val (.int p), .val (.int q), .val (.int y), .emp]) (by simp [i2])]
      simp only [sSet_ap, eL_ap, q1]
      simp [ov_v]
    · refine ⟨b / s / s, high, heaps, es, some (.int p), some (.int q), a9, hh, by omega, he, ?_⟩
      have f2 : (tA (toT (e2 neD (e2 idxD (eVar 3) (eVar 7)) (e2 idxD (eVar 3) (eVar 8)))) (toT (e2 ltD (eVar 5) (eC (.int 8))))) [.val (.int (b / s / s)), .val (.int many), .val (.int s), .val (.list (heaps.map .int)), .own (es.map encE), .val (.int high), .val (.int j), .val (.int p), .val (.int q), ov a9, .emp] = .ok false := by
        by_cases e : x = y
        · simp [i1, i2, e]
        · have : ¬ high < 8 := fun z => c2 ⟨e, z⟩
          simp [i1, i2, e, this]
      rw [if_f f2]
      simp [ov_v]
theorem v_ends (b : Int) (many s : Nat) (hm : many ≤ 100) (h1 : 1 ≤ s) (h2 : s ≤ 100) : ∃ es : List (Nat × Nat), f_ends [.int b, .int many, .int s] = .ok (es.map encE) ∧ es.length ≤ many ∧ ∀ e ∈ es, e.1 < s ∧ e.2 < s := by
  obtain ⟨ρ', ⟨b', high, heaps, es, a6, a7, a8, a9, k1, k2, k3, rfl⟩, hloop⟩ := loopS_inv (enc := fun i : Nat => PyData.int ((i : Nat) : Int)) (xs := List.range many) (fun pre ρ => ∃ (b' high : Int) (heaps : List Int) (es : List (Nat × Nat)) (a6 a7 a8 a9 : Option D), heaps.length = s ∧ es.length ≤ pre.length ∧ (∀ e ∈ es, e.1 < s ∧ e.2 < s) ∧ ρ = [.val (.int b'), .val (.int many), .val (.int s), .val (.list (heaps.map .int)), .own (es.map encE), .val (.int high), ov a6, ov a7, ov a8, ov a9, .emp]) (h := bodyH (tName 6) endsB) (fun pre i post e ρ hρ => by
    obtain ⟨b', high, heaps, es, a6, a7, a8, a9, k1, k2, k3, rfl⟩ := hρ
    have hpl : pre.length < many := by
      have := congrArg List.length e
      simp at this
      omega
    obtain ⟨b'', high', heaps', es', c7, c8, c9, m1, m2, m3, m4⟩ := ends_body b' many high s h1 (by omega) heaps k1 es (by omega) k3 (i : Int) a6 a7 a8 a9
    exact ⟨_, ⟨b'', high', heaps', es', some (.int i), c7, c8, c9, m1, by simp; omega, m3, rfl⟩, .inl m4⟩) (ρ := [.val (.int b), .val (.int many), .val (.int s), .val (.list (((List.range s).map fun i : Nat => (i : Int)).map .int)), .own [], .val (.int 0), .emp, .emp, .emp, .emp, .emp]) ⟨b, 0, (List.range s).map fun i : Nat => (i : Int), [], none, none, none, none, by simp, by simp, (fun e he => nomatch he), rfl⟩
  rw [List.length_range] at k2
  refine ⟨es, runL_rl ?_, k2, k3⟩
  have hs0 : startS 11 [PyData.int b, .int many, .int s] = [.val (.int b), .val (.int many), .val (.int s), .emp, .emp, .emp, .emp, .emp, .emp, .emp, .emp] := rfl
  have hrg : lRg1 (eVar 2) [.val (.int b), .val (.int many), .val (.int s), .emp, .emp, .emp, .emp, .emp, .emp, .emp, .emp] = .ok (((List.range s).map fun i : Nat => (i : Int)).map .int) := by
    have key : ∀ z : Int, -(2 ^ 62) ≤ z ∧ z ≤ 100000 → lRg1 (eVar 2) [.val (.int b), .val (.int many), .val (.int z), .emp, .emp, .emp, .emp, .emp, .emp, .emp, .emp] = .ok (rng 0 z.toNat) := by
      intro z hz
      rw [lRg1_ap]
      simp only [eVar_ap, List.getElem?_cons_succ, List.getElem?_cons_zero, bind_ok]
      rw [if_pos hz]
    rw [key _ (by omega), rng_map, List.map_map, Int.toNat_natCast]
    rfl
  unfold m_ends
  rw [hs0, seq_nx (ρ' := [.val (.int b), .val (.int many), .val (.int s), .val (.list (((List.range s).map fun i : Nat => (i : Int)).map .int)), .emp, .emp, .emp, .emp, .emp, .emp, .emp]) (by simp only [sSet_ap, eL_ap, hrg]; rfl), seq_nx (ρ' := [.val (.int b), .val (.int many), .val (.int s), .val (.list (((List.range s).map fun i : Nat => (i : Int)).map .int)), .own [], .emp, .emp, .emp, .emp, .emp, .emp]) (by simp), seq_nx (ρ' := [.val (.int b), .val (.int many), .val (.int s), .val (.list (((List.range s).map fun i : Nat => (i : Int)).map .int)), .own [], .val (.int 0), .emp, .emp, .emp, .emp, .emp]) (by simp)]
  rw [seq_nx (ρ' := [.val (.int b'), .val (.int many), .val (.int s), .val (.list (heaps.map .int)), .own (es.map encE), .val (.int high), ov a6, ov a7, ov a8, ov a9, .emp])]
  · simp
  · rw [sFor_ap, iR1_nat (n := many) (by simp) (by omega), lift_ok]
    exact hloop
end K73

set_option Elab.async false
set_option linter.all false
set_option maxRecDepth 100000
set_option maxHeartbeats 0
/-! K73l: nets drawn. -/
namespace K73
open PySem PySem.Spec Mp
open L2 (atI)
def nmT (t : Tie) : Prop := isNm t.1 = true ∧ isNm t.2.1 = true ∧ isNm t.2.2 = true
theorem plain_ties : ∀ ns : List Tie, PyData.plainAll (ns.map encT) = true
  | [] => rfl
  | t :: ns => by simp [PyData.plainAll, PyData.plain, encT, plain_ties ns]
theorem sorted_ties (ns : List Tie) (h : ns.length ≤ LIM) : srtOk (ns.map encT) = true := by
  unfold srtOk
  rw [plain_ties]
  have a : ((ns.map encT).all fun d => (ns.map encT).all fun e => PySem.W.alike d e) = true := by
    simp [encT, PySem.W.alike, PySem.W.alikeAll]
  have n : (ns.map encT).all isTup1 = true := by simp [encT, isTup1]
  have q : ((ns.map encT).all fun d => decide (d.depth ≤ 50)) = true := by simp [encT, PyData.depth, PyData.depthAll]
  rw [a, n, q]
  simp [h]
theorem zips_map {α β : Type} (f : α → D) (g : β → D) : ∀ (xs : List α) (ys : List β), zips (xs.map f) (ys.map g) = (xs.zip ys).map fun p => .tuple [f p.1, g p.2]
  | [], ys => by simp [zips]
  | x :: xs, [] => by simp [zips]
  | x :: xs, y :: ys => by simp [zips, zips_map f g xs ys]
theorem srt_ties (ns : List Tie) : ∃ ms : List Tie, srtL (ns.map encT) = ms.map encT ∧ ms.Perm ns := by
  have hp : (srtL (ns.map encT)).Perm (ns.map encT) := List.mergeSort_perm _ _
  exact perm_unmap (f := encT) (g := fun d => match d with | .tuple [.str a, .str b, .str c] => (a, b, c) | _ => ("", "", "")) (fun _ => rfl) hp
theorem spread_of (z : Int) : ∃ s : Nat, idxD (.list [.int 4, .int 5, .int 3, .int 6, .int 5, .int 9, .int 2, .int 10]) (.int (z % 8)) = some (.int (s : Int)) ∧ 2 ≤ s ∧ s ≤ 10 := by
  have h1 : 0 ≤ z % 8 ∧ z % 8 < 8 := by omega
  obtain ⟨n, hn, hn8⟩ : ∃ n : Nat, z % 8 = n ∧ n < 8 := ⟨(z % 8).toNat, by omega, by omega⟩
  rw [hn]
  match n, hn8 with
  | 0, _ => exact ⟨4, rfl, by omega, by omega⟩
  | 1, _ => exact ⟨5, rfl, by omega, by omega⟩
  | 2, _ => exact ⟨3, rfl, by omega, by omega⟩
  | 3, _ => exact ⟨6, rfl, by omega, by omega⟩
  | 4, _ => exact ⟨5, rfl, by omega, by omega⟩
  | 5, _ => exact ⟨9, rfl, by omega, by omega⟩
  | 6, _ => exact ⟨2, rfl, by omega, by omega⟩
  | 7, _ => exact ⟨10, rfl, by omega, by omega⟩
theorem m8 (z : Int) : modD (.int z) (.int 8) = some (.int (z % 8)) := mod_int (by omega)
theorem m13 (z : Int) : modD (.int z) (.int 13) = some (.int (z % 13)) := mod_int (by omega)
theorem d8 (z : Int) : divD (.int z) (.int 8) = some (.int (z / 8)) := divR z (by omega) (by omega)
theorem d104 (z : Int) : divD (.int z) (.int 104) = some (.int (z / 104)) := divR z (by omega) (by omega)
theorem v_net (ns : List Int) (k : Nat) : ∃ ts : List Tie, f_net [scr ns, .int k] = .ok (ts.map encT) ∧ ts.length ≤ 12 ∧ ∀ t ∈ ts, nmT t := by
  obtain ⟨b0, hb0⟩ := v_big ns k
  obtain ⟨b1, hb1⟩ := v_big ns (k + 1)
  obtain ⟨b2, hb2⟩ := v_big ns (k + 2)
  rw [show ((k + 1 : Nat) : Int) = (k : Int) + 1 from rfl] at hb1
  rw [show ((k + 2 : Nat) : Int) = (k : Int) + 2 from rfl] at hb2
  have hs0 : startS 9 [scr ns, PyData.int k] = [.val (scr ns), .val (.int k), .emp, .emp, .emp, .emp, .emp, .emp, .emp] := rfl
  generalize scr ns = s at *
  obtain ⟨sp, hsp, sp1, sp2⟩ := spread_of b0
  obtain ⟨many, hmany, hm12⟩ : ∃ n : Nat, b0 / 8 % 13 = n ∧ n ≤ 12 := ⟨(b0 / 8 % 13).toNat, by omega, by omega⟩
  obtain ⟨es, he1, he2, he3⟩ := v_ends b1 many sp (by omega) (by omega) (by omega)
  obtain ⟨tn, ht1, ht2, ht3⟩ := v_names (b0 / 104) es.length (by omega)
  obtain ⟨kn, hk1, hk2, hk3⟩ := v_names b2 10 (by omega)
  have hk1' : f_names [.int b2, .int 10] = .ok (kn.map .str) := hk1
  have lim1 : (1 : Nat) ≤ LIM := by decide
  have lim2 : (2 : Nat) ≤ LIM := by decide
  have lim8 : (8 : Nat) ≤ LIM := by decide
  obtain ⟨ρ', ⟨ts, a7, a8, t1, t2, rfl⟩, hloop⟩ := loopS_inv (enc := fun p : Str × (Nat × Nat) => PyData.tuple [.str p.1, encE p.2]) (xs := tn.zip es) (fun pre ρ => ∃ (ts : List Tie) (a7 a8 : Option D), ts.length = pre.length ∧ (∀ t ∈ ts, nmT t) ∧ ρ = [.val s, .val (.int k), .val (.int b0), .val (.list (es.map encE)), .val (.list (tn.map .str)), .val (.list (kn.map .str)), .own (ts.map encT), ov a7, ov a8]) (h := bodyH (tTupT 2 (tsCons (tName 7) (tsCons (tName 8) (tsNil)))) (sApp 6 (e2 addD (eTup (aCons (eVar 7) (aNil))) (eB (c1 tupleD) (aCons (eL (eB (cl1 sortD) (aCons (eL (lLst (aCons (e2 idxD (eVar 5) (e2 idxD (eVar 8) (eC (.int 0)))) (aCons (e2 idxD (eVar 5) (e2 idxD (eVar 8) (eC (.int 1)))) (aNil))))) (aNil)))) (aNil)))))) (fun pre x post e ρ hρ => by
    obtain ⟨ts, a7, a8, t1, t2, rfl⟩ := hρ
    obtain ⟨nm, p, q⟩ := x
    have hx : (nm, p, q) ∈ tn.zip es := by rw [e]; simp
    have hnm := ht3 nm (List.of_mem_zip hx).1
    obtain ⟨hp, hq⟩ := he3 (p, q) (List.of_mem_zip hx).2
    have hpl : pre.length < 13 := by
      have := congrArg List.length e
      simp at this
      omega
    have i1 := at_map PyData.str kn "" (k := p) (by omega)
    have i2 := at_map PyData.str kn "" (k := q) (by omega)
    have n1 : isNm (kn.getD p "") = true := by
      rw [List.getD_eq_getElem?_getD, List.getElem?_eq_getElem (by omega : p < kn.length)]
      exact hk3 _ (List.getElem_mem _)
    have n2 : isNm (kn.getD q "") = true := by
      rw [List.getD_eq_getElem?_getD, List.getElem?_eq_getElem (by omega : q < kn.length)]
      exact hk3 _ (List.getElem_mem _)
    generalize kn.getD p "" = x at i1 n1
    generalize kn.getD q "" = y at i2 n2
    obtain ⟨zs, z1, z2⟩ := srt_strs [x, y]
    have z3 := z2.length_eq
    obtain ⟨u, v, rfl⟩ : ∃ u v, zs = [u, v] := by
      match zs, z3 with
      | [u, v], _ => exact ⟨u, v, rfl⟩
    have hso := sorted_str [x, y] (show 2 ≤ LIM by decide)
    have hu : isNm u = true ∧ isNm v = true := by
      have m1 : u ∈ [x, y] := z2.mem_iff.mp (by simp)
      have m2 : v ∈ [x, y] := z2.mem_iff.mp (by simp)
      simp at m1 m2
      constructor
      · rcases m1 with rfl | rfl
        · exact n1
        · exact n2
      · rcases m2 with rfl | rfl
        · exact n1
        · exact n2
    refine ⟨_, ⟨ts ++ [(nm, u, v)], some (.str nm), some (encE (p, q)), by simp [t1], ?_, rfl⟩, .inl ?_⟩
    · intro t ht
      rcases List.mem_append.mp ht with h | h
      · exact t2 t h
      · rw [List.mem_singleton] at h; rw [h]; exact ⟨hnm, hu.1, hu.2⟩
    · have e0 : idxD (encE (p, q)) (.int 0) = some (.int (p : Int)) := rfl
      have e1 : idxD (encE (p, q)) (.int 1) = some (.int (q : Int)) := rfl
      have hs : sortD (.list [.str x, .str y]) = some [.str u, .str v] := by
        unfold sortD
        dsimp only
        have hso' : srtOk [PyData.str x, .str y] = true := hso
        rw [if_pos hso']
        exact congrArg some z1
      have hadd : addD (.tuple [.str nm]) (.tuple [.str u, .str v]) = some (.tuple [.str nm, .str u, .str v]) := add_tup (show 1 + 2 ≤ LIM by decide)
      have hlt : ts.length < LIM := by unfold LIM; omega
      simp [e0, e1, i1, i2, lim1, lim2, hs, tupleD, hadd, hlt, ov_v, encT]) (ρ := [.val s, .val (.int k), .val (.int b0), .val (.list (es.map encE)), .val (.list (tn.map .str)), .val (.list (kn.map .str)), .own [], .emp, .emp]) ⟨[], none, none, rfl, (fun t ht => nomatch ht), rfl⟩
  obtain ⟨ms, s1, s2⟩ := srt_ties ts
  have htl : ts.length ≤ 12 := by
    rw [t1, List.length_zip]
    omega
  have hsrt : sortD (.list (ts.map encT)) = some (ms.map encT) := by
    unfold sortD
    dsimp only
    rw [if_pos (sorted_ties ts (by unfold LIM; omega)), s1]
  refine ⟨ms, runL_rl ?_, by rw [s2.length_eq]; exact htl, fun t ht => t2 t (s2.mem_iff.mp ht)⟩
  unfold m_net
  rw [hs0, seq_nx (ρ' := [.val s, .val (.int k), .val (.int b0), .emp, .emp, .emp, .emp, .emp, .emp]) (by simp [hb0])]
  rw [seq_nx (ρ' := [.val s, .val (.int k), .val (.int b0), .val (.list (es.map encE)), .emp, .emp, .emp, .emp, .emp])]
  · rw [seq_nx (ρ' := [.val s, .val (.int k), .val (.int b0), .val (.list (es.map encE)), .val (.list (tn.map .str)), .emp, .emp, .emp, .emp]) (by simp [d104, ht1]), seq_nx (ρ' := [.val s, .val (.int k), .val (.int b0), .val (.list (es.map encE)), .val (.list (tn.map .str)), .val (.list (kn.map .str)), .emp, .emp, .emp]) (by simp [hb2, hk1']), seq_nx (ρ' := [.val s, .val (.int k), .val (.int b0), .val (.list (es.map encE)), .val (.list (tn.map .str)), .val (.list (kn.map .str)), .own [], .emp, .emp]) (by simp), seq_nx (ρ' := [.val s, .val (.int k), .val (.int b0), .val (.list (es.map encE)), .val (.list (tn.map .str)), .val (.list (kn.map .str)), .own (ts.map encT), ov a7, ov a8])]
    · simp [hsrt]
    · rw [sFor_ap, ← hloop]
      simp [zips_map]
  · simp [hb1, d8, m13, hmany, m8, lim8]
    rw [← idx_list, hsp]
    simp [he1]
end K73

set_option Elab.async false
set_option linter.all false
set_option maxRecDepth 100000
set_option maxHeartbeats 0
/-! K73o: small tables. -/
namespace K73
open PySem PySem.Spec Mp
open L2 (atI)
def isIntD : D → Bool
  | .int _ => true
  | _ => false
def okSm : Mp.R D → Bool
  | .ok (.tuple [.int m, .list xs]) => decide (1 ≤ m) && decide (m ≤ 12) && xs.all isIntD && decide (xs.length ≤ 12)
  | _ => false
theorem ints_of : ∀ xs : List D, xs.all isIntD = true → ∃ ys : List Int, xs = ys.map .int
  | [], _ => ⟨[], rfl⟩
  | d :: xs, h => by
    rw [List.all_cons, Bool.and_eq_true] at h
    obtain ⟨ys, e⟩ := ints_of xs h.2
    cases d with
    | int i => exact ⟨i :: ys, by rw [e]; rfl⟩
    | _ => cases h.1
theorem sm0 : okSm (f_small [.int 0]) = true := by decide +kernel
theorem sm1 : okSm (f_small [.int 1]) = true := by decide +kernel
theorem sm2 : okSm (f_small [.int 2]) = true := by decide +kernel
theorem sm3 : okSm (f_small [.int 3]) = true := by decide +kernel
end K73

set_option Elab.async false
set_option linter.all false
set_option maxRecDepth 100000
set_option maxHeartbeats 0
/-! K73m: more names. -/
namespace K73
open PySem PySem.Spec Mp
open L2 (atI)
theorem loopW_inv {c : Mp.Env → Mp.R Bool} {fb : Mp.Env → SR} (I : Nat → Mp.Env → Prop) (hc : ∀ n ρ, I n ρ → c ρ = .ok false ∨ (c ρ = .ok true ∧ ∃ m, n = m + 1 ∧ ∃ ρ', I m ρ' ∧ fb ρ = .nx ρ')) : ∀ (fuel n : Nat) (ρ : Mp.Env), I n ρ → n < fuel → ∃ m ρ', I m ρ' ∧ c ρ' = .ok false ∧ loopW c fb fuel ρ = .nx ρ' := by
  intro fuel
  induction fuel with
  | zero => exact fun n ρ _ h => absurd h (by omega)
  | succ fuel ih =>
    intro n ρ i h
    unfold loopW
    rcases hc n ρ i with e | ⟨e, m, hm, ρ', i', e'⟩
    · exact ⟨n, ρ, i, e, by rw [e]; rfl⟩
    · obtain ⟨m2, ρ2, j1, j2, j3⟩ := ih m ρ' i' (by omega)
      refine ⟨m2, ρ2, j1, j2, ?_⟩
      rw [e]
      simp only [lift_ok, if_true]
      rw [e']
      exact j3
theorem m4' (z : Int) : modD (.int z) (.int 4) = some (.int (z % 4)) := mod_int (by omega)
theorem d4 (z : Int) : divD (.int z) (.int 4) = some (.int (z / 4)) := divR z (by omega) (by omega)
theorem shl_n (z : Int) (h : z = 0 ∨ z = 1) (n : Nat) (hn : n ≤ 1000) : shlD (.int z) (.int (n : Int)) = some (.int (z * 2 ^ n)) := by
  rw [shl_int ⟨by omega, by omega, by omega⟩, Int.toNat_natCast]
theorem shr_n (z : Int) (n : Nat) : shrD (.int z) (.int (n : Int)) = some (.int (z / 2 ^ n)) := by
  rw [shr_int (by omega), Int.toNat_natCast]
theorem and_one (z : Int) : Builtin.bitAnd z 1 = 0 ∨ Builtin.bitAnd z 1 = 1 := by
  rw [PyProof.Rows.bitAnd_m1]
  omega
def moreB : Mp.Env → SR := sSeq (sSet 4 (e2 modD (eVar 2) (eC (.int 4)))) (sSeq (sSet 5 (e2 modD (e2 divD (eVar 2) (eC (.int 4))) (eVar 1))) (sSeq (sSet 2 (e2 divD (e2 divD (eVar 2) (eC (.int 4))) (eVar 1))) (sSeq (sIf (tA (toT (e2 eqD (eVar 4) (eC (.int 0)))) (toT (e2 ltD (eB (c1 lenD) (aCons (eVar 0) (aNil))) (eC (.int 8))))) (sSet 0 (eL (l2 addL (eVar 0) (eL (lLst (aCons (e2 shlD (eC (.int 1)) (eVar 1)) (aNil))))))) (sIf (tA (toT (e2 eqD (eVar 4) (eC (.int 1)))) (toT (e2 ltD (eB (c1 lenD) (aCons (eVar 0) (aNil))) (eC (.int 8))))) (sSet 0 (eL (l2 addL (eVar 0) (eL (lLst (aCons (e2 orD (e2 shlD (eC (.int 1)) (eVar 1)) (e2 shlD (eC (.int 1)) (eVar 5))) (aNil))))))) (sIf (toT (e2 eqD (eVar 4) (eC (.int 2)))) (sSet 0 (eL (lLc [6] (tName 6) (tYesE) (e2 orD (eVar 6) (e2 shlD (e2 andD (e2 shrD (eVar 6) (eVar 5)) (eC (.int 1))) (eVar 1))) (iL (eVar 0))))) (sNx)))) (sAug 1 (· + ·) (eC (.int 1))))))
theorem more_body (base : List Int) (many : Nat) (h1 : 1 ≤ many) (h2 : many ≤ 100) (hb : base.length ≤ 100) (big most : Int) (a4 a5 : Option D) : ∃ (base' : List Int) (big' : Int) (c4 c5 : Option D), base'.length ≤ base.length + 1 ∧ moreB [.val (.list (base.map .int)), .val (.int many), .val (.int big), .val (.int most), ov a4, ov a5, .emp] = .nx [.val (.list (base'.map .int)), .val (.int ((many + 1 : Nat) : Int)), .val (.int big'), .val (.int most), ov c4, ov c5, .emp] := by
  obtain ⟨p, hp, hpm⟩ := m_sp (big / 4) h1
  have dm := fun z => d_sp z h1 (show many ≤ 1000 by omega)
  have s1 := shl_n 1 (.inr rfl) many (by omega)
  have s2 := shl_n 1 (.inr rfl) p (by omega)
  have lim1 : (1 : Nat) ≤ LIM := by decide
  have hadd : ∀ z : Int, addL (.list (base.map .int)) (.list [.int z]) = some (base.map .int ++ [.int z]) := fun z => add_list (by simp; unfold LIM; omega)
  unfold moreB
  rw [seq_nx (ρ' := [.val (.list (base.map .int)), .val (.int many), .val (.int big), .val (.int most), .val (.int (big % 4)), ov a5, .emp]) (by simp [m4']), seq_nx (ρ' := [.val (.list (base.map .int)), .val (.int many), .val (.int big), .val (.int most), .val (.int (big % 4)), .val (.int p), .emp]) (by simp [d4, hp]), seq_nx (ρ' := [.val (.list (base.map .int)), .val (.int many), .val (.int (big / 4 / many)), .val (.int most), .val (.int (big % 4)), .val (.int p), .emp]) (by simp [d4, dm])]
  have fin : ∀ base' : List Int, (sAug 1 (· + ·) (eC (.int 1))) [.val (.list (base'.map .int)), .val (.int many), .val (.int (big / 4 / many)), .val (.int most), .val (.int (big % 4)), .val (.int p), .emp] = .nx [.val (.list (base'.map .int)), .val (.int ((many + 1 : Nat) : Int)), .val (.int (big / 4 / many)), .val (.int most), ov (some (.int (big % 4))), ov (some (.int p)), .emp] := by
    intro base'
    simp [ov_v]
  have hlen : (base.length : Int) < 8 ∨ ¬ (base.length : Int) < 8 := by omega
  generalize big % 4 = w at *
  by_cases k1 : w = 0 ∧ (base.length : Int) < 8
  · refine ⟨base ++ [1 * 2 ^ many], big / 4 / many, some (.int w), some (.int p), by simp, ?_⟩
    rw [seq_nx (ρ' := [.val (.list ((base ++ [1 * 2 ^ many]).map .int)), .val (.int many), .val (.int (big / 4 / many)), .val (.int most), .val (.int w), .val (.int p), .emp])]
    · exact fin _
    · rw [if_t (by simp [k1.1, k1.2])]
      simp [s1, lim1, hadd]
  · have f1 : (tA (toT (e2 eqD (eVar 4) (eC (.int 0)))) (toT (e2 ltD (eB (c1 lenD) (aCons (eVar 0) (aNil))) (eC (.int 8))))) [.val (.list (base.map .int)), .val (.int many), .val (.int (big / 4 / many)), .val (.int most), .val (.int w), .val (.int p), .emp] = .ok false := by
      by_cases e : w = 0
      · have : ¬ (base.length : Int) < 8 := fun z => k1 ⟨e, z⟩
        simp [e, this]
      · simp [e]
    by_cases k2 : w = 1 ∧ (base.length : Int) < 8
    · refine ⟨base ++ [Builtin.bitOr (1 * 2 ^ many) (1 * 2 ^ p)], big / 4 / many, some (.int w), some (.int p), by simp, ?_⟩
      rw [seq_nx (ρ' := [.val (.list ((base ++ [Builtin.bitOr (1 * 2 ^ many) (1 * 2 ^ p)]).map .int)), .val (.int many), .val (.int (big / 4 / many)), .val (.int most), .val (.int w), .val (.int p), .emp])]
      · exact fin _
      · rw [if_f f1, if_t (by simp [k2.1, k2.2])]
        simp [s1, s2, lim1, hadd]
    · have f2 : (tA (toT (e2 eqD (eVar 4) (eC (.int 1)))) (toT (e2 ltD (eB (c1 lenD) (aCons (eVar 0) (aNil))) (eC (.int 8))))) [.val (.list (base.map .int)), .val (.int many), .val (.int (big / 4 / many)), .val (.int most), .val (.int w), .val (.int p), .emp] = .ok false := by
        by_cases e : w = 1
        · have : ¬ (base.length : Int) < 8 := fun z => k2 ⟨e, z⟩
          simp [e, this]
        · simp [e]
      by_cases k3 : w = 2
      · let g : Int → Int := fun z => Builtin.bitOr z (Builtin.bitAnd (z / 2 ^ p) 1 * 2 ^ many)
        refine ⟨base.map g, big / 4 / many, some (.int w), some (.int p), by simp, ?_⟩
        have q1 : (lLc [6] (tName 6) tYesE (e2 orD (eVar 6) (e2 shlD (e2 andD (e2 shrD (eVar 6) (eVar 5)) (eC (.int 1))) (eVar 1))) (iL (eVar 0))) [.val (.list (base.map .int)), .val (.int many), .val (.int (big / 4 / many)), .val (.int most), .val (.int w), .val (.int p), .emp] = .ok (base.map fun z => .int (g z)) :=
          lLc_mapT (enc := PyData.int) (by simp) (fun z _ => by
            have s3 := shl_n (Builtin.bitAnd (z / 2 ^ p) 1) (and_one _) many (by omega)
            simp [shr_n, s3, g]) (by unfold LIM; omega)
        rw [seq_nx (ρ' := [.val (.list ((base.map g).map .int)), .val (.int many), .val (.int (big / 4 / many)), .val (.int most), .val (.int w), .val (.int p), .emp])]
        · exact fin _
        · rw [if_f f1, if_f f2, if_t (by simp [k3])]
          simp only [sSet_ap, eL_ap, q1]
          simp
      · refine ⟨base, big / 4 / many, some (.int w), some (.int p), by omega, ?_⟩
        rw [seq_nx (ρ' := [.val (.list (base.map .int)), .val (.int many), .val (.int (big / 4 / many)), .val (.int most), .val (.int w), .val (.int p), .emp])]
        · exact fin _
        · rw [if_f f1, if_f f2, if_f (by simp [k3])]
          simp
end K73

set_option Elab.async false
set_option linter.all false
set_option maxRecDepth 100000
set_option maxHeartbeats 0
/-! K73p1: more names, free rows. -/
namespace K73
open PySem PySem.Spec Mp
open L2 (atI)
theorem v_with_more (base : List Int) (many : Nat) (h1 : 1 ≤ many) (hm : many ≤ 40) (hb : base.length ≤ 20) (big : Int) (most : Nat) (hs : most ≤ 40) : ∃ base' : List Int, f_with_more [.list (base.map .int), .int many, .int big, .int most] = .ok (.list (base'.map .int)) ∧ base'.length ≤ base.length + 40 := by
  have hs0 : startS 7 [PyData.list (base.map .int), .int many, .int big, .int most] = [.val (.list (base.map .int)), .val (.int many), .val (.int big), .val (.int most), ov none, ov none, .emp] := rfl
  obtain ⟨m, ρ', ⟨b', k', g', a4, a5, e1, e2, e3, e4, rfl⟩, hc, hl⟩ := loopW_inv (c := toT (e2 ltD (eVar 1) (eVar 3))) (fb := moreB) (fun n ρ => ∃ (b' : List Int) (k' : Nat) (g' : Int) (a4 a5 : Option D), n = most - k' ∧ 1 ≤ k' ∧ k' ≤ 40 ∧ b'.length + n ≤ base.length + (most - many) ∧ ρ = [.val (.list (b'.map .int)), .val (.int k'), .val (.int g'), .val (.int most), ov a4, ov a5, .emp]) (fun n ρ hρ => by
    obtain ⟨b', k', g', a4, a5, e1, e2, e3, e4, rfl⟩ := hρ
    by_cases hk : k' < most
    · right
      have : ((k' : Int) < (most : Int)) := by omega
      obtain ⟨b2, g2, c4, c5, q1, q2⟩ := more_body b' k' e2 (by omega) (by omega) g' most a4 a5
      refine ⟨by simp [this], most - (k' + 1), by omega, _, ⟨b2, k' + 1, g2, c4, c5, rfl, by omega, by omega, by omega, rfl⟩, q2⟩
    · left
      have : ¬ ((k' : Int) < (most : Int)) := by omega
      simp [this]) 1000 (most - many) _ ⟨base, many, big, none, none, rfl, h1, hm, by omega, rfl⟩ (by omega)
  refine ⟨b', runD_rt ?_, by omega⟩
  unfold m_with_more
  rw [hs0]
  refine (seq_nx hl).trans ?_
  simp
theorem m10 (z : Int) : modD (.int z) (.int 10) = some (.int (z % 10)) := mod_int (by omega)
theorem d10 (z : Int) : divD (.int z) (.int 10) = some (.int (z / 10)) := divR z (by omega) (by omega)
theorem v_free (big : Int) (many : Nat) (h : many ≤ 1000) : ∃ xs : List Int, f_free [.int big, .int many] = .ok (xs.map .int) ∧ xs.length ≤ 9 := by
  have hs0 : startS 4 [PyData.int big, .int many] = [.val (.int big), .val (.int many), .emp, .emp] := rfl
  obtain ⟨n, hn, hn9⟩ : ∃ n : Nat, big % 10 = n ∧ n ≤ 9 := ⟨(big % 10).toNat, by omega, by omega⟩
  have s1 := shl_n 1 (.inr rfl) many h
  have p0 : (0:Int) < 1 * 2 ^ many := by have := Int.pow_pos (m := many) (show (0:Int) < 2 by omega); omega
  have md : ∀ z : Int, modD (.int z) (.int (1 * 2 ^ many)) = some (.int (z % (1 * 2 ^ many))) := fun z => mod_int p0
  obtain ⟨ρ', ⟨b', xs, a3, hx, rfl⟩, hloop⟩ := loopS_inv (enc := fun i : Nat => PyData.int ((i : Nat) : Int)) (xs := List.range n) (fun pre ρ => ∃ (b' : Int) (xs : List Int) (a3 : Option D), xs.length = pre.length ∧ ρ = [.val (.int b'), .val (.int many), .own (xs.map .int), ov a3]) (h := bodyH (tName 3) (sSeq (sApp 2 (e2 modD (e2 divD (eVar 0) (eC (.int 10))) (e2 shlD (eC (.int 1)) (eVar 1)))) (sSet 0 (e2 shrD (e2 divD (eVar 0) (eC (.int 10))) (eVar 1))))) (fun pre i post e ρ hρ => by
    obtain ⟨b', xs, a3, hx, rfl⟩ := hρ
    have hpl : pre.length < n := by
      have := congrArg List.length e
      simp at this
      omega
    have hlt : xs.length < LIM := by unfold LIM; omega
    generalize (1 : Int) * 2 ^ many = q at *
    refine ⟨_, ⟨b' / 10 / 2 ^ many, xs ++ [b' / 10 % q], some (.int i), by simp [hx], rfl⟩, .inl ?_⟩
    simp [d10, s1, md, hlt, shr_n, ov_v]) (ρ := [.val (.int big), .val (.int many), .own [], .emp]) ⟨big, [], none, rfl, rfl⟩
  refine ⟨xs, runL_rl ?_, by rw [hx, List.length_range]; exact hn9⟩
  unfold m_free
  rw [hs0, seq_nx (ρ' := [.val (.int big), .val (.int many), .own [], .emp]) (by simp), seq_nx (ρ' := [.val (.int b'), .val (.int many), .own (xs.map .int), ov a3])]
  · simp
  · have hr : (iR1 (aCons (e2 modD (eVar 0) (eC (.int 10))) (aNil))) [.val (.int big), .val (.int many), .own [], .emp] = .ok ((List.range n).map fun i : Nat => PyData.int ((i : Nat) : Int)) :=
      iR1_nat (by simp [m10, hn]) (by omega)
    rw [sFor_ap, hr, lift_ok]
    exact hloop
theorem cut_map {α : Type} (f : α → D) (xs : List α) (lo hi : Option Int) : ∃ ys : List α, cutD (xs.map f) lo hi = ys.map f ∧ ys.length ≤ xs.length ∧ ∀ y ∈ ys, y ∈ xs := by
  refine ⟨(xs.drop (HT.sIx xs.length 0 lo)).take (HT.sIx xs.length xs.length hi - HT.sIx xs.length 0 lo), ?_, ?_, ?_⟩
  · unfold cutD
    rw [List.length_map, ← List.map_drop, ← List.map_take]
  · rw [List.length_take, List.length_drop]; omega
  · exact fun y hy => List.mem_of_mem_drop (List.mem_of_mem_take hy)
theorem cut_take {α : Type} (f : α → D) (xs : List α) (k : Nat) : cutD (xs.map f) none (some (k : Int)) = (xs.take k).map f := by
  unfold cutD
  rw [HT.sIx_nat, HT.sIx_none, List.length_map, Nat.sub_zero, List.drop_zero, ← List.map_take]
  congr 1
  by_cases h : k ≤ xs.length
  · rw [Nat.min_eq_left h]
  · rw [Nat.min_eq_right (by omega), List.take_of_length_le (Nat.le_refl _), List.take_of_length_le (by omega)]
end K73

set_option Elab.async false
set_option linter.all false
set_option maxRecDepth 100000
set_option maxHeartbeats 0
/-! K73p2: the steps of the table that is drawn. -/
namespace K73
open PySem PySem.Spec Mp
open L2 (atI)
theorem m12 (z : Int) : modD (.int z) (.int 12) = some (.int (z % 12)) := mod_int (by omega)
theorem d96 (z : Int) : divD (.int z) (.int 96) = some (.int (z / 96)) := divR z (by omega) (by omega)
theorem d32 (z : Int) : divD (.int z) (.int 32) = some (.int (z / 32)) := divR z (by omega) (by omega)
theorem d128 (z : Int) : divD (.int z) (.int 128) = some (.int (z / 128)) := divR z (by omega) (by omega)
theorem sm_of {r : Mp.R D} (h : okSm r = true) : ∃ (m : Nat) (xs : List Int), r = .ok (.tuple [.int m, .list (xs.map .int)]) ∧ 1 ≤ m ∧ m ≤ 12 ∧ xs.length ≤ 12 := by
  unfold okSm at h
  split at h
  · rename_i m xs
    simp only [Bool.and_eq_true, decide_eq_true_eq] at h
    obtain ⟨⟨⟨h1, h2⟩, h3⟩, h4⟩ := h
    obtain ⟨ys, rfl⟩ := ints_of xs h3
    refine ⟨m.toNat, ys, by rw [Int.toNat_of_nonneg (by omega)], by omega, by omega, ?_⟩
    rw [List.length_map] at h4; exact h4
  · cases h
theorem v_small (z : Int) : ∃ (m : Nat) (xs : List Int), f_small [.int (z % 4)] = .ok (.tuple [.int m, .list (xs.map .int)]) ∧ 1 ≤ m ∧ m ≤ 12 ∧ xs.length ≤ 12 := by
  rcases (by omega : z % 4 = 0 ∨ z % 4 = 1 ∨ z % 4 = 2 ∨ z % 4 = 3) with e | e | e | e <;> rw [e]
  · exact sm_of sm0
  · exact sm_of sm1
  · exact sm_of sm2
  · exact sm_of sm3
theorem nm_pts {ts : List Tie} (h : ∀ t ∈ ts, nmT t) : ∀ x ∈ pts ts, PyData.strOk x = true := by
  intro x hx
  unfold pts at hx
  rcases List.mem_append.mp hx with h1 | h1
  · obtain ⟨t, ht, rfl⟩ := List.mem_map.mp h1
    exact (nm_ok (h t ht).2.1).1
  · obtain ⟨t, ht, rfl⟩ := List.mem_map.mp h1
    exact (nm_ok (h t ht).2.2).1
def shB : Mp.Env → SR := sSeq (sAug 4 (· - ·) (eC (.int 1))) (sSet 5 (eCall 1 f__law_reduced (aCons (eL (lLc [7] (tName 7) (tYesE) (e2 andD (eVar 7) (e2 subD (e2 shlD (eC (.int 1)) (eVar 4)) (eC (.int 1)))) (iL (eVar 5)))) (aNil))))
theorem sh_body (s : D) (a b ts : D) (many : Nat) (h0 : 1 ≤ many) (hm : many ≤ 100) (base : List Int) (hb : base.length ≤ 100) (o : Option D) : ∃ base' : List Int, base'.length ≤ base.length ∧ shB [.val s, .val a, .val b, .val ts, .val (.int (many : Nat)), .val (.list (base.map .int)), ov o, .emp] = .nx [.val s, .val a, .val b, .val ts, .val (.int ((many - 1 : Nat) : Int)), .val (.list (base'.map .int)), ov o, .emp] := by
  have s1 := shl_n 1 (.inr rfl) (many - 1) (by omega)
  let g : Int → Int := fun z => Builtin.bitAnd z (1 * 2 ^ (many - 1) - 1)
  have q1 : (lLc [7] (tName 7) (tYesE) (e2 andD (eVar 7) (e2 subD (e2 shlD (eC (.int 1)) (eVar 4)) (eC (.int 1)))) (iL (eVar 5))) [.val s, .val a, .val b, .val ts, .val (.int ((many - 1 : Nat) : Int)), .val (.list (base.map .int)), ov o, .emp] = .ok (base.map fun z => .int (g z)) :=
    lLc_mapT (enc := PyData.int) (by simp) (fun z _ => by simp [s1, g]) (by unfold LIM; omega)
  have q2 : (base.map fun z => PyData.int (g z)) = (base.map g).map .int := by rw [List.map_map]; rfl
  rw [q2] at q1
  have q3 := v__law_reduced (base.map g) (by rw [List.length_map]; unfold LIM; omega)
  refine ⟨redL (base.map g), by have := redL_le (base.map g); rwa [List.length_map] at this, ?_⟩
  unfold shB
  rw [seq_nx (ρ' := [.val s, .val a, .val b, .val ts, .val (.int ((many - 1 : Nat) : Int)), .val (.list (base.map .int)), ov o, .emp])]
  · simp only [sSet_ap, eCall_ap, aCons_ap, aNil_ap, eL_ap, q1, map_ok, bind_ok, List.length_singleton, if_true, q3, lift_ok]
    simp
  · have : ((many - 1 : Nat) : Int) = (many : Int) - 1 := by omega
    simp [this]
theorem v__law_steps_of (ns : List Int) (k : Nat) : ∃ (many : Nat) (base : List Int), f__law_steps_of [scr ns, .int k] = .ok (.tuple [.int many, .list (base.map .int)]) ∧ many ≤ 12 ∧ base.length ≤ 8 := by
  obtain ⟨b, hb⟩ := v_big ns (k + 3)
  rw [show ((k + 3 : Nat) : Int) = (k : Int) + 3 from rfl] at hb
  obtain ⟨ts, ht1, ht2, ht3⟩ := v_net ns k
  obtain ⟨ev, he1, he2⟩ := v_even ts (by omega) (nm_pts ht3)
  have hs0 : startS 8 [scr ns, PyData.int k] = [.val (scr ns), .val (.int k), .emp, .emp, .emp, .emp, .emp, .emp] := rfl
  generalize scr ns = s at *
  have lim2 : (2 : Nat) ≤ LIM := by decide
  have c1' : ∃ base1 : List Int, base1.length ≤ 30 ∧ (sIf (toT (e2 ltD (e2 modD (eVar 2) (eC (.int 8))) (eC (.int 2)))) (sSet 5 (eL (l2 addL (eVar 5) (eL (eS slL (eL (eCall 2 f_free (aCons (e2 divD (eVar 2) (eC (.int 8))) (aCons (eVar 4) (aNil))))) (oNo) (oSo (e2 addD (eC (.int 1)) (e2 modD (eVar 2) (eC (.int 8)))))))))) (sNx)) [.val s, .val (.int k), .val (.int b), .val (.list (ts.map encT)), .val (.int ts.length), .val (.list (ev.map .int)), .emp, .emp] = .nx [.val s, .val (.int k), .val (.int b), .val (.list (ts.map encT)), .val (.int ts.length), .val (.list (base1.map .int)), .emp, .emp] := by
    by_cases c : b % 8 < 2
    · obtain ⟨fr, hf1, hf2⟩ := v_free (b / 8) ts.length (by omega)
      obtain ⟨ys, y1, y2, _⟩ := cut_map PyData.int fr none (some (1 + b % 8))
      refine ⟨ev ++ ys, by rw [List.length_append]; omega, ?_⟩
      rw [if_t (by simp [m8, c])]
      have ha : addL (.list (ev.map .int)) (.list (ys.map .int)) = some (ev.map .int ++ ys.map .int) := add_list (by simp; unfold LIM; omega)
      simp [d8, m8, hf1, y1, ha]
    · exact ⟨ev, by omega, by rw [if_f (by simp [m8, c])]; rfl⟩
  obtain ⟨base1, hb1, st1⟩ := c1'
  have c2' : ∃ (many : Nat) (base2 : List Int), many ≤ 12 ∧ base2.length ≤ 30 ∧ (sIf (toT (e2 eqD (e2 modD (eVar 2) (eC (.int 8))) (eC (.int 2)))) (sSeq (sSet 4 (e2 addD (eC (.int 1)) (e2 modD (e2 divD (eVar 2) (eC (.int 8))) (eC (.int 12))))) (sSet 5 (eL (eCall 2 f_free (aCons (e2 divD (eVar 2) (eC (.int 96))) (aCons (eVar 4) (aNil))))))) (sNx)) [.val s, .val (.int k), .val (.int b), .val (.list (ts.map encT)), .val (.int ts.length), .val (.list (base1.map .int)), .emp, .emp] = .nx [.val s, .val (.int k), .val (.int b), .val (.list (ts.map encT)), .val (.int many), .val (.list (base2.map .int)), .emp, .emp] := by
    by_cases c : b % 8 = 2
    · obtain ⟨n, hn, hn2⟩ : ∃ n : Nat, 1 + b / 8 % 12 = n ∧ n ≤ 12 := ⟨(1 + b / 8 % 12).toNat, by omega, by omega⟩
      obtain ⟨fr, hf1, hf2⟩ := v_free (b / 96) n (by omega)
      refine ⟨n, fr, hn2, by omega, ?_⟩
      rw [if_t (by simp [m8, c]), seq_nx (ρ' := [.val s, .val (.int k), .val (.int b), .val (.list (ts.map encT)), .val (.int n), .val (.list (base1.map .int)), .emp, .emp]) (by simp [d8, m12, hn])]
      simp [d96, hf1]
    · exact ⟨ts.length, base1, ht2, hb1, by rw [if_f (by simp [m8, c])]; rfl⟩
  obtain ⟨many2, base2, hm2, hb2, st2⟩ := c2'
  have c3' : ∃ (many : Nat) (base3 : List Int) (o : Option D), many ≤ 12 ∧ base3.length ≤ 60 ∧ (sIf (toT (e2 gtD (e2 modD (eVar 2) (eC (.int 8))) (eC (.int 4)))) (sSeq (sAsg (tTupT 2 (tsCons (tName 4) (tsCons (tName 5) (tsNil)))) (eCall 1 f_small (aCons (e2 modD (e2 divD (eVar 2) (eC (.int 8))) (eC (.int 4))) (aNil)))) (sSeq (sSet 6 (eB (c2 minI) (aCons (eC (.int 12)) (aCons (e2 addD (eVar 4) (e2 modD (e2 divD (eVar 2) (eC (.int 32))) (eC (.int 4)))) (aNil))))) (sSeq (sSet 5 (eCall 4 f_with_more (aCons (eVar 5) (aCons (eVar 4) (aCons (e2 divD (eVar 2) (eC (.int 128))) (aCons (eVar 6) (aNil))))))) (sSet 4 (eVar 6))))) (sNx)) [.val s, .val (.int k), .val (.int b), .val (.list (ts.map encT)), .val (.int many2), .val (.list (base2.map .int)), .emp, .emp] = .nx [.val s, .val (.int k), .val (.int b), .val (.list (ts.map encT)), .val (.int many), .val (.list (base3.map .int)), ov o, .emp] := by
    by_cases c : 4 < b % 8
    · obtain ⟨sm, xs, g1, g2, g3, g4⟩ := v_small (b / 8)
      obtain ⟨mo, hmo, hmo2⟩ : ∃ mo : Nat, (if (sm : Int) + b / 32 % 4 < 12 then (sm : Int) + b / 32 % 4 else 12) = (mo : Int) ∧ mo ≤ 12 := ⟨((if (sm : Int) + b / 32 % 4 < 12 then (sm : Int) + b / 32 % 4 else 12)).toNat, by split <;> omega, by split <;> omega⟩
      obtain ⟨base', w1, w2⟩ := v_with_more xs sm g2 (by omega) (by omega) (b / 128) mo (by omega)
      refine ⟨mo, base', some (.int mo), hmo2, by omega, ?_⟩
      rw [if_t (by simp [m8, c]), seq_nx (ρ' := [.val s, .val (.int k), .val (.int b), .val (.list (ts.map encT)), .val (.int sm), .val (.list (xs.map .int)), .emp, .emp]) (by simp [d8, m4', g1]), seq_nx (ρ' := [.val s, .val (.int k), .val (.int b), .val (.list (ts.map encT)), .val (.int sm), .val (.list (xs.map .int)), .val (.int mo), .emp])]
      · simp [d128, w1, ov_v]
      · have hmi : minI (.int 12) (.int ((sm : Int) + b / 32 % 4)) = some (.int mo) := by
          show some (PyData.int (if (sm : Int) + b / 32 % 4 < 12 then (sm : Int) + b / 32 % 4 else 12)) = _
          rw [hmo]
        simp [d32, m4', hmi]
    · exact ⟨many2, base2, none, hm2, by omega, by rw [if_f (by simp [m8, c])]; rfl⟩
  obtain ⟨many3, base3, o, hm3, hb3, st3⟩ := c3'
  have q3 := v__law_reduced base3 (by unfold LIM; omega)
  obtain ⟨m, ρ', ⟨base', k', e1, e2, e3, rfl⟩, hc, hl⟩ := loopW_inv (c := (toT (e2 gtD (e2 subD (eVar 4) (eB (c1 lenD) (aCons (eVar 5) (aNil)))) (eC (.int 8))))) (fb := shB) (fun n ρ => ∃ (base' : List Int) (k' : Nat), n = k' ∧ k' ≤ 12 ∧ base'.length ≤ 8 ∧ ρ = [.val s, .val (.int k), .val (.int b), .val (.list (ts.map encT)), .val (.int k'), .val (.list (base'.map .int)), ov o, .emp]) (fun n ρ hρ => by
    obtain ⟨base', k', e1, e2, e3, rfl⟩ := hρ
    by_cases hk : 8 < (k' : Int) - (base'.length : Int)
    · right
      obtain ⟨b2, q1, q2⟩ := sh_body s (.int k) (.int b) (.list (ts.map encT)) k' (by omega) (by omega) base' (by omega) o
      refine ⟨by simp [hk], k' - 1, by omega, _, ⟨b2, k' - 1, rfl, by omega, by omega, rfl⟩, q2⟩
    · left
      simp [hk]) 1000 many3 [.val s, .val (.int k), .val (.int b), .val (.list (ts.map encT)), .val (.int many3), .val (.list (((redL base3).take 8).map .int)), ov o, .emp] ⟨(redL base3).take 8, many3, rfl, hm3, by rw [List.length_take]; omega, rfl⟩ (by omega)
  refine ⟨k', base', runD_rt ?_, e2, e3⟩
  unfold m__law_steps_of
  rw [hs0, seq_nx (ρ' := [.val s, .val (.int k), .val (.int b), .emp, .emp, .emp, .emp, .emp]) (by simp [hb]), seq_nx (ρ' := [.val s, .val (.int k), .val (.int b), .val (.list (ts.map encT)), .emp, .emp, .emp, .emp]) (by simp [ht1]), seq_nx (ρ' := [.val s, .val (.int k), .val (.int b), .val (.list (ts.map encT)), .val (.int ts.length), .val (.list (ev.map .int)), .emp, .emp]) (by simp [he1, lim2]), seq_nx st1, seq_nx st2, seq_nx st3, seq_nx (ρ' := [.val s, .val (.int k), .val (.int b), .val (.list (ts.map encT)), .val (.int many3), .val (.list (((redL base3).take 8).map .int)), ov o, .emp])]
  · refine (seq_nx hl).trans ?_
    simp [lim2]
  · have := cut_take PyData.int (redL base3) 8
    have : cutD ((redL base3).map .int) none (some 8) = ((redL base3).take 8).map .int := this
    simp [q3, this]
end K73

set_option Elab.async false
set_option linter.all false
set_option maxRecDepth 100000
set_option maxHeartbeats 0
/-! K73p3: the table that is drawn. -/
namespace K73
open PySem PySem.Spec Mp
open L2 (atI)
def rowZ (names : List Str) (z : Int) : List Str := ((names.zipIdx 0).filter fun p => decide (Builtin.bitAnd (z / 2 ^ p.2) 1 = 1)).map (·.1)
theorem zip_fst {α : Type} : ∀ (xs : List α) (k : Nat), (xs.zipIdx k).map (·.1) = xs
  | [], _ => rfl
  | x :: xs, k => by rw [List.zipIdx_cons, List.map_cons, zip_fst xs (k + 1)]
theorem rowZ_sub (names : List Str) (z : Int) : (rowZ names z).Sublist names := by
  have h : (((names.zipIdx 0).filter fun p => decide (Builtin.bitAnd (z / 2 ^ p.2) 1 = 1)).map (·.1)).Sublist ((names.zipIdx 0).map (·.1)) := List.filter_sublist.map _
  rw [zip_fst] at h
  exact h
theorem v_row (names : List Str) (z : Int) (h : names.length ≤ LIM) : f_row [.list (names.map .str), .int z] = .ok ((rowZ names z).map .str) := by
  have hs0 : startS 4 [PyData.list (names.map .str), .int z] = [.val (.list (names.map .str)), .val (.int z), .emp, .emp] := rfl
  refine runL_rl ?_
  unfold m_row
  rw [hs0, sRetL_ap, lLc_filterT (enc := fun p : Str × Nat => PyData.tuple [.int (p.2 : Nat), .str p.1]) (xs := names.zipIdx 0) (p := fun p => decide (Builtin.bitAnd (z / 2 ^ p.2) 1 = 1)) (g := fun p => PyData.str p.1)]
  · rw [lift_ok]; unfold rowZ; rw [List.map_map]; rfl
  · simp [enums_map]
  · intro p _
    have s1 : shrD (.int z) (.int (p.2 : Nat)) = some (.int (z / 2 ^ p.2)) := shr_n z p.2
    by_cases c : Builtin.bitAnd (z / 2 ^ p.2) 1 = 1 <;> simp [s1, c]
  · rw [List.length_zipIdx]; exact h
theorem sortD_strs (xs : List Str) (h : xs.length ≤ LIM) : ∃ ys : List Str, sortD (.list (xs.map .str)) = some (ys.map .str) ∧ ys.Perm xs := by
  obtain ⟨ys, e, p⟩ := srt_strs xs
  refine ⟨ys, ?_, p⟩
  unfold sortD
  dsimp only
  rw [if_pos (sorted_str xs h), e]
theorem m2' (z : Int) : modD (.int z) (.int 2) = some (.int (z % 2)) := mod_int (by omega)
theorem m9 (z : Int) : modD (.int z) (.int 9) = some (.int (z % 9)) := mod_int (by omega)
theorem d9 (z : Int) : divD (.int z) (.int 9) = some (.int (z / 9)) := divR z (by omega) (by omega)
theorem d2 (z : Int) : divD (.int z) (.int 2) = some (.int (z / 2)) := divR z (by omega) (by omega)
def mixB : Mp.Env → SR := sSeq (sSet 8 (e2 xorD (eVar 8) (e2 mulD (eVar 9) (e2 modD (e2 divD (eVar 6) (eC (.int 9))) (eC (.int 2)))))) (sSet 6 (e2 divD (eVar 6) (eC (.int 2))))
theorem mix_loop (s a m base names rows : D) (xs : List Int) (own : List D) (b k : Int) (o : Option D) : ∃ (b' mix : Int) (o' : Option D), loopS (bodyH (tName 9) mixB) (xs.map .int) [.val s, .val a, .val m, .val base, .val names, .own own, .val (.int b), .val (.int k), .val (.int 0), ov o] = .nx [.val s, .val a, .val m, .val base, .val names, .own own, .val (.int b'), .val (.int k), .val (.int mix), ov o'] := by
  obtain ⟨ρ', ⟨b', mix, o', rfl⟩, h⟩ := loopS_inv (enc := PyData.int) (xs := xs) (fun pre ρ => ∃ (b' mix : Int) (o' : Option D), ρ = [.val s, .val a, .val m, .val base, .val names, .own own, .val (.int b'), .val (.int k), .val (.int mix), ov o']) (h := bodyH (tName 9) mixB) (fun pre i post e ρ hρ => by
    obtain ⟨b', mix, o', rfl⟩ := hρ
    have mu : mulD (.int i) (.int (b' / 9 % 2)) = some (.int (i * (b' / 9 % 2))) := mulR i (by omega) (by omega)
    refine ⟨_, ⟨b' / 2, Builtin.bitXor mix (i * (b' / 9 % 2)), some (.int i), rfl⟩, .inl ?_⟩
    unfold mixB
    simp [d9, m2', d2, mu, ov_v]) (ρ := [.val s, .val a, .val m, .val base, .val names, .own own, .val (.int b), .val (.int k), .val (.int 0), ov o]) ⟨b, 0, o, rfl⟩
  exact ⟨b', mix, o', h⟩
theorem insD_map {α : Type} (f : α → D) (xs : List α) (i : Nat) (x : α) : insD (xs.map f) i (f x) = (xs.take i ++ [x] ++ xs.drop i).map f := by
  unfold insD
  simp
theorem v_table (ns : List Int) (k : Nat) : ∃ (names : List Str) (rows : List (List Str)), f_table [scr ns, .int k] = .ok (.tuple [encR names, .list (rows.map encR)]) ∧ names.length ≤ 12 ∧ (∀ x ∈ names, isNm x = true) ∧ rows.length ≤ 16 ∧ ∀ r ∈ rows, r.Sublist names := by
  obtain ⟨many, base, hs1, hs2, hs3⟩ := v__law_steps_of ns k
  obtain ⟨b4, hb4⟩ := v_big ns (k + 4)
  obtain ⟨b5, hb5⟩ := v_big ns (k + 5)
  rw [show ((k + 4 : Nat) : Int) = (k : Int) + 4 from rfl] at hb4
  rw [show ((k + 5 : Nat) : Int) = (k : Int) + 5 from rfl] at hb5
  obtain ⟨xs, hx1, hx2, hx3⟩ := v_names b4 many (by omega)
  obtain ⟨names, hn1, hn2⟩ := sortD_strs xs (by unfold LIM; omega)
  have hs0 : startS 10 [scr ns, PyData.int k] = [.val (scr ns), .val (.int k), .emp, .emp, .emp, .emp, .emp, .emp, .emp, .emp] := rfl
  generalize scr ns = s at *
  have hnl : names.length = many := by rw [hn2.length_eq, hx2]
  have lim2 : (2 : Nat) ≤ LIM := by decide
  obtain ⟨n, hn, hn8⟩ : ∃ n : Nat, b5 % 9 = n ∧ n ≤ 8 := ⟨(b5 % 9).toNat, by omega, by omega⟩
  obtain ⟨ρ', ⟨b', ys, a7, a8, a9, hy, rfl⟩, hloop⟩ := loopS_inv (enc := fun i : Nat => PyData.int ((i : Nat) : Int)) (xs := List.range n) (fun pre ρ => ∃ (b' : Int) (ys : List Int) (a7 a8 a9 : Option D), ys.length = base.length + pre.length ∧ ρ = [.val s, .val (.int k), .val (.int many), .val (.list (base.map .int)), .val (.list (names.map .str)), .own (ys.map .int), .val (.int b'), ov a7, ov a8, ov a9]) (h := bodyH (tName 7) (sSeq (sSet 8 (eC (.int 0))) (sSeq (sFor (iL (eL (eS slL (bVar 5) (oNo) (oSo (eB (c1 lenD) (aCons (eVar 3) (aNil))))))) (tName 9) mixB) (sIns 5 (e2 modD (e2 divD (eVar 6) (eC (.int 9))) (e2 addD (eB (c1 lenD) (aCons (bVar 5) (aNil))) (eC (.int 1)))) (eVar 8))))) (fun pre i post e ρ hρ => by
    obtain ⟨b', ys, a7, a8, a9, hy, rfl⟩ := hρ
    have hpl : pre.length < n := by
      have := congrArg List.length e
      simp at this
      omega
    have hlt : ys.length < LIM := by unfold LIM; omega
    have hct := cut_take PyData.int ys base.length
    obtain ⟨b2, mix, o2, hm⟩ := mix_loop s (.int k) (.int many) (.list (base.map .int)) (.list (names.map .str)) .none (ys.take base.length) (ys.map .int) b' i a9
    obtain ⟨p, hp, hp2⟩ := m_sp (b2 / 9) (s := ys.length + 1) (by omega)
    rw [show ((ys.length + 1 : Nat) : Int) = (ys.length : Int) + 1 from rfl] at hp
    refine ⟨_, ⟨b2, ys.take p ++ [mix] ++ ys.drop p, some (.int i), some (.int mix), o2, ?_, rfl⟩, .inl ?_⟩
    · simp; omega
    · rw [bodyH_ap]
      simp only [tName_ap, List.getElem?_cons_succ, List.getElem?_cons_zero, canPut_ov, if_true, List.set_cons_succ, List.set_cons_zero]
      rw [seq_nx (ρ' := [.val s, .val (.int k), .val (.int many), .val (.list (base.map .int)), .val (.list (names.map .str)), .own (ys.map .int), .val (.int b'), .val (.int i), .val (.int 0), ov a9]) (by simp), seq_nx (ρ' := [.val s, .val (.int k), .val (.int many), .val (.list (base.map .int)), .val (.list (names.map .str)), .own (ys.map .int), .val (.int b2), .val (.int i), .val (.int mix), ov o2])]
      · have pr : (p : Int) < 4611686018427387904 := by omega
        simp only [sIns_ap, List.getElem?_cons_succ, List.getElem?_cons_zero, e2_ap, eVar_ap, eC_ap, bind_ok, d9, ofO_some, eB_ap, aCons_ap, aNil_ap, bVar_ap, c1_ap, len_list, List.length_map, add_int, hp, lift_ok]
        rw [if_pos ⟨hlt, by omega, by simpa using pr⟩, Int.toNat_natCast, insD_map]
        rfl
      · rw [sFor_ap, ← hm]
        simp [hct]) (ρ := [.val s, .val (.int k), .val (.int many), .val (.list (base.map .int)), .val (.list (names.map .str)), .own (base.map .int), .val (.int b5), .emp, .emp, .emp]) ⟨b5, base, none, none, none, rfl, rfl⟩
  rw [List.length_range] at hy
  refine ⟨names, (ys.take 16).map (rowZ names), runD_rt ?_, by omega, fun x hx => hx3 x (hn2.mem_iff.mp hx), by rw [List.length_map, List.length_take]; omega, fun r hr => ?_⟩
  · unfold m_table
    rw [hs0, seq_nx (ρ' := [.val s, .val (.int k), .val (.int many), .val (.list (base.map .int)), .emp, .emp, .emp, .emp, .emp, .emp]) (by simp [hs1]), seq_nx (ρ' := [.val s, .val (.int k), .val (.int many), .val (.list (base.map .int)), .val (.list (names.map .str)), .emp, .emp, .emp, .emp, .emp]) (by simp [hb4, hx1, hn1]), seq_nx (ρ' := [.val s, .val (.int k), .val (.int many), .val (.list (base.map .int)), .val (.list (names.map .str)), .own (base.map .int), .emp, .emp, .emp, .emp]) (by simp [listD, seqOf]), seq_nx (ρ' := [.val s, .val (.int k), .val (.int many), .val (.list (base.map .int)), .val (.list (names.map .str)), .own (base.map .int), .val (.int b5), .emp, .emp, .emp]) (by simp [hb5]), seq_nx (ρ' := [.val s, .val (.int k), .val (.int many), .val (.list (base.map .int)), .val (.list (names.map .str)), .own (ys.map .int), .val (.int b'), ov a7, ov a8, ov a9])]
    · have q1 : (lLc [9] (tName 9) (tYesE) (eL (eCall 2 f_row (aCons (eVar 4) (aCons (eVar 9) (aNil))))) (iL (eL (eS slL (bVar 5) (oNo) (oSo (eC (.int 16))))))) [.val s, .val (.int k), .val (.int many), .val (.list (base.map .int)), .val (.list (names.map .str)), .own (ys.map .int), .val (.int b'), ov a7, ov a8, ov a9] = .ok ((ys.take 16).map fun z => encR (rowZ names z)) :=
        lLc_mapT (enc := PyData.int) (by
          have := cut_take PyData.int ys 16
          have : cutD (ys.map .int) none (some 16) = (ys.take 16).map .int := this
          simp [this]) (fun z _ => by
          have := v_row names z (by unfold LIM; omega)
          simp [this, encR]) (by rw [List.length_take]; unfold LIM; omega)
      simp only [sRet_ap, eTup_ap, aCons_ap, aNil_ap, eL_ap, q1, eVar_ap, List.getElem?_cons_succ, List.getElem?_cons_zero, bind_ok, map_ok, List.map_map]
      rfl
    · have hr : (iR1 (aCons (e2 modD (eVar 6) (eC (.int 9))) (aNil))) [.val s, .val (.int k), .val (.int many), .val (.list (base.map .int)), .val (.list (names.map .str)), .own (base.map .int), .val (.int b5), .emp, .emp, .emp] = .ok ((List.range n).map fun i : Nat => PyData.int ((i : Nat) : Int)) :=
        iR1_nat (by simp [m9, hn]) (by omega)
      rw [sFor_ap, hr, lift_ok]
      exact hloop
  · obtain ⟨z, _, rfl⟩ := List.mem_map.mp hr
    exact rowZ_sub names z
end K73

set_option Elab.async false
set_option linter.all false
set_option maxRecDepth 100000
set_option maxHeartbeats 0
/-! K73p4: texts bent. -/
namespace K73
open PySem PySem.Spec Mp
open L2 (atI)
def SB : Str := "ab1z -/,-  A.:_0"
theorem sb_idx (j : Int) (h0 : 0 ≤ j) (h1 : j < 16) : ∃ c, idxD (.str SB) (.int j) = some (.str (txt [c])) ∧ c ∈ SB.cps.toList := by
  obtain ⟨n, rfl⟩ : ∃ n : Nat, j = n := ⟨j.toNat, by omega⟩
  have hn : n < SB.cps.toList.length := by
    have : SB.cps.toList.length = 16 := by decide +kernel
    omega
  refine ⟨SB.cps.toList[n], ?_, List.getElem_mem hn⟩
  have hl : SB.length ≤ LIM := by decide +kernel
  show (if SB.length ≤ LIM then (atI SB.cps.toList (n : Int)).map fun c => PyData.str ⟨#[c]⟩ else none) = _
  rw [if_pos hl, Mp.atI_nat, List.getElem?_eq_getElem hn]
  rfl
theorem txt_eta (t : Str) : txt t.cps.toList = t := by
  show (⟨t.cps.toList.toArray⟩ : Str) = t
  simp
theorem txt_length (t : Str) : t.cps.toList.length = t.length := by
  show _ = t.cps.size
  simp
theorem cut_tl' (l : List Nat) (k : Nat) : L2.cutS (txt l) (some (k : Int)) none = txt (l.drop k) := by
  unfold L2.cutS
  rw [HT.sIx_nat, HT.sIx_none, txt_len, txt_cps]
  have : (l.drop (min k l.length)).take (l.length - min k l.length) = l.drop k := by
    by_cases h : k ≤ l.length
    · rw [Nat.min_eq_left h]
      exact List.take_of_length_le (by simp)
    · rw [Nat.min_eq_right (by omega), List.drop_of_length_le (by omega), List.drop_of_length_le (by omega)]
      simp
  rw [this]; rfl
theorem cut_hd' (l : List Nat) (k : Nat) : L2.cutS (txt l) none (some (k : Int)) = txt (l.take k) := by
  by_cases h : k ≤ l.length
  · exact cut_hd l k h
  · unfold L2.cutS
    rw [HT.sIx_nat, HT.sIx_none, txt_len, txt_cps, Nat.min_eq_right (by omega)]
    have : l.take k = l := List.take_of_length_le (by omega)
    simp [this, txt]
theorem slS_hd {l : List Nat} (h : l.length ≤ LIM) (k : Nat) : slS (.str (txt l)) none (some (k : Int)) = some (.str (txt (l.take k))) := by
  unfold slS
  dsimp only
  rw [if_pos (by rw [txt_len]; exact h), cut_hd']
theorem slS_tl {l : List Nat} (h : l.length ≤ LIM) (k : Nat) : slS (.str (txt l)) (some (k : Int)) none = some (.str (txt (l.drop k))) := by
  unfold slS
  dsimp only
  rw [if_pos (by rw [txt_len]; exact h), cut_tl']
theorem mul_one' (c : Nat) : mulD (.str (txt [c])) (.int 1) = some (.str (txt [c])) := by
  show (if mulOk (txt [c]) 1 then some (PyData.str (Txt.mul (txt [c]) 1)) else none) = _
  rw [if_pos ⟨by omega, by omega, by rw [txt_len]; simp⟩]
  rfl
theorem mul_no (c : Nat) : mulD (.str (txt [c])) (.int 0) = some (.str (txt [])) := by
  show (if mulOk (txt [c]) 0 then some (PyData.str (Txt.mul (txt [c]) 0)) else none) = _
  rw [if_pos ⟨by omega, by omega, by rw [txt_len]; simp⟩]
  rfl
theorem m3 (z : Int) : modD (.int z) (.int 3) = some (.int (z % 3)) := mod_int (by omega)
theorem d3 (z : Int) : divD (.int z) (.int 3) = some (.int (z / 3)) := divR z (by omega) (by omega)
theorem m16 (z : Int) : modD (.int z) (.int 16) = some (.int (z % 16)) := mod_int (by omega)
theorem d1024 (z : Int) : divD (.int z) (.int 1024) = some (.int (z / 1024)) := divR z (by omega) (by omega)
theorem d16384 (z : Int) : divD (.int z) (.int 16384) = some (.int (z / 16384)) := divR z (by omega) (by omega)
theorem d49152 (z : Int) : divD (.int z) (.int 49152) = some (.int (z / 49152)) := divR z (by omega) (by omega)
theorem v_bent (t : Str) (h : t.length ≤ 5000) (big : Int) : ∃ t' : Str, f_bent [.str t, .int big] = .ok (.str t') ∧ t'.length ≤ t.length + 2 := by
  have hs0 : startS 7 [PyData.str t, .int big] = [.val (.str t), .val (.int big), .emp, .emp, .emp, .emp, .emp] := rfl
  obtain ⟨n, hn, hn2⟩ : ∃ n : Nat, big % 3 = n ∧ n ≤ 2 := ⟨(big % 3).toNat, by omega, by omega⟩
  obtain ⟨l, rfl⟩ : ∃ l, t = txt l := ⟨_, (txt_eta t).symm⟩
  rw [txt_len] at h
  obtain ⟨ρ', ⟨b', l', a3, a4, a5, a6, hl, rfl⟩, hloop⟩ := loopS_inv (enc := fun i : Nat => PyData.int ((i : Nat) : Int)) (xs := List.range n) (fun pre ρ => ∃ (b' : Int) (l' : List Nat) (a3 a4 a5 a6 : Option D), l'.length ≤ l.length + pre.length ∧ ρ = [.val (.str (txt l')), .val (.int b'), .val (.str SB), ov a3, ov a4, ov a5, ov a6]) (h := bodyH (tName 3) (sSeq (sSet 1 (e2 divD (eVar 1) (eC (.int 3)))) (sSeq (sSet 4 (e2 modD (eVar 1) (e2 addD (eB (c1 lenD) (aCons (eVar 0) (aNil))) (eC (.int 1))))) (sSeq (sSet 5 (e2 idxD (eVar 2) (e2 modD (e2 divD (eVar 1) (eC (.int 1024))) (eC (.int 16))))) (sSeq (sSet 6 (e2 modD (e2 divD (eVar 1) (eC (.int 16384))) (eC (.int 3)))) (sSeq (sSet 0 (e2 addD (e2 addD (eS slS (eVar 0) (oNo) (oSo (eVar 4))) (e2 mulD (eVar 5) (eB (c1 intD) (aCons (e2 ltD (eVar 6) (eC (.int 2))) (aNil))))) (eS slS (eVar 0) (oSo (e2 addD (eVar 4) (eB (c1 intD) (aCons (e2 gtD (eVar 6) (eC (.int 0))) (aNil))))) (oNo)))) (sSet 1 (e2 divD (eVar 1) (eC (.int 49152)))))))))) (fun pre i post e ρ hρ => by
    obtain ⟨b', l', a3, a4, a5, a6, hl, rfl⟩ := hρ
    have hpl : pre.length < n := by
      have := congrArg List.length e
      simp at this
      omega
    have hL : l'.length ≤ LIM := by unfold LIM; omega
    obtain ⟨p, hp, hp2⟩ := m_sp (b' / 3) (s := l'.length + 1) (by omega)
    rw [show ((l'.length + 1 : Nat) : Int) = (l'.length : Int) + 1 from rfl] at hp
    obtain ⟨c, hc, _⟩ := sb_idx (b' / 3 / 1024 % 16) (by omega) (by omega)
    have hlen : lenD (.str (txt l')) = some (.int l'.length) := by rw [len_str (by rw [txt_len]; exact hL), txt_len]
    have s1 := slS_hd hL p
    have s2 := slS_tl hL p
    have s3 := slS_tl hL (p + 1)
    rw [show ((p + 1 : Nat) : Int) = (p : Int) + 1 from rfl] at s3
    have wv : b' / 3 / 16384 % 3 = 0 ∨ b' / 3 / 16384 % 3 = 1 ∨ b' / 3 / 16384 % 3 = 2 := by omega
    rcases wv with w | w | w
    · refine ⟨_, ⟨b' / 3 / 49152, l'.take p ++ [c] ++ l'.drop p, some (.int i), some (.int p), some (.str (txt [c])), some (.int 0), by simp; omega, rfl⟩, .inl ?_⟩
      have a1 := add_txt (l := l'.take p) (m := [c]) (by simp; unfold LIM; omega)
      have a2 := add_txt (l := l'.take p ++ [c]) (m := l'.drop p) (by simp; unfold LIM; omega)
      simp only [List.append_assoc] at a2
      simp [d3, hlen, hp, d1024, m16, hc, d16384, m3, w, s1, s2, s3, mul_one', mul_no, intD, a1, a2, d49152, ov_v]
    · refine ⟨_, ⟨b' / 3 / 49152, l'.take p ++ [c] ++ l'.drop (p + 1), some (.int i), some (.int p), some (.str (txt [c])), some (.int 1), by simp; omega, rfl⟩, .inl ?_⟩
      have a1 := add_txt (l := l'.take p) (m := [c]) (by simp; unfold LIM; omega)
      have a2 := add_txt (l := l'.take p ++ [c]) (m := l'.drop (p + 1)) (by simp; unfold LIM; omega)
      simp only [List.append_assoc] at a2
      simp [d3, hlen, hp, d1024, m16, hc, d16384, m3, w, s1, s2, s3, mul_one', mul_no, intD, a1, a2, d49152, ov_v]
    · refine ⟨_, ⟨b' / 3 / 49152, l'.take p ++ [] ++ l'.drop (p + 1), some (.int i), some (.int p), some (.str (txt [c])), some (.int 2), by simp; omega, rfl⟩, .inl ?_⟩
      have a1 := add_txt (l := l'.take p) (m := []) (by simp; unfold LIM; omega)
      have a2 := add_txt (l := l'.take p) (m := l'.drop (p + 1)) (by simp; unfold LIM; omega)
      simp only [List.append_nil] at a1
      simp [d3, hlen, hp, d1024, m16, hc, d16384, m3, w, s1, s2, s3, mul_one', mul_no, intD, a1, a2, d49152, ov_v]) (ρ := [.val (.str (txt l)), .val (.int big), .val (.str SB), .emp, .emp, .emp, .emp]) ⟨big, l, none, none, none, none, by omega, rfl⟩
  rw [List.length_range] at hl
  refine ⟨txt l', runD_rt ?_, by rw [txt_len, txt_len]; omega⟩
  unfold m_bent
  rw [hs0, seq_nx (ρ' := [.val (.str (txt l)), .val (.int big), .val (.str SB), .emp, .emp, .emp, .emp]) (by simp [SB]), seq_nx (ρ' := [.val (.str (txt l')), .val (.int b'), .val (.str SB), ov a3, ov a4, ov a5, ov a6])]
  · simp
  · have hr : (iR1 (aCons (e2 modD (eVar 1) (eC (.int 3))) (aNil))) [.val (.str (txt l)), .val (.int big), .val (.str SB), .emp, .emp, .emp, .emp] = .ok ((List.range n).map fun i : Nat => PyData.int ((i : Nat) : Int)) :=
      iR1_nat (by simp [m3, hn]) (by omega)
    rw [sFor_ap, hr, lift_ok]
    exact hloop
end K73

set_option Elab.async false
set_option linter.all false
set_option maxRecDepth 100000
set_option maxHeartbeats 0
/-! K73p: the law. -/
namespace K73
open PySem PySem.Spec Mp
open L2 (atI)
def tame (d : D) : Prop := d.plain = true ∧ d.depth ≤ 60
theorem ne_self {d : D} (h : tame d) : neD d d = some (.bool false) := by
  rw [ne_of h.1 h.1 (by have := h.2; omega), PySem.SeqAt.eqv_refl_plain d h.1]
  rfl
theorem plainAll_map {α : Type} {f : α → D} (h : ∀ x, (f x).plain = true) : ∀ xs : List α, PyData.plainAll (xs.map f) = true
  | [] => rfl
  | x :: xs => by simp [PyData.plainAll, h x, plainAll_map h xs]
theorem depthAll_map {α : Type} {f : α → D} {n : Nat} (h : ∀ x, (f x).depth ≤ n) : ∀ xs : List α, PyData.depthAll (xs.map f) ≤ n
  | [] => Nat.zero_le _
  | x :: xs => by
    have h1 := h x
    have h2 := depthAll_map h xs
    simp only [List.map_cons, PyData.depthAll]
    omega
theorem tame_str (x : Str) : tame (.str x) := ⟨rfl, by simp [PyData.depth]⟩
theorem encR_plain (r : List Str) : (encR r).plain = true := by
  unfold encR
  simp [PyData.plain, plain_strs]
theorem encR_depth (r : List Str) : (encR r).depth ≤ 2 := by
  unfold encR
  have := depth_strs r
  simp only [PyData.depth]
  omega
theorem encT_plain (t : Tie) : (encT t).plain = true := by simp [encT, PyData.plain, PyData.plainAll]
theorem encT_depth (t : Tie) : (encT t).depth ≤ 2 := by simp [encT, PyData.depth, PyData.depthAll]
theorem tame_tab (t : Str) : tame (dueOf (tabD t)) := by
  unfold tabD
  split
  · exact tame_str _
  · split
    · split
      · rename_i rs _ _ _
        have h1 := encR_plain (rs.headD [])
        have h2 := plainAll_map encR_plain rs.tail
        have h3 := encR_depth (rs.headD [])
        have h4 := depthAll_map encR_depth rs.tail
        refine ⟨?_, ?_⟩
        · simp only [dueOf, PyData.plain, PyData.plainAll, h1, h2, Bool.and_true]
        · simp only [dueOf, PyData.depth, PyData.depthAll]; omega
      · exact tame_str _
    · exact tame_str _
theorem tame_net (t : Str) : tame (dueOf (netD t)) := by
  unfold netD
  split
  · exact ⟨rfl, by simp [dueOf, PyData.depth, PyData.depthAll]⟩
  · split
    · exact tame_str _
    · split
      · split
        · rename_i ns _ _ _
          have h2 := plainAll_map encT_plain ns
          have h4 := depthAll_map encT_depth ns
          refine ⟨?_, ?_⟩
          · simp [dueOf, PyData.plain, h2]
          · simp only [dueOf, PyData.depth]; omega
        · exact tame_str _
      · exact tame_str _
theorem eq_strs (xs ys : List Str) : eqD (.list (xs.map .str)) (.list (ys.map .str)) = some (.bool (decide (xs = ys))) := by
  have h1 := plain_strs xs
  have h2 := plain_strs ys
  have h3 := depth_strs xs
  rw [eq_of (by simpa [PyData.plain] using h1) (by simpa [PyData.plain] using h2) (by simp only [PyData.depth]; omega)]
  show some (PyData.bool (PyData.eqvAll (xs.map .str) (ys.map .str))) = _
  rw [eqvAll_strs]
def wr (r : List Str) : Str := if r = [] then "-" else Txt.join " " r
theorem join_len (sep : Str) (ys : List Str) : (Txt.join sep ys).length ≤ (ys.map (·.length)).sum + ys.length * sep.length := by
  show (Builtin.Str.glued sep ys).length ≤ _
  rw [StrLaws.glued_eq_join]
  exact StrLaws.join_length_le sep ys
theorem sum_le {ys : List Str} {n : Nat} (h : ∀ y ∈ ys, y.length ≤ n) : (ys.map (·.length)).sum ≤ ys.length * n := by
  induction ys with
  | nil => simp
  | cons y ys ih =>
    have h1 := h y List.mem_cons_self
    have h2 := ih fun z hz => h z (List.mem_cons_of_mem _ hz)
    rw [List.map_cons, List.sum_cons, List.length_cons, Nat.succ_mul]
    omega
theorem wr_len {r : List Str} (h1 : r.length ≤ 12) (h2 : ∀ x ∈ r, isNm x = true) : (wr r).length ≤ 84 := by
  unfold wr
  split
  · decide
  · have a := join_len " " r
    have b := sum_le (n := 6) fun x hx => (nm_ok (h2 x hx)).2.1
    have c : (" " : Str).length = 1 := rfl
    rw [c] at a
    omega
theorem v_written (r : List Str) (h1 : r.length ≤ 12) (h2 : ∀ x ∈ r, isNm x = true) : f_written [encR r] = .ok (.str (wr r)) := by
  have hs0 : startS 1 [encR r] = [.val (encR r)] := rfl
  have he : eqD (encR r) (.list []) = some (.bool (decide (r = []))) := eq_strs r []
  have b := sum_le (n := 6) fun x hx => (nm_ok (h2 x hx)).2.1
  have c : (" " : Str).length = 1 := rfl
  have hj : joinD (.str " ") [encR r] = some (.str (Txt.join " " r)) := join_strs (by rw [c]; unfold LIM; omega)
  have lim0 : (0 : Nat) ≤ LIM := by decide
  refine runD_rt ?_
  unfold m_written wr
  rw [hs0]
  by_cases e : r = []
  · rw [seq_rt (d := .str "-"), if_pos e]
    have he' : eqD (encR r) (.list []) = some (.bool true) := by rw [he]; simp [e]
    rw [if_t (by simp [he', lim0])]
    rfl
  · rw [seq_nx (ρ' := [.val (encR r)]), if_neg e]
    · simp [hj]
    · rw [if_f (by simp [he, e, lim0])]
      rfl
def wt (t : Tie) : Str := Txt.join " " [t.1, t.2.1, t.2.2]
theorem wt_len {t : Tie} (h : nmT t) : (wt t).length ≤ 21 := by
  have a := join_len " " [t.1, t.2.1, t.2.2]
  have h1 := (nm_ok h.1).2.1
  have h2 := (nm_ok h.2.1).2.1
  have h3 := (nm_ok h.2.2).2.1
  have c : (" " : Str).length = 1 := rfl
  rw [c] at a
  simp only [List.map_cons, List.map_nil, List.sum_cons, List.sum_nil, List.length_cons, List.length_nil] at a
  unfold wt
  omega
theorem j_wt {t : Tie} (h : nmT t) : joinD (.str " ") [encT t] = some (.str (wt t)) := by
  have h1 := (nm_ok h.1).2.1
  have h2 := (nm_ok h.2.1).2.1
  have h3 := (nm_ok h.2.2).2.1
  have c : (" " : Str).length = 1 := rfl
  unfold joinD seqOf encT
  dsimp only
  rw [show [PyData.str t.1, PyData.str t.2.1, PyData.str t.2.2] = [t.1, t.2.1, t.2.2].map .str from rfl, strsOf_map]
  dsimp only
  rw [if_pos (by rw [c]; simp only [List.map_cons, List.map_nil, List.sum_cons, List.sum_nil, List.length_cons, List.length_nil]; unfold LIM; omega)]
  rfl
theorem dash_mul (n : Int) (h : n = 16 ∨ n = 17) : ∃ u : Str, mulD (.str " / -") (.int n) = some (.str u) ∧ u.length ≤ 100 := by
  rcases h with rfl | rfl
  · refine ⟨Txt.mul " / -" 16, ?_, by decide +kernel⟩
    show (if mulOk " / -" 16 then some (PyData.str (Txt.mul " / -" 16)) else none) = _
    rw [if_pos ⟨by omega, by omega, by decide +kernel⟩]
  · refine ⟨Txt.mul " / -" 17, ?_, by decide +kernel⟩
    show (if mulOk " / -" 17 then some (PyData.str (Txt.mul " / -" 17)) else none) = _
    rw [if_pos ⟨by omega, by omega, by decide +kernel⟩]
theorem m32 (z : Int) : modD (.int z) (.int 32) = some (.int (z % 32)) := mod_int (by omega)
theorem d16 (z : Int) : divD (.int z) (.int 16) = some (.int (z / 16)) := divR z (by omega) (by omega)
def tryB : Mp.Env → SR := sSeq (sSet 5 (eCall 2 f_big (aCons (eVar 0) (aCons (e2 addD (eC (.int 13)) (eVar 4)) (aNil))))) (sSeq (sSet 6 (eCall 2 f_bent (aCons (e2 idxD (bVar 3) (e2 modD (eVar 4) (eC (.int 2)))) (aCons (e2 divD (eVar 5) (eC (.int 2))) (aNil))))) (sSeq (sIf (toT (e2 eqD (e2 modD (eVar 5) (eC (.int 16))) (eC (.int 0)))) (sSet 6 (eCall 2 f_bent (aCons (eC (.str "")) (aCons (e2 divD (eVar 5) (eC (.int 16))) (aNil))))) (sNx)) (sSeq (sIf (toT (e2 eqD (e2 modD (eVar 5) (eC (.int 32))) (eC (.int 16)))) (sSet 6 (e2 addD (eC (.str "a")) (e2 mulD (eC (.str " / -")) (e2 addD (eC (.int 16)) (e2 modD (e2 divD (eVar 5) (eC (.int 32))) (eC (.int 2))))))) (sNx)) (sIf (tO (toT (e2 neD (eCall 2 f_told (aCons (eC (.int 0)) (aCons (eVar 6) (aNil)))) (eCall 1 f_table_due (aCons (eVar 6) (aNil))))) (toT (e2 neD (eCall 2 f_told (aCons (eC (.int 1)) (aCons (eVar 6) (aNil)))) (eCall 1 f_net_due (aCons (eVar 6) (aNil)))))) (sRet (eC (.bool false))) (sNx)))))
theorem try_body (ns : List Int) (tb nt : D) (t0 t1 : Str) (h0 : t0.length ≤ 1900) (h1 : t1.length ≤ 1900) (i : Nat) (a4 a5 a6 : Option D) : ∃ c5 c6 : Option D, bodyH (tName 4) tryB (.int (i : Nat)) [.val (scr ns), .val tb, .val nt, .own [.str t0, .str t1], ov a4, ov a5, ov a6, .emp, .emp, .emp] = .nx [.val (scr ns), .val tb, .val nt, .own [.str t0, .str t1], .val (.int (i : Nat)), ov c5, ov c6, .emp, .emp, .emp] := by
  obtain ⟨b, hb⟩ := v_big ns (13 + i)
  rw [show ((13 + i : Nat) : Int) = 13 + (i : Int) from by omega] at hb
  generalize hS : scr ns = s at *
  have hx : ∃ t : Str, idxD (.list [.str t0, .str t1]) (.int ((i : Int) % 2)) = some (.str t) ∧ t.length ≤ 1900 := by
    rcases (by omega : (i : Int) % 2 = 0 ∨ (i : Int) % 2 = 1) with e | e <;> rw [e]
    · exact ⟨t0, rfl, h0⟩
    · exact ⟨t1, rfl, h1⟩
  obtain ⟨t, ht, htl⟩ := hx
  obtain ⟨u, hu, hul⟩ := v_bent t (by omega) (b / 2)
  obtain ⟨u2, hu2, hul2⟩ := v_bent "" (by decide) (b / 16)
  have hul2' : u2.length ≤ 2 := hul2
  rw [bodyH_ap]
  simp only [tName_ap, List.getElem?_cons_succ, List.getElem?_cons_zero, canPut_ov, if_true, List.set_cons_succ, List.set_cons_zero]
  unfold tryB
  rw [seq_nx (ρ' := [.val s, .val tb, .val nt, .own [.str t0, .str t1], .val (.int (i : Nat)), .val (.int b), ov a6, .emp, .emp, .emp]) (by simp [hb])]
  rw [seq_nx (ρ' := [.val s, .val tb, .val nt, .own [.str t0, .str t1], .val (.int (i : Nat)), .val (.int b), .val (.str u), .emp, .emp, .emp])]
  · have e1 : ∃ u' : Str, u'.length ≤ 2000 ∧ (sIf (toT (e2 eqD (e2 modD (eVar 5) (eC (.int 16))) (eC (.int 0)))) (sSet 6 (eCall 2 f_bent (aCons (eC (.str "")) (aCons (e2 divD (eVar 5) (eC (.int 16))) (aNil))))) (sNx)) [.val s, .val tb, .val nt, .own [.str t0, .str t1], .val (.int (i : Nat)), .val (.int b), .val (.str u), .emp, .emp, .emp] = .nx [.val s, .val tb, .val nt, .own [.str t0, .str t1], .val (.int (i : Nat)), .val (.int b), .val (.str u'), .emp, .emp, .emp] := by
      by_cases c : b % 16 = 0
      · exact ⟨u2, by omega, by rw [if_t (by simp [m16, c])]; simp [d16, hu2]⟩
      · exact ⟨u, by omega, by rw [if_f (by simp [m16, c])]; rfl⟩
    obtain ⟨u', hu', st1⟩ := e1
    have e2' : ∃ v : Str, v.length ≤ 2000 ∧ (sIf (toT (e2 eqD (e2 modD (eVar 5) (eC (.int 32))) (eC (.int 16)))) (sSet 6 (e2 addD (eC (.str "a")) (e2 mulD (eC (.str " / -")) (e2 addD (eC (.int 16)) (e2 modD (e2 divD (eVar 5) (eC (.int 32))) (eC (.int 2))))))) (sNx)) [.val s, .val tb, .val nt, .own [.str t0, .str t1], .val (.int (i : Nat)), .val (.int b), .val (.str u'), .emp, .emp, .emp] = .nx [.val s, .val tb, .val nt, .own [.str t0, .str t1], .val (.int (i : Nat)), .val (.int b), .val (.str v), .emp, .emp, .emp] := by
      by_cases c : b % 32 = 16
      · obtain ⟨w, hw, hwl⟩ := dash_mul (16 + b / 32 % 2) (by omega)
        have c1' : ("a" : Str).length = 1 := rfl
        have ha : addD (.str "a") (.str w) = some (.str ("a" ++ w)) := add_str (by rw [c1']; unfold LIM; omega)
        refine ⟨"a" ++ w, by rw [Str.length_append, c1']; omega, ?_⟩
        rw [if_t (by simp [m32, c])]
        simp [d32, m2', hw, ha]
      · exact ⟨u', by omega, by rw [if_f (by simp [m32, c])]; rfl⟩
    obtain ⟨v, hv, st2⟩ := e2'
    refine ⟨some (.int b), some (.str v), ?_⟩
    rw [seq_nx st1, seq_nx st2]
    have k1 := v_told0 (t := v) hv
    have k2 := v_table_due (t := v) hv
    have k3 := v_told1 (t := v) hv
    have k4 := v_net_due (t := v) hv
    have n1 := ne_self (tame_tab v)
    have n2 := ne_self (tame_net v)
    rw [if_f (by simp [k1, k2, k3, k4, n1, n2])]
    rfl
  · have ht' : atI [PyData.str t0, PyData.str t1] ((i : Int) % 2) = some (.str t) := ht
    simp [m2', ht', d2, hu]
theorem plain : ∀ ns : List Int, ns.length ≤ 63 → f_law [scr ns] = .ok (.bool true) := by
  intro ns _
  obtain ⟨names, rows, hT, hn1, hn2, hr1, hr2⟩ := v_table ns 1
  obtain ⟨ts, hN, hts1, hts2⟩ := v_net ns 10
  rw [show ((1 : Nat) : Int) = 1 from rfl] at hT
  rw [show ((10 : Nat) : Int) = 10 from rfl] at hN
  have hs0 : startS 10 [scr ns] = [.val (scr ns), .emp, .emp, .emp, .emp, .emp, .emp, .emp, .emp, .emp] := rfl
  have hall : ∀ r ∈ names :: rows, r.length ≤ 12 ∧ ∀ x ∈ r, isNm x = true := by
    intro r hr
    rcases List.mem_cons.mp hr with rfl | h
    · exact ⟨hn1, hn2⟩
    · have sb := hr2 r h
      exact ⟨Nat.le_trans sb.length_le hn1, fun x hx => hn2 x (sb.subset hx)⟩
  have lim1 : (1 : Nat) ≤ LIM := by decide
  have lim2 : (2 : Nat) ≤ LIM := by decide
  have lim5 : (5 : Nat) ≤ LIM := by decide
  -- the first text
  have l0 : ((names :: rows).map wr).length ≤ 17 := by simp; omega
  have w0 : ∀ y ∈ (names :: rows).map wr, y.length ≤ 84 := by
    intro y hy
    obtain ⟨r, hr, rfl⟩ := List.mem_map.mp hy
    exact wr_len (hall r hr).1 (hall r hr).2
  have s0 := sum_le w0
  have j0 := join_len " / " ((names :: rows).map wr)
  have c3 : (" / " : Str).length = 3 := rfl
  rw [c3] at j0
  have hj0 : joinD (.str " / ") [.list (((names :: rows).map wr).map .str)] = some (.str (Txt.join " / " ((names :: rows).map wr))) := join_strs (by rw [c3]; unfold LIM; omega)
  have q0 : (lLc [8] (tName 8) (tYesE) (eCall 1 f_written (aCons (eVar 8) (aNil))) (iL (eL (l2 addL (eL (lLst (aCons (e2 idxD (eVar 1) (eC (.int 0))) (aNil)))) (e2 idxD (eVar 1) (eC (.int 1))))))) [.val (scr ns), .val (.tuple [encR names, .list (rows.map encR)]), .val (.list (ts.map encT)), .emp, .emp, .emp, .emp, .emp, .emp, .emp] = .ok ((names :: rows).map fun r => .str (wr r)) :=
    lLc_mapT (enc := encR) (by
      have i0 : idxD (.tuple [encR names, .list (rows.map encR)]) (.int 0) = some (encR names) := rfl
      have i1 : idxD (.tuple [encR names, .list (rows.map encR)]) (.int 1) = some (.list (rows.map encR)) := rfl
      have ha : addL (.list [encR names]) (.list (rows.map encR)) = some ([encR names] ++ rows.map encR) := add_list (by simp; unfold LIM; omega)
      simp only [iL_ap, eL_ap, l2_ap, lLst_ap, aCons_ap, aNil_ap, e2_ap, eVar_ap, eC_ap, List.getElem?_cons_succ, List.getElem?_cons_zero, bind_ok, map_ok, i0, i1, ofO_some, List.length_singleton, lim1, if_true, ha]
      rfl) (fun r hr => by
      have := v_written r (hall r hr).1 (hall r hr).2
      simp [this]) (by rw [List.length_map] at l0; unfold LIM; omega)
  -- the second text
  have w1 : ∀ y ∈ ts.map wt, y.length ≤ 21 := by
    intro y hy
    obtain ⟨t, ht, rfl⟩ := List.mem_map.mp hy
    exact wt_len (hts2 t ht)
  have s1 := sum_le w1
  have j1 := join_len ", " (ts.map wt)
  have c2 : (", " : Str).length = 2 := rfl
  rw [c2] at j1
  rw [List.length_map] at s1
  have hj1 : joinD (.str ", ") [.list ((ts.map wt).map .str)] = some (.str (Txt.join ", " (ts.map wt))) := join_strs (by rw [c2, List.length_map]; unfold LIM; omega)
  rw [List.length_map] at j1
  have t0l : (Txt.join " / " ((names :: rows).map wr)).length ≤ 1900 := by omega
  have t1l : (Txt.join ", " (ts.map wt)).length ≤ 1900 := by omega
  generalize hT0 : Txt.join " / " ((names :: rows).map wr) = T0 at *
  generalize hT1 : Txt.join ", " (ts.map wt) = T1 at *
  have q1 : (lLc [9] (tName 9) (tYesE) (eM "str" joinD (eC (.str " ")) (aCons (eVar 9) (aNil))) (iL (eVar 2))) [.val (scr ns), .val (.tuple [encR names, .list (rows.map encR)]), .val (.list (ts.map encT)), .own [.str T0], .emp, .emp, .emp, .emp, .emp, .emp] = .ok (ts.map fun t => .str (wt t)) :=
    lLc_mapT (enc := encT) (by simp) (fun t ht => by
      have := j_wt (hts2 t ht)
      simp [this]) (by unfold LIM; omega)
  -- the tries
  obtain ⟨ρ', ⟨a4, a5, a6, rfl⟩, hloop⟩ := loopS_inv (enc := fun i : Nat => PyData.int ((i : Nat) : Int)) (xs := List.range 12) (fun pre ρ => ∃ a4 a5 a6 : Option D, ρ = [.val (scr ns), .val (.tuple [encR names, .list (rows.map encR)]), .val (.list (ts.map encT)), .own [.str T0, .str T1], ov a4, ov a5, ov a6, .emp, .emp, .emp]) (h := bodyH (tName 4) tryB) (fun pre i post e ρ hρ => by
    obtain ⟨a4, a5, a6, rfl⟩ := hρ
    obtain ⟨c5, c6, st⟩ := try_body ns (.tuple [encR names, .list (rows.map encR)]) (.list (ts.map encT)) T0 T1 t0l t1l i a4 a5 a6
    exact ⟨_, ⟨some (.int i), c5, c6, rfl⟩, .inl st⟩) (ρ := [.val (scr ns), .val (.tuple [encR names, .list (rows.map encR)]), .val (.list (ts.map encT)), .own [.str T0, .str T1], .emp, .emp, .emp, .emp, .emp, .emp]) ⟨none, none, none, rfl⟩
  obtain ⟨ρ2, ⟨a7, rfl⟩, hloop2⟩ := loopS_inv (enc := fun d : D => d) (xs := [PyData.none, .int 7, .bool true, .list [.str "a"], .tuple [.str "a", .str "b"]]) (fun pre ρ => ∃ a7 : Option D, ρ = [.val (scr ns), .val (.tuple [encR names, .list (rows.map encR)]), .val (.list (ts.map encT)), .own [.str T0, .str T1], ov a4, ov a5, ov a6, ov a7, .emp, .emp]) (h := bodyH (tName 7) (sIf (tO (toT (e2 neD (eCall 2 f_told (aCons (eC (.int 0)) (aCons (eVar 7) (aNil)))) (eC (.str "NoText")))) (toT (e2 neD (eCall 2 f_told (aCons (eC (.int 1)) (aCons (eVar 7) (aNil)))) (eC (.str "NoText"))))) (sRet (eC (.bool false))) (sNx))) (fun pre d post e ρ hρ => by
    obtain ⟨a7, rfl⟩ := hρ
    have hd : isiD "str" d = some (.bool false) := by
      have : d ∈ [PyData.none, .int 7, .bool true, .list [.str "a"], .tuple [.str "a", .str "b"]] := by rw [e]; simp
      simp only [List.mem_cons, List.not_mem_nil, or_false] at this
      rcases this with rfl | rfl | rfl | rfl | rfl <;> rfl
    have k0 := v_told_no 0 (.inl rfl) d hd
    have k1 := v_told_no 1 (.inr rfl) d hd
    refine ⟨_, ⟨some d, rfl⟩, .inl ?_⟩
    rw [bodyH_ap]
    simp only [tName_ap, List.getElem?_cons_succ, List.getElem?_cons_zero, canPut_ov, if_true, List.set_cons_succ, List.set_cons_zero]
    rw [if_f (by simp [k0, k1])]
    rfl) (ρ := [.val (scr ns), .val (.tuple [encR names, .list (rows.map encR)]), .val (.list (ts.map encT)), .own [.str T0, .str T1], ov a4, ov a5, ov a6, .emp, .emp, .emp]) ⟨none, rfl⟩
  refine runD_rt ?_
  unfold m_law
  rw [hs0, seq_nx (ρ' := [.val (scr ns), .val (.tuple [encR names, .list (rows.map encR)]), .emp, .emp, .emp, .emp, .emp, .emp, .emp, .emp]) (by simp [hT]), seq_nx (ρ' := [.val (scr ns), .val (.tuple [encR names, .list (rows.map encR)]), .val (.list (ts.map encT)), .emp, .emp, .emp, .emp, .emp, .emp, .emp]) (by simp [hN])]
  rw [seq_nx (ρ' := [.val (scr ns), .val (.tuple [encR names, .list (rows.map encR)]), .val (.list (ts.map encT)), .own [.str T0], .emp, .emp, .emp, .emp, .emp, .emp])]
  · rw [seq_nx (ρ' := [.val (scr ns), .val (.tuple [encR names, .list (rows.map encR)]), .val (.list (ts.map encT)), .own [.str T0, .str T1], .emp, .emp, .emp, .emp, .emp, .emp])]
    · rw [seq_nx (ρ' := [.val (scr ns), .val (.tuple [encR names, .list (rows.map encR)]), .val (.list (ts.map encT)), .own [.str T0, .str T1], ov a4, ov a5, ov a6, .emp, .emp, .emp])]
      · rw [seq_nx (ρ' := [.val (scr ns), .val (.tuple [encR names, .list (rows.map encR)]), .val (.list (ts.map encT)), .own [.str T0, .str T1], ov a4, ov a5, ov a6, ov a7, .emp, .emp])]
        · rfl
        · rw [sFor_ap, ← hloop2]
          simp [lim1, lim2, lim5]
      · have hr : (iR1 (aCons (eC (.int 12)) (aNil))) [.val (scr ns), .val (.tuple [encR names, .list (rows.map encR)]), .val (.list (ts.map encT)), .own [.str T0, .str T1], .emp, .emp, .emp, .emp, .emp, .emp] = .ok ((List.range 12).map fun i : Nat => PyData.int ((i : Nat) : Int)) := by
          rw [← rng_map]
          rfl
        rw [sFor_ap, hr, lift_ok]
        exact hloop
    · have lt : (1 : Nat) < LIM := by decide
      have q1' : (ts.map fun t => PyData.str (wt t)) = (ts.map wt).map .str := by rw [List.map_map]; rfl
      rw [q1'] at q1
      simp only [sApp_ap, List.getElem?_cons_succ, List.getElem?_cons_zero, eM_ap, eC_ap, bind_ok, isTy_s, if_true, aCons_ap, aNil_ap, eL_ap, q1, map_ok, hj1, ofO_some, lift_ok, List.length_singleton, lt]
      rfl
  · have q0' : ((names :: rows).map fun r => PyData.str (wr r)) = ((names :: rows).map wr).map .str := by rw [List.map_map]; rfl
    rw [q0'] at q0
    simp only [sSetL_ap, lLst_ap, eM_ap, eC_ap, bind_ok, isTy_s, if_true, aCons_ap, aNil_ap, eL_ap, q0, map_ok, hj0, ofO_some, lift_ok, List.length_singleton, lim1]
    simp
end K73

set_option Elab.async false
set_option linter.all false
set_option maxRecDepth 100000
set_option maxHeartbeats 0
/-! La1: sets of bits over two: spans, steps. -/
namespace La
/-- the lowest bit -/
def lo (n : Nat) : Nat := if h : n = 0 then 0 else if n % 2 = 1 then 0 else lo (n / 2) + 1
termination_by n
decreasing_by omega
theorem lo_bit {n : Nat} (h : n ≠ 0) : n.testBit (lo n) = true := by
  induction n using Nat.strongRecOn with
  | ind n ih =>
    unfold lo
    rw [dif_neg h]
    by_cases c : n % 2 = 1
    · rw [if_pos c]; simp [c]
    · rw [if_neg c, Nat.testBit_succ]
      exact ih (n / 2) (by omega) (by omega)
theorem lo_low {n j : Nat} (h : j < lo n) : n.testBit j = false := by
  induction n using Nat.strongRecOn generalizing j with
  | ind n ih =>
    unfold lo at h
    split at h
    · omega
    · rename_i h0
      split at h
      · omega
      · rename_i c
        cases j with
        | zero => simp; omega
        | succ j =>
          rw [Nat.testBit_succ]
          exact ih (n / 2) (by omega) (by omega)
theorem lo_uniq {n k : Nat} (h1 : n.testBit k = true) (h2 : ∀ j, j < k → n.testBit j = false) : lo n = k := by
  have h0 : n ≠ 0 := by rintro rfl; simp at h1
  have a := lo_bit h0
  rcases Nat.lt_trichotomy (lo n) k with h | h | h
  · rw [h2 _ h] at a; cases a
  · exact h
  · rw [lo_low h] at h1; cases h1
theorem ne_zero_of {n k : Nat} (h : n.testBit k = true) : n ≠ 0 := by rintro rfl; simp at h
theorem xor_eq_zero {a b : Nat} (h : a ^^^ b = 0) : a = b := by
  apply Nat.eq_of_testBit_eq
  intro i
  have := congrArg (fun n => n.testBit i) h
  simp only [Nat.testBit_xor, Nat.zero_testBit] at this
  cases ha : a.testBit i <;> cases hb : b.testBit i <;> simp [ha, hb] at this <;> rfl
/-- the sums of some rows -/
inductive Sp (ns : List Nat) : Nat → Prop
  | zero : Sp ns 0
  | add {v x : Nat} : Sp ns v → x ∈ ns → Sp ns (v ^^^ x)
theorem Sp.mem {ns : List Nat} {x : Nat} (h : x ∈ ns) : Sp ns x := by
  have := Sp.add Sp.zero h
  rwa [Nat.zero_xor] at this
theorem Sp.xor {ns : List Nat} {v w : Nat} (h1 : Sp ns v) (h2 : Sp ns w) : Sp ns (v ^^^ w) := by
  induction h2 with
  | zero => rwa [Nat.xor_zero]
  | add _ hx ih => rw [← Nat.xor_assoc]; exact .add ih hx
theorem Sp.sub {ns ms : List Nat} (h : ∀ x ∈ ns, Sp ms x) {v : Nat} (hv : Sp ns v) : Sp ms v := by
  induction hv with
  | zero => exact .zero
  | add _ hx ih => exact ih.xor (h _ hx)
theorem Sp.mono {ns ms : List Nat} (h : ∀ x ∈ ns, x ∈ ms) {v : Nat} (hv : Sp ns v) : Sp ms v := hv.sub fun x hx => .mem (h x hx)
theorem sp_nil {v : Nat} (h : Sp [] v) : v = 0 := by
  cases h with
  | zero => rfl
  | add _ hx => cases hx
/-- an additive test is known by the rows -/
theorem Sp.test {ns : List Nat} {φ : Nat → Bool} (ha : ∀ v w, φ (v ^^^ w) = (φ v ^^ φ w)) (h : ∀ x ∈ ns, φ x = false) {v : Nat} (hv : Sp ns v) : φ v = false := by
  induction hv with
  | zero =>
    have := ha 0 0
    rw [Nat.xor_self] at this
    cases h0 : φ 0
    · rfl
    · rw [h0] at this; cases this
  | add _ hx ih => rw [ha, ih, h _ hx]; rfl
def stp (v a : Nat) : Nat := if v.testBit (lo a) = true then v ^^^ a else v
def red (A : List Nat) (v : Nat) : Nat := A.foldl stp v
/-- each row has none of the earlier rows' leads -/
def Ech (A : List Nat) : Prop := (∀ a ∈ A, a ≠ 0) ∧ A.Pairwise fun a b => b.testBit (lo a) = false
def Rdc (A : List Nat) : Prop := (∀ a ∈ A, a ≠ 0) ∧ A.Pairwise fun a b => b.testBit (lo a) = false ∧ a.testBit (lo b) = false
theorem Rdc.ech {A : List Nat} (h : Rdc A) : Ech A := ⟨h.1, h.2.imp fun h => h.1⟩
theorem stp_sp {ns : List Nat} {v a : Nat} (hv : Sp ns v) (ha : a ∈ ns) : Sp ns (stp v a) := by
  unfold stp
  split
  · exact hv.add ha
  · exact hv
theorem red_diff (A : List Nat) : ∀ v, Sp A (v ^^^ red A v) := by
  have key : ∀ (B : List Nat), (∀ b ∈ B, b ∈ A) → ∀ v, Sp A (v ^^^ B.foldl stp v) := by
    intro B
    induction B with
    | nil => intro _ v; rw [List.foldl_nil, Nat.xor_self]; exact .zero
    | cons b B ih =>
      intro hb v
      rw [List.foldl_cons]
      have h1 := ih (fun x hx => hb x (List.mem_cons_of_mem _ hx)) (stp v b)
      have h2 : Sp A (v ^^^ stp v b) := by
        unfold stp
        split
        · rw [← Nat.xor_assoc, Nat.xor_self, Nat.zero_xor]; exact .mem (hb b List.mem_cons_self)
        · rw [Nat.xor_self]; exact .zero
      have := h2.xor h1
      rwa [Nat.xor_assoc, ← Nat.xor_assoc (stp v b) (stp v b), Nat.xor_self, Nat.zero_xor] at this
  exact key A fun b hb => hb
theorem stp_xor (a : Nat) (v w : Nat) : stp (v ^^^ w) a = stp v a ^^^ stp w a := by
  unfold stp
  rw [Nat.testBit_xor]
  cases hv : v.testBit (lo a) <;> cases hw : w.testBit (lo a) <;> simp
  · rw [Nat.xor_assoc]
  · rw [Nat.xor_assoc, Nat.xor_assoc, Nat.xor_comm a w]
  · rw [Nat.xor_assoc, ← Nat.xor_assoc a w, Nat.xor_comm a w, Nat.xor_assoc w a, Nat.xor_self, Nat.xor_zero]
theorem red_xor (A : List Nat) : ∀ v w, red A (v ^^^ w) = red A v ^^^ red A w := by
  unfold red
  induction A with
  | nil => intro v w; rfl
  | cons a A ih => intro v w; rw [List.foldl_cons, List.foldl_cons, List.foldl_cons, stp_xor, ih]
theorem red_zero (A : List Nat) : red A 0 = 0 := by
  have := red_xor A 0 0
  rw [Nat.xor_self, Nat.xor_self] at this
  exact this
theorem stp_clear {v a : Nat} (h : a ≠ 0) : (stp v a).testBit (lo a) = false := by
  unfold stp
  split
  · rename_i c; rw [Nat.testBit_xor, c, lo_bit h]; rfl
  · rename_i c; exact Bool.eq_false_iff.mpr c
/-- an echelon list kills its rows -/
theorem ech_kill : ∀ {A : List Nat}, Ech A → ∀ a ∈ A, red A a = 0 := by
  intro A
  induction A with
  | nil => intro _ a ha; cases ha
  | cons b A ih =>
    intro h a ha
    have hb := h.1 b List.mem_cons_self
    have hp := List.pairwise_cons.mp h.2
    have hA : Ech A := ⟨fun x hx => h.1 x (List.mem_cons_of_mem _ hx), hp.2⟩
    show red A (stp a b) = 0
    rcases List.mem_cons.mp ha with rfl | hm
    · have : stp a a = 0 := by unfold stp; rw [if_pos (lo_bit hb), Nat.xor_self]
      rw [this, red_zero]
    · have : stp a b = a := by unfold stp; rw [if_neg (by rw [hp.1 a hm]; simp)]
      rw [this]
      exact ih hA a hm
theorem ech_span {A : List Nat} (h : Ech A) {v : Nat} : Sp A v ↔ red A v = 0 := by
  constructor
  · intro hv
    induction hv with
    | zero => exact red_zero A
    | add _ hx ih => rw [red_xor, ih, ech_kill h _ hx]; rfl
  · intro h0
    have := red_diff A v
    rwa [h0, Nat.xor_zero] at this
/-- the lead of a sum is a row's lead -/
theorem lead_mem {A : List Nat} (h : Ech A) {v : Nat} (hv : Sp A v) (h0 : v ≠ 0) : ∃ a ∈ A, lo a = lo v := by
  apply Classical.byContradiction
  intro hn
  have hn' : ∀ a ∈ A, lo a ≠ lo v := fun a ha e => hn ⟨a, ha, e⟩
  have key : ∀ (B : List Nat), (∀ b ∈ B, b ≠ 0 ∧ lo b ≠ lo v) → ∀ u : Nat, u.testBit (lo v) = true → (∀ j, j < lo v → u.testBit j = false) → (B.foldl stp u).testBit (lo v) = true := by
    intro B
    induction B with
    | nil => intro _ u h1 _; exact h1
    | cons b B ih =>
      intro hb u h1 h2
      rw [List.foldl_cons]
      obtain ⟨hb0, hb1⟩ := hb b List.mem_cons_self
      have hB := fun x hx => hb x (List.mem_cons_of_mem _ hx)
      unfold stp
      split
      · rename_i c
        have hlt : lo v < lo b := by
          rcases Nat.lt_trichotomy (lo b) (lo v) with h | h | h
          · rw [h2 _ h] at c; cases c
          · exact absurd h hb1
          · exact h
        refine ih hB _ ?_ ?_
        · rw [Nat.testBit_xor, h1, lo_low hlt]; rfl
        · intro j hj; rw [Nat.testBit_xor, h2 j hj, lo_low (by omega)]; rfl
      · exact ih hB u h1 h2
  have := key A (fun b hb => ⟨h.1 b hb, hn' b hb⟩) v (lo_bit h0) fun j hj => lo_low hj
  have e := (ech_span h).mp hv
  unfold red at e
  rw [e] at this
  simp at this
theorem leads_nodup {A : List Nat} (h : Ech A) : (A.map lo).Nodup := by
  have := h.2
  induction A with
  | nil => exact List.nodup_nil
  | cons b A ih =>
    have hp := List.pairwise_cons.mp this
    rw [List.map_cons, List.nodup_cons]
    refine ⟨fun hm => ?_, ih ⟨fun x hx => h.1 x (List.mem_cons_of_mem _ hx), hp.2⟩ hp.2⟩
    obtain ⟨a, ha, e⟩ := List.mem_map.mp hm
    have h1 := hp.1 a ha
    rw [← e, lo_bit (h.1 a (List.mem_cons_of_mem _ ha))] at h1
    cases h1
theorem nodup_le {A B : List Nat} (hA : A.Nodup) (h : ∀ x ∈ A, x ∈ B) : A.length ≤ B.length := by
  induction A generalizing B with
  | nil => exact Nat.zero_le _
  | cons a A ih =>
    have hd := List.nodup_cons.mp hA
    have ha : a ∈ B := h a List.mem_cons_self
    have := ih (B := B.erase a) hd.2 fun x hx => by
      have hne : x ≠ a := fun e => hd.1 (e ▸ hx)
      exact (List.mem_erase_of_ne hne).mpr (h x (List.mem_cons_of_mem _ hx))
    rw [List.length_erase_of_mem ha] at this
    have hpos : 0 < B.length := List.length_pos_of_mem ha
    rw [List.length_cons]
    omega
theorem leads_sub {A B : List Nat} (hA : Ech A) (hB : Ech B) (h : ∀ x ∈ A, Sp B x) : ∀ l ∈ A.map lo, l ∈ B.map lo := by
  intro l hl
  obtain ⟨a, ha, rfl⟩ := List.mem_map.mp hl
  obtain ⟨b, hb, e⟩ := lead_mem hB (h a ha) (hA.1 a ha)
  exact List.mem_map.mpr ⟨b, hb, e⟩
theorem rank_le {A B : List Nat} (hA : Ech A) (hB : Ech B) (h : ∀ x ∈ A, Sp B x) : A.length ≤ B.length := by
  have := nodup_le (leads_nodup hA) (leads_sub hA hB h)
  rwa [List.length_map, List.length_map] at this
theorem rank_eq {A B : List Nat} (hA : Ech A) (hB : Ech B) (h1 : ∀ x ∈ A, Sp B x) (h2 : ∀ x ∈ B, Sp A x) : A.length = B.length := Nat.le_antisymm (rank_le hA hB h1) (rank_le hB hA h2)
theorem rdc_off {A : List Nat} (h : Rdc A) {a b : Nat} (ha : a ∈ A) (hb : b ∈ A) (e : lo a ≠ lo b) : a.testBit (lo b) = false := by
  have hp := h.2
  clear h
  induction A with
  | nil => cases ha
  | cons c A ih =>
    have hc := List.pairwise_cons.mp hp
    rcases List.mem_cons.mp ha with rfl | ha'
    · rcases List.mem_cons.mp hb with rfl | hb'
      · exact absurd rfl e
      · exact (hc.1 b hb').2
    · rcases List.mem_cons.mp hb with rfl | hb'
      · exact (hc.1 a ha').1
      · exact ih ha' hb' hc.2
/-- reduced lists with the same span have the same rows -/
theorem rdc_mem {A B : List Nat} (hA : Rdc A) (hB : Rdc B) (h1 : ∀ x ∈ A, Sp B x) (h2 : ∀ x ∈ B, Sp A x) : ∀ a ∈ A, a ∈ B := by
  intro a ha
  obtain ⟨b, hb, e⟩ := lead_mem hB.ech (h1 a ha) (hA.1 a ha)
  have : a ^^^ b = 0 := by
    apply Classical.byContradiction
    intro h0
    have hs : Sp A (a ^^^ b) := (Sp.mem ha).xor (h2 b hb)
    obtain ⟨c, hc, ec⟩ := lead_mem hA.ech hs h0
    have hbit := lo_bit h0
    rw [← ec, Nat.testBit_xor] at hbit
    by_cases q : lo c = lo a
    · rw [q, lo_bit (hA.1 a ha), ← e, lo_bit (hB.1 b hb)] at hbit; cases hbit
    · have x1 := rdc_off hA ha hc (fun z => q z.symm)
      obtain ⟨c', hc', e'⟩ := lead_mem hB.ech (h1 c hc) (hA.1 c hc)
      have x2 := rdc_off hB hb hc' (fun z => q (by rw [← e', ← z, e]))
      rw [e'] at x2
      rw [x1, x2] at hbit
      cases hbit
  rw [xor_eq_zero this]
  exact hb
theorem rdc_nodup {A : List Nat} (h : Rdc A) : A.Nodup := by
  have := leads_nodup h.ech
  unfold List.Nodup at *
  rw [List.pairwise_map] at this
  exact this.imp fun h e => h (congrArg lo e)
theorem rdc_perm {A B : List Nat} (hA : Rdc A) (hB : Rdc B) (h1 : ∀ x ∈ A, Sp B x) (h2 : ∀ x ∈ B, Sp A x) : A.Perm B := by
  rw [List.perm_ext_iff_of_nodup (rdc_nodup hA) (rdc_nodup hB)]
  exact fun a => ⟨rdc_mem hA hB h1 h2 a, rdc_mem hB hA h2 h1 a⟩
/-- the law's and the program's way to the steps -/
def clrN (m r : Nat) : Nat := if r.testBit (lo m) = true then r ^^^ m else r
def stpN (rows : List Nat) (n : Nat) : List Nat := if red rows n = 0 then rows else rows.map (clrN (red rows n)) ++ [red rows n]
def redN (ns : List Nat) : List Nat := ns.foldl stpN []
theorem red_bits {A : List Nat} (h : Rdc A) (v : Nat) : ∀ a ∈ A, (red A v).testBit (lo a) = false := by
  have key : ∀ (B : List Nat), (∀ b ∈ B, b ≠ 0) → B.Pairwise (fun a b => b.testBit (lo a) = false ∧ a.testBit (lo b) = false) → ∀ v : Nat, (∀ a ∈ B, (B.foldl stp v).testBit (lo a) = false) ∧ ∀ k, (∀ b ∈ B, b.testBit k = false) → (B.foldl stp v).testBit k = v.testBit k := by
    intro B
    induction B with
    | nil => exact fun _ _ v => ⟨(fun a ha => nomatch ha), fun k _ => rfl⟩
    | cons b B ih =>
      intro h0 hp v
      have hc := List.pairwise_cons.mp hp
      obtain ⟨i1, i2⟩ := ih (fun x hx => h0 x (List.mem_cons_of_mem _ hx)) hc.2 (stp v b)
      rw [List.foldl_cons]
      refine ⟨fun a ha => ?_, fun k hk => ?_⟩
      · rcases List.mem_cons.mp ha with rfl | ha'
        · rw [i2 (lo a) fun x hx => (hc.1 x hx).1]
          exact stp_clear (h0 a List.mem_cons_self)
        · exact i1 a ha'
      · rw [i2 k fun x hx => hk x (List.mem_cons_of_mem _ hx)]
        unfold stp
        split
        · rw [Nat.testBit_xor, hk b List.mem_cons_self, Bool.xor_false]
        · rfl
  exact (key A h.1 h.2 v).1
theorem clr_lo {m r : Nat} (hm : m ≠ 0) (hr : r ≠ 0) (h : m.testBit (lo r) = false) : lo (clrN m r) = lo r ∧ clrN m r ≠ 0 := by
  unfold clrN
  split
  · rename_i c
    have hlt : lo r < lo m := by
      rcases Nat.lt_trichotomy (lo m) (lo r) with q | q | q
      · rw [lo_low q] at c; cases c
      · rw [← q, lo_bit hm] at h; cases h
      · exact q
    have hb : (r ^^^ m).testBit (lo r) = true := by rw [Nat.testBit_xor, lo_bit hr, h]; rfl
    refine ⟨lo_uniq hb fun j hj => ?_, ne_zero_of hb⟩
    rw [Nat.testBit_xor, lo_low hj, lo_low (by omega)]
    rfl
  · exact ⟨rfl, hr⟩
theorem clr_bit {m r k : Nat} (hk : m.testBit k = false) : (clrN m r).testBit k = r.testBit k := by
  unfold clrN
  split
  · rw [Nat.testBit_xor, hk, Bool.xor_false]
  · rfl
theorem clr_off {m r : Nat} (hm : m ≠ 0) : (clrN m r).testBit (lo m) = false := by
  unfold clrN
  split
  · rename_i c; rw [Nat.testBit_xor, c, lo_bit hm]; rfl
  · rename_i c; exact Bool.eq_false_iff.mpr c
theorem stpN_rdc {rows : List Nat} (h : Rdc rows) (n : Nat) : Rdc (stpN rows n) := by
  unfold stpN
  split
  · exact h
  · rename_i hm
    have hb := red_bits h n
    generalize red rows n = m at *
    have hlo : ∀ r ∈ rows, lo (clrN m r) = lo r ∧ clrN m r ≠ 0 := fun r hr => clr_lo hm (h.1 r hr) (hb r hr)
    refine ⟨fun a ha => ?_, ?_⟩
    · rcases List.mem_append.mp ha with ha | ha
      · obtain ⟨r, hr, rfl⟩ := List.mem_map.mp ha; exact (hlo r hr).2
      · rw [List.mem_singleton] at ha; rw [ha]; exact hm
    · rw [List.pairwise_append]
      refine ⟨?_, List.pairwise_singleton _ _, ?_⟩
      · rw [List.pairwise_map]
        refine List.Pairwise.imp_of_mem ?_ h.2
        intro a b ha hb' q
        rw [(hlo a ha).1, (hlo b hb').1, clr_bit (hb a ha), clr_bit (hb b hb')]
        exact q
      · intro a ha b hb'
        rw [List.mem_singleton] at hb'
        subst hb'
        obtain ⟨r, hr, rfl⟩ := List.mem_map.mp ha
        rw [(hlo r hr).1]
        exact ⟨hb r hr, clr_off hm⟩
theorem stpN_sp {rows : List Nat} {n v : Nat} : Sp (stpN rows n) v ↔ Sp (rows ++ [n]) v := by
  have hd := red_diff rows n
  have up : ∀ {v}, Sp rows v → Sp (rows ++ [n]) v := fun h => h.mono fun x hx => List.mem_append_left _ hx
  have hn : Sp (rows ++ [n]) n := .mem (by simp)
  unfold stpN
  split
  · rename_i h0
    rw [h0, Nat.xor_zero] at hd
    constructor
    · exact up
    · intro h
      refine h.sub fun x hx => ?_
      rcases List.mem_append.mp hx with hx | hx
      · exact .mem hx
      · rw [List.mem_singleton] at hx; rw [hx]; exact hd
  · rename_i hm
    have e : n = (n ^^^ red rows n) ^^^ red rows n := by rw [Nat.xor_assoc, Nat.xor_self, Nat.xor_zero]
    have hr' : Sp (rows ++ [n]) (red rows n) := by
      have := hn.xor (up hd)
      rwa [← Nat.xor_assoc, Nat.xor_self, Nat.zero_xor] at this
    generalize red rows n = m at *
    have hm' : Sp (rows.map (clrN m) ++ [m]) m := .mem (by simp)
    have back : ∀ r ∈ rows, Sp (rows.map (clrN m) ++ [m]) r := by
      intro r hr
      have h1 : Sp (rows.map (clrN m) ++ [m]) (clrN m r) := .mem (List.mem_append_left _ (List.mem_map.mpr ⟨r, hr, rfl⟩))
      unfold clrN at h1
      split at h1
      · have := h1.xor hm'
        rwa [Nat.xor_assoc, Nat.xor_self, Nat.xor_zero] at this
      · exact h1
    constructor
    · intro h
      refine h.sub fun x hx => ?_
      rcases List.mem_append.mp hx with hx | hx
      · obtain ⟨r, hr, rfl⟩ := List.mem_map.mp hx
        unfold clrN
        split
        · exact (up (.mem hr)).xor hr'
        · exact up (.mem hr)
      · rw [List.mem_singleton] at hx; rw [hx]; exact hr'
    · intro h
      refine h.sub fun x hx => ?_
      rcases List.mem_append.mp hx with hx | hx
      · exact back x hx
      · rw [List.mem_singleton] at hx
        rw [hx, e]
        exact (hd.sub back).xor hm'
theorem redN_ok (ns : List Nat) : Rdc (redN ns) ∧ ∀ v, Sp (redN ns) v ↔ Sp ns v := by
  have key : ∀ (ms rows : List Nat), Rdc rows → Rdc (ms.foldl stpN rows) ∧ ∀ v, Sp (ms.foldl stpN rows) v ↔ Sp (rows ++ ms) v := by
    intro ms
    induction ms with
    | nil => intro rows h; exact ⟨h, fun v => by rw [List.append_nil]; rfl⟩
    | cons m ms ih =>
      intro rows h
      obtain ⟨i1, i2⟩ := ih (stpN rows m) (stpN_rdc h m)
      refine ⟨i1, fun v => ?_⟩
      rw [List.foldl_cons, i2]
      constructor
      · intro hv
        refine hv.sub fun x hx => ?_
        rcases List.mem_append.mp hx with hx | hx
        · exact (stpN_sp.mp (Sp.mem hx)).mono fun y hy => by
            rcases List.mem_append.mp hy with hy | hy
            · exact List.mem_append_left _ hy
            · rw [List.mem_singleton] at hy; rw [hy]; simp
        · exact .mem (by simp [hx])
      · intro hv
        refine hv.sub fun x hx => ?_
        have q : ∀ y, Sp (rows ++ [m]) y → Sp (stpN rows m ++ ms) y := fun y hy => (stpN_sp.mpr hy).mono fun z hz => List.mem_append_left _ hz
        rcases List.mem_append.mp hx with hx | hx
        · exact q x (.mem (by simp [hx]))
        · rcases List.mem_cons.mp hx with rfl | hx
          · exact q x (.mem (by simp))
          · exact .mem (by simp [hx])
  have := key ns [] ⟨(fun a ha => nomatch ha), List.Pairwise.nil⟩
  rwa [List.nil_append] at this
end La

set_option Elab.async false
set_option linter.all false
set_option maxRecDepth 100000
set_option maxHeartbeats 0
/-! La2: rows kept one by one; ends drawn tie by tie. -/
namespace La
def kp1 (A : List Nat) (e : Nat) : List Nat := if red A e = 0 then A else A ++ [red A e]
def kept (es : List Nat) : List Nat := es.foldl kp1 []
theorem kept_snoc (es : List Nat) (e : Nat) : kept (es ++ [e]) = kp1 (kept es) e := by unfold kept; rw [List.foldl_append]; rfl
theorem ech_bits {A : List Nat} (h : Ech A) (v : Nat) : ∀ a ∈ A, (red A v).testBit (lo a) = false := by
  have key : ∀ (B : List Nat), (∀ b ∈ B, b ≠ 0) → B.Pairwise (fun a b => b.testBit (lo a) = false) → ∀ v : Nat, (∀ a ∈ B, (B.foldl stp v).testBit (lo a) = false) ∧ ∀ k, (∀ b ∈ B, b.testBit k = false) → (B.foldl stp v).testBit k = v.testBit k := by
    intro B
    induction B with
    | nil => exact fun _ _ v => ⟨(fun a ha => nomatch ha), fun k _ => rfl⟩
    | cons b B ih =>
      intro h0 hp v
      have hc := List.pairwise_cons.mp hp
      obtain ⟨i1, i2⟩ := ih (fun x hx => h0 x (List.mem_cons_of_mem _ hx)) hc.2 (stp v b)
      rw [List.foldl_cons]
      refine ⟨fun a ha => ?_, fun k hk => ?_⟩
      · rcases List.mem_cons.mp ha with rfl | ha'
        · rw [i2 (lo a) fun x hx => hc.1 x hx]
          exact stp_clear (h0 a List.mem_cons_self)
        · exact i1 a ha'
      · rw [i2 k fun x hx => hk x (List.mem_cons_of_mem _ hx)]
        unfold stp
        split
        · rw [Nat.testBit_xor, hk b List.mem_cons_self, Bool.xor_false]
        · rfl
  exact (key A h.1 h.2 v).1
theorem kp1_ok {A : List Nat} (h : Ech A) (e : Nat) : Ech (kp1 A e) ∧ ∀ v, Sp (kp1 A e) v ↔ Sp (A ++ [e]) v := by
  have hd := red_diff A e
  have up : ∀ {v}, Sp A v → Sp (A ++ [e]) v := fun h => h.mono fun x hx => List.mem_append_left _ hx
  have hn : Sp (A ++ [e]) e := .mem (by simp)
  unfold kp1
  split
  · rename_i h0
    refine ⟨h, fun v => ⟨up, fun hv => hv.sub fun x hx => ?_⟩⟩
    rw [h0, Nat.xor_zero] at hd
    rcases List.mem_append.mp hx with hx | hx
    · exact .mem hx
    · rw [List.mem_singleton] at hx; rw [hx]; exact hd
  · rename_i hm
    have hb := ech_bits h e
    have hr' : Sp (A ++ [e]) (red A e) := by
      have := hn.xor (up hd)
      rwa [← Nat.xor_assoc, Nat.xor_self, Nat.zero_xor] at this
    have e2 : e = (e ^^^ red A e) ^^^ red A e := by rw [Nat.xor_assoc, Nat.xor_self, Nat.xor_zero]
    generalize red A e = m at *
    refine ⟨⟨fun a ha => ?_, ?_⟩, fun v => ⟨fun hv => hv.sub fun x hx => ?_, fun hv => hv.sub fun x hx => ?_⟩⟩
    · rcases List.mem_append.mp ha with ha | ha
      · exact h.1 a ha
      · rw [List.mem_singleton] at ha; rw [ha]; exact hm
    · rw [List.pairwise_append]
      refine ⟨h.2, List.pairwise_singleton _ _, fun a ha b hb' => ?_⟩
      rw [List.mem_singleton] at hb'
      subst hb'
      exact hb a ha
    · rcases List.mem_append.mp hx with hx | hx
      · exact up (.mem hx)
      · rw [List.mem_singleton] at hx; rw [hx]; exact hr'
    · rcases List.mem_append.mp hx with hx | hx
      · exact .mem (List.mem_append_left _ hx)
      · rw [List.mem_singleton] at hx
        rw [hx, e2]
        exact (hd.mono fun y hy => List.mem_append_left _ hy).xor (.mem (by simp))
theorem kept_ok (es : List Nat) : Ech (kept es) ∧ ∀ v, Sp (kept es) v ↔ Sp es v := by
  have key : ∀ (ms rows : List Nat), Ech rows → Ech (ms.foldl kp1 rows) ∧ ∀ v, Sp (ms.foldl kp1 rows) v ↔ Sp (rows ++ ms) v := by
    intro ms
    induction ms with
    | nil => intro rows h; exact ⟨h, fun v => by rw [List.append_nil]; rfl⟩
    | cons m ms ih =>
      intro rows h
      obtain ⟨k1, k2⟩ := kp1_ok h m
      obtain ⟨i1, i2⟩ := ih (kp1 rows m) k1
      refine ⟨i1, fun v => ?_⟩
      rw [List.foldl_cons, i2]
      constructor
      · intro hv
        refine hv.sub fun x hx => ?_
        rcases List.mem_append.mp hx with hx | hx
        · exact ((k2 x).mp (Sp.mem hx)).mono fun y hy => by
            rcases List.mem_append.mp hy with hy | hy
            · exact List.mem_append_left _ hy
            · rw [List.mem_singleton] at hy; rw [hy]; simp
        · exact .mem (by simp [hx])
      · intro hv
        refine hv.sub fun x hx => ?_
        have q : ∀ y, Sp (rows ++ [m]) y → Sp (kp1 rows m ++ ms) y := fun y hy => ((k2 y).mpr hy).mono fun z hz => List.mem_append_left _ hz
        rcases List.mem_append.mp hx with hx | hx
        · exact q x (.mem (by simp [hx]))
        · rcases List.mem_cons.mp hx with rfl | hx
          · exact q x (.mem (by simp))
          · exact .mem (by simp [hx])
  have := key es [] ⟨(fun a ha => nomatch ha), List.Pairwise.nil⟩
  rwa [List.nil_append] at this
/-- one number of steps, whichever way they are found -/
theorem kept_len {es : List Nat} {A : List Nat} (hA : Ech A) (h : ∀ v, Sp A v ↔ Sp es v) : (kept es).length = A.length := by
  obtain ⟨k1, k2⟩ := kept_ok es
  exact rank_eq k1 hA (fun x hx => (h x).mpr ((k2 x).mp (.mem hx))) fun x hx => (k2 x).mpr ((h x).mp (.mem hx))
theorem kept_redN (es : List Nat) : (kept es).length = (redN es).length := kept_len (redN_ok es).1.ech (redN_ok es).2
theorem sp_perm {es fs : List Nat} (h : es.Perm fs) (v : Nat) : Sp es v ↔ Sp fs v := ⟨fun hv => hv.mono fun x hx => h.mem_iff.mp hx, fun hv => hv.mono fun x hx => h.mem_iff.mpr hx⟩
theorem kept_perm {es fs : List Nat} (h : es.Perm fs) : (kept es).length = (kept fs).length :=
  kept_len (kept_ok fs).1 fun v => ((kept_ok fs).2 v).trans (sp_perm h v).symm
theorem kept_le (es : List Nat) : (kept es).length ≤ es.length := by
  have key : ∀ (ms rows : List Nat), (ms.foldl kp1 rows).length ≤ rows.length + ms.length := by
    intro ms
    induction ms with
    | nil => intro rows; exact Nat.le_refl _
    | cons m ms ih =>
      intro rows
      have := ih (kp1 rows m)
      have h2 : (kp1 rows m).length ≤ rows.length + 1 := by unfold kp1; split <;> simp
      rw [List.foldl_cons, List.length_cons]
      omega
  have := key es []
  rw [List.length_nil, Nat.zero_add] at this
  exact this
/-! parities -/
def par (ι : Nat → Nat) (S : Nat → Bool) (v : Nat) : List Nat → Bool
  | [] => false
  | x :: L => (S x && v.testBit (ι x)) ^^ par ι S v L
theorem par_add (ι : Nat → Nat) (S : Nat → Bool) (v w : Nat) : ∀ L, par ι S (v ^^^ w) L = (par ι S v L ^^ par ι S w L)
  | [] => rfl
  | x :: L => by
    unfold par
    rw [par_add ι S v w L, Nat.testBit_xor]
    cases S x <;> cases v.testBit (ι x) <;> cases w.testBit (ι x) <;> cases par ι S v L <;> cases par ι S w L <;> rfl
theorem par_one {ι : Nat → Nat} {S : Nat → Bool} {p : Nat} : ∀ {L : List Nat}, L.Nodup → (∀ x ∈ L, ι x = ι p → x = p) → par ι S (2 ^ ι p) L = (S p && decide (p ∈ L))
  | [], _, _ => by simp [par]
  | x :: L, hn, hi => by
    have hd := List.nodup_cons.mp hn
    unfold par
    rw [par_one hd.2 fun y hy => hi y (List.mem_cons_of_mem _ hy), Nat.testBit_two_pow]
    by_cases e : x = p
    · subst e
      simp [hd.1]
    · have : ι p ≠ ι x := fun z => e (hi x List.mem_cons_self z.symm)
      have e' : p ≠ x := fun z => e z.symm
      simp [this, e']
/-! ends -/
def ends (es : List (Nat × Nat)) : List Nat := es.flatMap fun e => [e.1, e.2]
def Inj (es : List (Nat × Nat)) (ι : Nat → Nat) : Prop := ∀ x ∈ ends es, ∀ y ∈ ends es, ι x = ι y → x = y
def vec (ι : Nat → Nat) (es : List (Nat × Nat)) : List Nat := es.map fun e => 2 ^ ι e.1 ^^^ 2 ^ ι e.2
def lab (hs : List Int) (x : Nat) : Int := hs.getD x 0
theorem ends_snoc (es : List (Nat × Nat)) (p q : Nat) (x : Nat) : x ∈ ends (es ++ [(p, q)]) ↔ x ∈ ends es ∨ x = p ∨ x = q := by
  unfold ends
  simp
theorem Inj.pre {es : List (Nat × Nat)} {p q : Nat} {ι : Nat → Nat} (h : Inj (es ++ [(p, q)]) ι) : Inj es ι := fun x hx y hy => h x ((ends_snoc es p q x).mpr (.inl hx)) y ((ends_snoc es p q y).mpr (.inl hy))
structure EInv (s : Nat) (hs : List Int) (es : List (Nat × Nat)) (high : Nat) : Prop where
  len : hs.length = s
  lt : ∀ e ∈ es, e.1 < s ∧ e.2 < s
  b1 : high ≤ 8
  b2 : es.length ≤ high + 8
  same : ∀ e ∈ es, lab hs e.1 = lab hs e.2
  conn : ∀ ι, Inj es ι → ∀ x y, x < s → y < s → lab hs x = lab hs y → x = y ∨ (x ∈ ends es ∧ y ∈ ends es ∧ Sp (vec ι es) (2 ^ ι x ^^^ 2 ^ ι y))
  rank : ∀ ι, Inj es ι → (kept (vec ι es)).length = high
theorem EInv.start (s : Nat) : EInv s ((List.range s).map fun i : Nat => (i : Int)) [] 0 := by
  refine ⟨by simp, (fun e he => nomatch he), by omega, by simp, (fun e he => nomatch he), fun ι _ x y hx hy e => .inl ?_, fun ι _ => rfl⟩
  unfold lab at e
  simp [List.getD_eq_getElem?_getD, hx, hy] at e
  omega
theorem vec_snoc (ι : Nat → Nat) (es : List (Nat × Nat)) (p q : Nat) : vec ι (es ++ [(p, q)]) = vec ι es ++ [2 ^ ι p ^^^ 2 ^ ι q] := by unfold vec; simp
section
variable {s : Nat} {hs : List Int} {es : List (Nat × Nat)} {high p q : Nat}
theorem EInv.sp (I : EInv s hs es high) {ι : Nat → Nat} (hi : Inj es ι) {x y : Nat} (hx : x < s) (hy : y < s) (e : lab hs x = lab hs y) : Sp (vec ι es) (2 ^ ι x ^^^ 2 ^ ι y) := by
  rcases I.conn ι hi x y hx hy e with rfl | ⟨_, _, h⟩
  · rw [Nat.xor_self]; exact .zero
  · exact h
theorem EInv.cyc (I : EInv s hs es high) (hp : p < s) (hq : q < s) (e : lab hs p = lab hs q) (h8 : es.length < high + 8) : EInv s hs (es ++ [(p, q)]) high := by
  refine ⟨I.len, fun z hz => ?_, I.b1, by simp; omega, fun z hz => ?_, fun ι hi x y hx hy exy => ?_, fun ι hi => ?_⟩
  · rcases List.mem_append.mp hz with hz | hz
    · exact I.lt z hz
    · rw [List.mem_singleton] at hz; rw [hz]; exact ⟨hp, hq⟩
  · rcases List.mem_append.mp hz with hz | hz
    · exact I.same z hz
    · rw [List.mem_singleton] at hz; rw [hz]; exact e
  · rcases I.conn ι hi.pre x y hx hy exy with h | ⟨h1, h2, h3⟩
    · exact .inl h
    · refine .inr ⟨(ends_snoc es p q x).mpr (.inl h1), (ends_snoc es p q y).mpr (.inl h2), ?_⟩
      rw [vec_snoc]
      exact h3.mono fun z hz => List.mem_append_left _ hz
  · rw [vec_snoc, kept_snoc]
    unfold kp1
    rw [if_pos, I.rank ι hi.pre]
    obtain ⟨k1, k2⟩ := kept_ok (vec ι es)
    exact (ech_span k1).mp ((k2 _).mpr (I.sp hi.pre hp hq e))
theorem lab_map (hs : List Int) (f : Int → Int) {x : Nat} (h : x < hs.length) : lab (hs.map f) x = f (lab hs x) := by
  unfold lab
  simp [List.getD_eq_getElem?_getD, h]
theorem EInv.tie (I : EInv s hs es high) (hp : p < s) (hq : q < s) (e : lab hs p ≠ lab hs q) (h8 : high < 8) : EInv s (hs.map fun z => if z = lab hs q then lab hs p else z) (es ++ [(p, q)]) (high + 1) := by
  have hl : ∀ x, x < s → lab (hs.map fun z => if z = lab hs q then lab hs p else z) x = if lab hs x = lab hs q then lab hs p else lab hs x := fun x hx => lab_map hs _ (by rw [I.len]; exact hx)
  have b2 := I.b2
  refine ⟨by rw [List.length_map]; exact I.len, fun z hz => ?_, by omega, by simp; omega, fun z hz => ?_, fun ι hi x y hx hy exy => ?_, fun ι hi => ?_⟩
  · rcases List.mem_append.mp hz with hz | hz
    · exact I.lt z hz
    · rw [List.mem_singleton] at hz; rw [hz]; exact ⟨hp, hq⟩
  · rcases List.mem_append.mp hz with hz | hz
    · rw [hl _ (I.lt z hz).1, hl _ (I.lt z hz).2, I.same z hz]
    · rw [List.mem_singleton] at hz
      rw [hz, hl p hp, hl q hq, if_neg e, if_pos rfl]
  · rw [hl x hx, hl y hy] at exy
    have up : ∀ {v}, Sp (vec ι es) v → Sp (vec ι (es ++ [(p, q)])) v := fun h => by
      rw [vec_snoc]
      exact h.mono fun z hz => List.mem_append_left _ hz
    have hpq : Sp (vec ι (es ++ [(p, q)])) (2 ^ ι p ^^^ 2 ^ ι q) := by rw [vec_snoc]; exact .mem (by simp)
    have en : ∀ {z w}, z < s → w < s → lab hs z = lab hs w → (w = p ∨ w = q) → z ∈ ends (es ++ [(p, q)]) := fun {z w} hz hw ee ww => by
      rcases I.conn ι hi.pre z w hz hw ee with rfl | ⟨h1, _, _⟩
      · exact (ends_snoc es p q z).mpr (.inr ww)
      · exact (ends_snoc es p q z).mpr (.inl h1)
    have cross : ∀ {z w}, z < s → w < s → lab hs z = lab hs q → lab hs w = lab hs p → Sp (vec ι (es ++ [(p, q)])) (2 ^ ι z ^^^ 2 ^ ι w) := fun {z w} hz hw e1 e2 => by
      have h1 := up (I.sp hi.pre hz hq e1)
      have h2 := up (I.sp hi.pre hw hp e2)
      have := (h1.xor hpq).xor h2
      have r : 2 ^ ι z ^^^ 2 ^ ι q ^^^ (2 ^ ι p ^^^ 2 ^ ι q) ^^^ (2 ^ ι w ^^^ 2 ^ ι p) = 2 ^ ι z ^^^ 2 ^ ι w := by
        generalize 2 ^ ι z = a
        generalize 2 ^ ι q = b
        generalize 2 ^ ι p = c
        generalize 2 ^ ι w = d
        apply Nat.eq_of_testBit_eq
        intro i
        simp only [Nat.testBit_xor]
        cases a.testBit i <;> cases b.testBit i <;> cases c.testBit i <;> cases d.testBit i <;> rfl
      rwa [r] at this
    by_cases cx : lab hs x = lab hs q
    · rw [if_pos cx] at exy
      by_cases cy : lab hs y = lab hs q
      · rcases I.conn ι hi.pre x y hx hy (cx.trans cy.symm) with h | ⟨h1, h2, h3⟩
        · exact .inl h
        · exact .inr ⟨(ends_snoc es p q x).mpr (.inl h1), (ends_snoc es p q y).mpr (.inl h2), up h3⟩
      · rw [if_neg cy] at exy
        exact .inr ⟨en hx hq cx (.inr rfl), en hy hp exy.symm (.inl rfl), cross hx hy cx exy.symm⟩
    · rw [if_neg cx] at exy
      by_cases cy : lab hs y = lab hs q
      · rw [if_pos cy] at exy
        refine .inr ⟨en hx hp exy (.inl rfl), en hy hq cy (.inr rfl), ?_⟩
        rw [Nat.xor_comm]
        exact cross hy hx cy exy
      · rw [if_neg cy] at exy
        rcases I.conn ι hi.pre x y hx hy exy with h | ⟨h1, h2, h3⟩
        · exact .inl h
        · exact .inr ⟨(ends_snoc es p q x).mpr (.inl h1), (ends_snoc es p q y).mpr (.inl h2), up h3⟩
  · rw [vec_snoc, kept_snoc]
    unfold kp1
    rw [if_neg, List.length_append, I.rank ι hi.pre]
    · rfl
    · intro h0
      obtain ⟨k1, k2⟩ := kept_ok (vec ι es)
      have hs0 := (k2 _).mp ((ech_span k1).mpr h0)
      let S : Nat → Bool := fun x => decide (lab hs x = lab hs p)
      let L : List Nat := (List.range s).filter fun x => decide (x ∈ ends (es ++ [(p, q)]))
      have nd : L.Nodup := List.Pairwise.filter _ List.nodup_range
      have mL : ∀ x, x < s → x ∈ ends (es ++ [(p, q)]) → x ∈ L := fun x h1 h2 => List.mem_filter.mpr ⟨List.mem_range.mpr h1, decide_eq_true h2⟩
      have one : ∀ x, x < s → x ∈ ends (es ++ [(p, q)]) → par ι S (2 ^ ι x) L = S x := fun x h1 h2 => by
        rw [par_one nd fun y hy ey => hi y (of_decide_eq_true (List.mem_filter.mp hy).2) x h2 ey]
        simp [mL x h1 h2]
      have t := hs0.test (φ := fun v => par ι S v L) (fun v w => par_add ι S v w L) fun x hx => by
        obtain ⟨z, hz, rfl⟩ := List.mem_map.mp hx
        have hz1 : z.1 ∈ ends es := List.mem_flatMap.mpr ⟨z, hz, by simp⟩
        have hz2 : z.2 ∈ ends es := List.mem_flatMap.mpr ⟨z, hz, by simp⟩
        show par ι S (2 ^ ι z.1 ^^^ 2 ^ ι z.2) L = false
        rw [par_add, one _ (I.lt z hz).1 ((ends_snoc es p q _).mpr (.inl hz1)), one _ (I.lt z hz).2 ((ends_snoc es p q _).mpr (.inl hz2))]
        show (decide (lab hs z.1 = lab hs p) ^^ decide (lab hs z.2 = lab hs p)) = false
        rw [I.same z hz, Bool.xor_self]
      have t' : par ι S (2 ^ ι p ^^^ 2 ^ ι q) L = false := t
      rw [par_add, one p hp ((ends_snoc es p q _).mpr (.inr (.inl rfl))), one q hq ((ends_snoc es p q _).mpr (.inr (.inr rfl)))] at t'
      have hSp : S p = true := decide_eq_true rfl
      have hSq : S q = false := decide_eq_false (fun z => e z.symm)
      rw [hSp, hSq] at t'
      cases t'
end
end La

set_option Elab.async false
set_option linter.all false
set_option maxRecDepth 100000
set_option maxHeartbeats 0
/-! K73j2: names drawn are unlike. -/
namespace K73
open PySem PySem.Spec Mp
open L2 (atI)
def sgc (n : Nat) : Nat := SG.cps.toList.getD n 0
theorem sgc_idx {n : Nat} (h : n < 36) : idxD (.str SG) (.int (n : Int)) = some (.str (txt [sgc n])) ∧ sgc n ∈ SG.cps.toList := by
  have hn : n < SG.cps.toList.length := by
    have : SG.cps.toList.length = 36 := by decide +kernel
    omega
  have hl : SG.length ≤ LIM := by rw [sg_len]; decide
  have e : sgc n = SG.cps.toList[n] := by unfold sgc; rw [List.getD_eq_getElem?_getD, List.getElem?_eq_getElem hn]; rfl
  refine ⟨?_, by rw [e]; exact List.getElem_mem hn⟩
  show (if SG.length ≤ LIM then (atI SG.cps.toList (n : Int)).map fun c => PyData.str ⟨#[c]⟩ else none) = _
  rw [if_pos hl, Mp.atI_nat, List.getElem?_eq_getElem hn, e]
  rfl
theorem sgc_inj0 : ∀ n, n < 36 → ∀ m, m < 36 → sgc n = sgc m → n = m := by decide +kernel
theorem sgc_inj (n m : Nat) (hn : n < 36) (hm : m < 36) (e : sgc n = sgc m) : n = m := sgc_inj0 n hn m hm e
theorem v_names2 (b : Int) (many : Nat) (hm : many ≤ 36) : ∃ xs : List Str, f_names [.int b, .int many] = .ok (xs.map .str) ∧ xs.length = many ∧ (∀ x ∈ xs, isNm x = true) ∧ xs.Nodup := by
  have hs0 : startS 9 [PyData.int b, .int many] = [.val (.int b), .val (.int many), .emp, .emp, .emp, .emp, .emp, .emp, .emp] := rfl
  obtain ⟨n, hn, hn5⟩ : ∃ n : Nat, b % 6 = n ∧ n ≤ 5 := ⟨(b % 6).toNat, by omega, by omega⟩
  obtain ⟨ρ', ⟨b', l, o, hl1, hl2, rfl⟩, hloop⟩ := loopS_inv (enc := fun i : Nat => PyData.int ((i : Nat) : Int)) (xs := List.range (1 + n)) (fun pre ρ => ∃ (b' : Int) (l : List Nat) (o : Option D), l.length = pre.length ∧ SGl l ∧ ρ = [.val (.int b'), .val (.int many), .val (.str SG), .val (.str (txt l)), ov o, .emp, .emp, .emp, .emp]) (h := bodyH (tName 4) (sSeq (sSet 3 (e2 addD (eVar 3) (e2 idxD (eVar 2) (e2 modD (e2 divD (eVar 0) (eC (.int 6))) (eC (.int 36)))))) (sSet 0 (e2 divD (eVar 0) (eC (.int 36)))))) (fun pre i post e ρ hρ => by
    obtain ⟨b', l, o, hl1, hl2, rfl⟩ := hρ
    obtain ⟨c, hc, hcm⟩ := sg_idx (b' / 6 % 36) (by omega) (by omega)
    have hpl : pre.length < 1 + n := by
      have := congrArg List.length e
      simp at this
      omega
    refine ⟨_, ⟨b' / 36, l ++ [c], some (.int i), by simp [hl1], ?_, rfl⟩, .inl ?_⟩
    · intro z hz
      rcases List.mem_append.mp hz with h | h
      · exact hl2 z h
      · rw [List.mem_singleton] at h; rw [h]; exact hcm
    · have ha := add_txt (l := l) (m := [c]) (by simp; unfold LIM; omega)
      simp [d6, m36, d36, hc, ha, ov_v]) (ρ := [.val (.int b), .val (.int many), .val (.str SG), .val (.str (txt [])), .emp, .emp, .emp, .emp, .emp]) ⟨b, [], none, rfl, (fun z hz => nomatch hz), rfl⟩
  rw [List.length_range] at hl1
  have hL : 1 ≤ l.length ∧ l.length ≤ 6 := by omega
  obtain ⟨k, hk, hkl⟩ : ∃ k : Nat, b' / 6 % (l.length : Int) = k ∧ k < l.length := by
    have h1 := Int.emod_nonneg (b' / 6) (show (l.length : Int) ≠ 0 by omega)
    have h2 := Int.emod_lt_of_pos (b' / 6) (show (0 : Int) < l.length by omega)
    exact ⟨(b' / 6 % (l.length : Int)).toNat, by omega, by omega⟩
  have hml : modD (.int (b' / 6)) (.int (l.length : Int)) = some (.int (k : Int)) := by rw [mod_int (by omega), hk]
  have hlen : lenD (.str (txt l)) = some (.int l.length) := by rw [len_str (by rw [txt_len]; unfold LIM; omega), txt_len]
  have hsl1 : slS (.str (txt l)) none (some (k : Int)) = some (.str (txt (l.take k))) := by
    unfold slS
    dsimp only
    rw [if_pos (by rw [txt_len]; unfold LIM; omega), cut_hd l k (by omega)]
  have hsl2 : slS (.str (txt l)) (some ((k : Int) + 1)) none = some (.str (txt (l.drop (k + 1)))) := by
    unfold slS
    dsimp only
    rw [if_pos (by rw [txt_len]; unfold LIM; omega), show (k : Int) + 1 = ((k + 1 : Nat) : Int) from rfl, cut_tl l (k + 1) (by omega)]
  -- the names
  let cc : Nat → Nat := fun i => sgc ((b' / 216 % 36 + 7 * (i : Int)) % 36).toNat
  have hcc : ∀ i : Nat, idxD (.str SG) (.int ((b' / 216 % 36 + 7 * (i : Int)) % 36)) = some (.str (txt [cc i])) ∧ cc i ∈ SG.cps.toList := fun i => by
    obtain ⟨n, hn, hn2⟩ : ∃ n : Nat, (b' / 216 % 36 + 7 * (i : Int)) % 36 = n ∧ n < 36 := ⟨((b' / 216 % 36 + 7 * (i : Int)) % 36).toNat, by omega, by omega⟩
    have := sgc_idx hn2
    show idxD (.str SG) (.int ((b' / 216 % 36 + 7 * (i : Int)) % 36)) = some (.str (txt [sgc ((b' / 216 % 36 + 7 * (i : Int)) % 36).toNat])) ∧ sgc ((b' / 216 % 36 + 7 * (i : Int)) % 36).toNat ∈ SG.cps.toList
    rw [hn, Int.toNat_natCast]
    exact this
  have hinj : ∀ i j, i < 36 → j < 36 → cc i = cc j → i = j := by
    intro i j hi hj e
    obtain ⟨n, hn, hn2⟩ : ∃ n : Nat, (b' / 216 % 36 + 7 * (i : Int)) % 36 = n ∧ n < 36 := ⟨((b' / 216 % 36 + 7 * (i : Int)) % 36).toNat, by omega, by omega⟩
    obtain ⟨m, hm, hm2⟩ : ∃ m : Nat, (b' / 216 % 36 + 7 * (j : Int)) % 36 = m ∧ m < 36 := ⟨((b' / 216 % 36 + 7 * (j : Int)) % 36).toNat, by omega, by omega⟩
    have e' : sgc ((b' / 216 % 36 + 7 * (i : Int)) % 36).toNat = sgc ((b' / 216 % 36 + 7 * (j : Int)) % 36).toNat := e
    rw [hn, hm, Int.toNat_natCast, Int.toNat_natCast] at e'
    have := sgc_inj n m hn2 hm2 e'
    omega
  let nm : Nat → List Nat := fun i => (l.take k ++ [cc i]) ++ l.drop (k + 1)
  have hnl : ∀ i, (nm i).length = l.length := by
    intro i
    simp [nm]
    omega
  have q1 : (lLc [4] (tName 4) tYesE (e2 addD (e2 addD (eVar 7) (e2 idxD (eVar 2) (e2 modD (e2 addD (eVar 6) (e2 mulD (eC (.int 7)) (eVar 4))) (eC (.int 36))))) (eVar 8)) (iR1 (aCons (eVar 1) aNil))) [.val (.int b'), .val (.int many), .val (.str SG), .val (.str (txt l)), ov o, .val (.int k), .val (.int (b' / 216 % 36)), .val (.str (txt (l.take k))), .val (.str (txt (l.drop (k + 1))))] = .ok ((List.range many).map fun i => .str (txt (nm i))) :=
    lLc_mapT (enc := fun i : Nat => PyData.int ((i : Nat) : Int)) (iR1_nat (by simp) (by omega)) (fun i hi => by
      have m7 : mulD (.int 7) (.int (i : Int)) = some (.int (7 * (i : Int))) := mulLt (i : Int) (by omega) (by omega)
      have a1 := add_txt (l := l.take k) (m := [cc i]) (by simp; unfold LIM; omega)
      have a2 := add_txt (l := l.take k ++ [cc i]) (m := l.drop (k + 1)) (by simp; unfold LIM; omega)
      simp only [compH_ap, wipe1, wipe0, tName_ap, List.getElem?_cons_succ, List.getElem?_cons_zero, canPut_e, if_true, List.set_cons_succ, List.set_cons_zero, bind_ok, tYes_ap, e2_ap, eVar_ap, eC_ap, m7, m36, ofO_some, add_int, (hcc i).1, a1, a2, map_ok]
      rfl) (by rw [List.length_range]; unfold LIM; omega)
  refine ⟨(List.range many).map fun i => txt (nm i), runL_rl ?_, by simp, ?_, ?_⟩
  · unfold m_names
    rw [hs0, seq_nx (ρ' := [.val (.int b), .val (.int many), .val (.str SG), .emp, .emp, .emp, .emp, .emp, .emp]) (by simp [SG]), seq_nx (ρ' := [.val (.int b), .val (.int many), .val (.str SG), .val (.str (txt [])), .emp, .emp, .emp, .emp, .emp]) (by simp; rfl), seq_nx (ρ' := [.val (.int b'), .val (.int many), .val (.str SG), .val (.str (txt l)), ov o, .emp, .emp, .emp, .emp])]
    · rw [seq_nx (ρ' := [.val (.int b'), .val (.int many), .val (.str SG), .val (.str (txt l)), ov o, .val (.int k), .emp, .emp, .emp]) (by simp [d6, hlen, hml]), seq_nx (ρ' := [.val (.int b'), .val (.int many), .val (.str SG), .val (.str (txt l)), ov o, .val (.int k), .val (.int (b' / 216 % 36)), .emp, .emp]) (by simp [d216, m36]), seq_nx (ρ' := [.val (.int b'), .val (.int many), .val (.str SG), .val (.str (txt l)), ov o, .val (.int k), .val (.int (b' / 216 % 36)), .val (.str (txt (l.take k))), .val (.str (txt (l.drop (k + 1))))])]
      · rw [sRetL_ap, q1, List.map_map]
        rfl
      · have lim2 : (2 : Nat) ≤ LIM := by decide
        simp [hsl1, hsl2, lim2]
    · have hr : (iR1 (aCons (e2 addD (eC (.int 1)) (e2 modD (eVar 0) (eC (.int 6)))) aNil)) [.val (.int b), .val (.int many), .val (.str SG), .val (.str (txt [])), .emp, .emp, .emp, .emp, .emp] = .ok ((List.range (1 + n)).map fun i : Nat => PyData.int ((i : Nat) : Int)) :=
        iR1_nat (by simp [m6, hn]) (by omega)
      rw [sFor_ap, hr, lift_ok]
      exact hloop
  · intro x hx
    obtain ⟨i, _, rfl⟩ := List.mem_map.mp hx
    refine isNm_txt (by rw [hnl]; exact hL.1) (by rw [hnl]; exact hL.2) ?_
    intro c hc
    simp only [nm, List.mem_append, List.mem_singleton] at hc
    rcases hc with (h | h) | h
    · exact hl2 c (List.mem_of_mem_take h)
    · rw [h]; exact (hcc i).2
    · exact hl2 c (List.mem_of_mem_drop h)
  · unfold List.Nodup
    rw [List.pairwise_map]
    refine List.Pairwise.imp_of_mem ?_ (List.nodup_range (n := many))
    intro i j hi hj hne e
    have e1 : nm i = nm j := by
      have := congrArg (fun t : Str => t.cps.toList) e
      simpa only [txt_cps] using this
    simp only [nm, List.append_assoc] at e1
    have e2 := List.append_cancel_left e1
    rw [List.singleton_append, List.singleton_append] at e2
    injection e2 with e3 _
    exact hne (hinj i j (by have := List.mem_range.mp hi; omega) (by have := List.mem_range.mp hj; omega) e3)
end K73

set_option Elab.async false
set_option linter.all false
set_option maxRecDepth 100000
set_option maxHeartbeats 0
/-! K73k2: ends drawn, with their rank. -/
namespace K73
open PySem PySem.Spec Mp
open L2 (atI)
theorem ends_body2 (b many : Int) (high : Nat) (s : Nat) (h1 : 1 ≤ s) (h2 : s ≤ 1000) (heaps : List Int) (es : List (Nat × Nat)) (hes : es.length < 1000) (I : La.EInv s heaps es high) (j : Int) (a6 a7 a8 a9 : Option D) : ∃ (b' : Int) (high' : Nat) (heaps' : List Int) (es' : List (Nat × Nat)) (c7 c8 c9 : Option D), La.EInv s heaps' es' high' ∧ es'.length ≤ es.length + 1 ∧ bodyH (tName 6) endsB (.int j) [.val (.int b), .val (.int many), .val (.int s), .val (.list (heaps.map .int)), .own (es.map encE), .val (.int (high : Nat)), ov a6, ov a7, ov a8, ov a9, .emp] = .nx [.val (.int b'), .val (.int many), .val (.int s), .val (.list (heaps'.map .int)), .own (es'.map encE), .val (.int (high' : Nat)), .val (.int j), ov c7, ov c8, ov c9, .emp] := by
  have hh := I.len
  have he := I.lt
  obtain ⟨p, hp, hps⟩ := m_sp b h1
  obtain ⟨q, hq, hqs⟩ := m_sp (b / (s : Int)) h1
  have d1 := fun z => d_sp z h1 h2
  have i1 := at_map PyData.int heaps 0 (k := p) (by omega)
  have i2 := at_map PyData.int heaps 0 (k := q) (by omega)
  have lim2 : (2 : Nat) ≤ LIM := by decide
  have lx : La.lab heaps p = heaps.getD p 0 := rfl
  have ly : La.lab heaps q = heaps.getD q 0 := rfl
  generalize heaps.getD p 0 = x at i1 lx
  generalize heaps.getD q 0 = y at i2 ly
  have hlim : es.length < LIM := by unfold LIM; omega
  have hsm : ∀ e ∈ es ++ [(p, q)], e.1 < s ∧ e.2 < s := by
    intro e hm
    rcases List.mem_append.mp hm with h | h
    · exact he e h
    · rw [List.mem_singleton] at h; rw [h]; exact ⟨hps, hqs⟩
  have st : bodyH (tName 6) endsB (.int j) [.val (.int b), .val (.int many), .val (.int s), .val (.list (heaps.map .int)), .own (es.map encE), .val (.int (high : Nat)), ov a6, ov a7, ov a8, ov a9, .emp] = (sIf (tA (toT (e2 eqD (e2 idxD (eVar 3) (eVar 7)) (e2 idxD (eVar 3) (eVar 8)))) (toT (e2 ltD (e2 subD (eB (c1 lenD) (aCons (bVar 4) (aNil))) (eVar 5)) (eC (.int 8))))) (sApp 4 (eTup (aCons (eVar 7) (aCons (eVar 8) (aNil))))) (sIf (tA (toT (e2 neD (e2 idxD (eVar 3) (eVar 7)) (e2 idxD (eVar 3) (eVar 8)))) (toT (e2 ltD (eVar 5) (eC (.int 8))))) (sSeq (sApp 4 (eTup (aCons (eVar 7) (aCons (eVar 8) (aNil))))) (sSeq (sAug 5 (· + ·) (eC (.int 1))) (sSeq (sSet 9 (e2 idxD (eVar 3) (eVar 8))) (sSet 3 (eL (lLc [10] (tName 10) (tYesE) (eI (toT (e2 eqD (eVar 10) (eVar 9))) (e2 idxD (eVar 3) (eVar 7)) (eVar 10)) (iL (eVar 3)))))))) (sNx))) [.val (.int (b / s / s)), .val (.int many), .val (.int s), .val (.list (heaps.map .int)), .own (es.map encE), .val (.int (high : Nat)), .val (.int j), .val (.int p), .val (.int q), ov a9, .emp] := by
    rw [bodyH_ap]
    simp only [tName_ap, List.getElem?_cons_succ, List.getElem?_cons_zero, canPut_ov, if_true, List.set_cons_succ, List.set_cons_zero]
    unfold endsB
    rw [seq_nx (ρ' := [.val (.int b), .val (.int many), .val (.int s), .val (.list (heaps.map .int)), .own (es.map encE), .val (.int (high : Nat)), .val (.int j), .val (.int p), .val (.int q), ov a9, .emp]) (by simp [hp, hq, d1, lim2]), seq_nx (ρ' := [.val (.int (b / s / s)), .val (.int many), .val (.int s), .val (.list (heaps.map .int)), .own (es.map encE), .val (.int (high : Nat)), .val (.int j), .val (.int p), .val (.int q), ov a9, .emp]) (by simp [d1])]
  rw [st]
  clear st
  by_cases g1 : x = y ∧ (es.length : Int) - high < 8
  · refine ⟨b / s / s, high, heaps, es ++ [(p, q)], some (.int p), some (.int q), a9, I.cyc hps hqs (by rw [lx, ly]; exact g1.1) (by have := g1.2; omega), by simp, ?_⟩
    rw [if_t (by simp [i1, i2, g1.1, g1.2])]
    simp [lim2, hlim, ov_v, encE]
  · have f1 : (tA (toT (e2 eqD (e2 idxD (eVar 3) (eVar 7)) (e2 idxD (eVar 3) (eVar 8)))) (toT (e2 ltD (e2 subD (eB (c1 lenD) (aCons (bVar 4) (aNil))) (eVar 5)) (eC (.int 8))))) [.val (.int (b / s / s)), .val (.int many), .val (.int s), .val (.list (heaps.map .int)), .own (es.map encE), .val (.int (high : Nat)), .val (.int j), .val (.int p), .val (.int q), ov a9, .emp] = .ok false := by
      by_cases e : x = y
      · have : ¬ (es.length : Int) - high < 8 := fun z => g1 ⟨e, z⟩
        simp [i1, i2, e, this]
      · simp [i1, i2, e]
    rw [if_f f1]
    by_cases c2 : x ≠ y ∧ (high : Int) < 8
    · refine ⟨b / s / s, high + 1, heaps.map fun z => if z = y then x else z, es ++ [(p, q)], some (.int p), some (.int q), some (.int y), (by have := I.tie hps hqs (by rw [lx, ly]; exact c2.1) (by have := c2.2; omega); rw [lx, ly] at this; exact this), by simp, ?_⟩
      rw [if_t (by simp [i1, i2, c2.1, c2.2])]
      have q1 : (lLc [10] (tName 10) tYesE (eI (toT (e2 eqD (eVar 10) (eVar 9))) (e2 idxD (eVar 3) (eVar 7)) (eVar 10)) (iL (eVar 3))) [.val (.int (b / s / s)), .val (.int many), .val (.int s), .val (.list (heaps.map .int)), .own ((es ++ [(p, q)]).map encE), .val (.int ((high + 1 : Nat) : Int)), .val (.int j), .val (.int p), .val (.int q), .val (.int y), .emp] = .ok (heaps.map fun z => .int (if z = y then x else z)) :=
        lLc_mapT (enc := PyData.int) (by simp) (fun z _ => by
          by_cases e : z = y
          · simp [e, i1]
          · simp [e]) (by unfold LIM; omega)
      rw [seq_nx (ρ' := [.val (.int (b / s / s)), .val (.int many), .val (.int s), .val (.list (heaps.map .int)), .own ((es ++ [(p, q)]).map encE), .val (.int (high : Nat)), .val (.int j), .val (.int p), .val (.int q), ov a9, .emp]) (by simp [lim2, hlim, encE]), seq_nx (ρ' := [.val (.int (b / s / s)), .val (.int many), .val (.int s), .val (.list (heaps.map .int)), .own ((es ++ [(p, q)]).map encE), .val (.int ((high + 1 : Nat) : Int)), .val (.int j), .val (.int p), .val (.int q), ov a9, .emp]) (by simp), seq_nx (ρ' := [.val (.int (b / s / s)), .val (.int many), .val (.int s), .val (.list (heaps.map .int)), .own ((es ++ [(p, q)]).map encE), .val (.int ((high + 1 : Nat) : Int)), .val (.int j), .val (.int p), .val (.int q), .val (.int y), .emp]) (by simp [i2])]
      simp only [sSet_ap, eL_ap, q1]
      simp [ov_v]
    · refine ⟨b / s / s, high, heaps, es, some (.int p), some (.int q), a9, I, by omega, ?_⟩
      have f2 : (tA (toT (e2 neD (e2 idxD (eVar 3) (eVar 7)) (e2 idxD (eVar 3) (eVar 8)))) (toT (e2 ltD (eVar 5) (eC (.int 8))))) [.val (.int (b / s / s)), .val (.int many), .val (.int s), .val (.list (heaps.map .int)), .own (es.map encE), .val (.int (high : Nat)), .val (.int j), .val (.int p), .val (.int q), ov a9, .emp] = .ok false := by
        by_cases e : x = y
        · simp [i1, i2, e]
        · have : ¬ (high : Int) < 8 := fun z => c2 ⟨e, z⟩
          simp [i1, i2, e, this]
      rw [if_f f2]
      simp [ov_v]
theorem v_ends2 (b : Int) (many s : Nat) (hm : many ≤ 100) (h1 : 1 ≤ s) (h2 : s ≤ 100) : ∃ es : List (Nat × Nat), f_ends [.int b, .int many, .int s] = .ok (es.map encE) ∧ es.length ≤ many ∧ ∃ hs high, La.EInv s hs es high := by
  obtain ⟨ρ', ⟨b', high, heaps, es, a6, a7, a8, a9, k2, k3, rfl⟩, hloop⟩ := loopS_inv (enc := fun i : Nat => PyData.int ((i : Nat) : Int)) (xs := List.range many) (fun pre ρ => ∃ (b' : Int) (high : Nat) (heaps : List Int) (es : List (Nat × Nat)) (a6 a7 a8 a9 : Option D), es.length ≤ pre.length ∧ La.EInv s heaps es high ∧ ρ = [.val (.int b'), .val (.int many), .val (.int s), .val (.list (heaps.map .int)), .own (es.map encE), .val (.int (high : Nat)), ov a6, ov a7, ov a8, ov a9, .emp]) (h := bodyH (tName 6) endsB) (fun pre i post e ρ hρ => by
    obtain ⟨b', high, heaps, es, a6, a7, a8, a9, k2, k3, rfl⟩ := hρ
    have hpl : pre.length < many := by
      have := congrArg List.length e
      simp at this
      omega
    obtain ⟨b'', high', heaps', es', c7, c8, c9, m1, m2, m4⟩ := ends_body2 b' many high s h1 (by omega) heaps es (by omega) k3 (i : Int) a6 a7 a8 a9
    exact ⟨_, ⟨b'', high', heaps', es', some (.int i), c7, c8, c9, by simp; omega, m1, rfl⟩, .inl m4⟩) (ρ := [.val (.int b), .val (.int many), .val (.int s), .val (.list (((List.range s).map fun i : Nat => (i : Int)).map .int)), .own [], .val (.int 0), .emp, .emp, .emp, .emp, .emp]) ⟨b, 0, (List.range s).map fun i : Nat => (i : Int), [], none, none, none, none, by simp, La.EInv.start s, rfl⟩
  rw [List.length_range] at k2
  refine ⟨es, runL_rl ?_, k2, heaps, high, k3⟩
  have hs0 : startS 11 [PyData.int b, .int many, .int s] = [.val (.int b), .val (.int many), .val (.int s), .emp, .emp, .emp, .emp, .emp, .emp, .emp, .emp] := rfl
  have hrg : lRg1 (eVar 2) [.val (.int b), .val (.int many), .val (.int s), .emp, .emp, .emp, .emp, .emp, .emp, .emp, .emp] = .ok (((List.range s).map fun i : Nat => (i : Int)).map .int) := by
    have key : ∀ z : Int, -(2 ^ 62) ≤ z ∧ z ≤ 100000 → lRg1 (eVar 2) [.val (.int b), .val (.int many), .val (.int z), .emp, .emp, .emp, .emp, .emp, .emp, .emp, .emp] = .ok (rng 0 z.toNat) := by
      intro z hz
      rw [lRg1_ap]
      simp only [eVar_ap, List.getElem?_cons_succ, List.getElem?_cons_zero, bind_ok]
      rw [if_pos hz]
    rw [key _ (by omega), rng_map, List.map_map, Int.toNat_natCast]
    rfl
  unfold m_ends
  rw [hs0, seq_nx (ρ' := [.val (.int b), .val (.int many), .val (.int s), .val (.list (((List.range s).map fun i : Nat => (i : Int)).map .int)), .emp, .emp, .emp, .emp, .emp, .emp, .emp]) (by simp only [sSet_ap, eL_ap, hrg]; rfl), seq_nx (ρ' := [.val (.int b), .val (.int many), .val (.int s), .val (.list (((List.range s).map fun i : Nat => (i : Int)).map .int)), .own [], .emp, .emp, .emp, .emp, .emp, .emp]) (by simp), seq_nx (ρ' := [.val (.int b), .val (.int many), .val (.int s), .val (.list (((List.range s).map fun i : Nat => (i : Int)).map .int)), .own [], .val (.int 0), .emp, .emp, .emp, .emp, .emp]) (by simp)]
  rw [seq_nx (ρ' := [.val (.int b'), .val (.int many), .val (.int s), .val (.list (heaps.map .int)), .own (es.map encE), .val (.int (high : Nat)), ov a6, ov a7, ov a8, ov a9, .emp])]
  · simp
  · rw [sFor_ap, iR1_nat (n := many) (by simp) (by omega), lift_ok]
    exact hloop
end K73

set_option Elab.async false
set_option linter.all false
set_option maxRecDepth 100000
set_option maxHeartbeats 0
/-! La3: the whole numbers' rows are the bits' rows. -/
namespace La
open PySem PySem.Spec Mp K73
theorem lo_of (k a : Nat) : lo (2 ^ k * (2 * a + 1)) = k := by
  refine lo_uniq ?_ fun j hj => ?_
  · rw [Nat.testBit_two_pow_mul]; simp
  · rw [Nat.testBit_two_pow_mul]; simp [Nat.not_le.mpr hj]
theorem lead_int {r : Nat} (h : r ≠ 0) : Builtin.bitAnd (r : Int) (-(r : Int)) = 2 ^ lo r := by
  obtain ⟨k, a, e⟩ := odd_part r h
  have e2 : (r : Int) = 2 ^ k * (2 * (a : Int) + 1) := by
    rw [e, Int.natCast_mul, PySem.W.kbt_cast]
    simp
  have e3 : lo r = k := by rw [e, lo_of]
  rw [e3, e2]
  exact PySem.W.kbt_low k a
theorem and_pow (v k : Nat) : (Builtin.bitAnd (v : Int) (2 ^ k) = 0) ↔ v.testBit k = false := by
  rw [PySem.W.kbt_bit, Nat.testBit_eq_decide_div_mod_eq]
  have e2 : ((v : Int) / 2 ^ k) = ((v / 2 ^ k : Nat) : Int) := by rw [← PySem.W.kbt_cast]; rfl
  rw [e2]
  have hp : (0 : Int) < 2 ^ k := PySem.W.kbt_pos k
  have hm : v / 2 ^ k % 2 = 0 ∨ v / 2 ^ k % 2 = 1 := by omega
  rcases hm with hm | hm
  · have : ((v / 2 ^ k : Nat) : Int) % 2 = 0 := by omega
    rw [this, hm]; simp
  · have : ((v / 2 ^ k : Nat) : Int) % 2 = 1 := by omega
    rw [this, hm]
    simp
    omega
theorem xor_int (a b : Nat) : Builtin.bitXor (a : Int) (b : Int) = ((a ^^^ b : Nat) : Int) := by
  rw [_root_.Bits.bitXor_pp (Int.natCast_nonneg _) (Int.natCast_nonneg _)]
  simp
theorem stepR_stp (v a : Nat) : stepR (v : Int) (a : Int) = ((stp v a : Nat) : Int) := by
  by_cases h0 : a = 0
  · subst h0
    unfold stepR stp
    rw [show ((0 : Nat) : Int) = 0 from rfl, PyProof.Rows.bitAnd_zero]
    simp [PyProof.Rows.bitAnd_zero]
  · unfold stepR stp
    rw [bAnd_assoc, lead_int h0]
    cases hv : v.testBit (lo a) with
    | false => rw [if_pos ((and_pow v (lo a)).mpr hv)]; simp
    | true => rw [if_neg (fun z => by rw [(and_pow v (lo a)).mp z] at hv; cases hv), xor_int]; simp
theorem clr_clrN {m : Nat} (hm : m ≠ 0) (r : Nat) : clr (m : Int) (r : Int) = ((clrN m r : Nat) : Int) := by
  unfold clr clrN
  rw [lead_int hm]
  cases hv : r.testBit (lo m) with
  | false => rw [if_pos ((and_pow r (lo m)).mpr hv)]; simp
  | true => rw [if_neg (fun z => by rw [(and_pow r (lo m)).mp z] at hv; cases hv), xor_int]; simp
theorem fold_red (A : List Nat) : ∀ v : Nat, (A.map ci).foldl stepR (v : Int) = ((red A v : Nat) : Int) := by
  unfold red
  induction A with
  | nil => intro v; rfl
  | cons a A ih => intro v; rw [List.map_cons, List.foldl_cons, List.foldl_cons]; show (A.map ci).foldl stepR (stepR (v : Int) (a : Int)) = _; rw [stepR_stp, ih]
theorem redL_N (ns : List Nat) : redL (ns.map ci) = (redN ns).map ci := by
  have key : ∀ (ms rows : List Nat), (ms.map ci).foldl redStep (rows.map ci) = (ms.foldl stpN rows).map ci := by
    intro ms
    induction ms with
    | nil => intro rows; rfl
    | cons m ms ih =>
      intro rows
      rw [List.map_cons, List.foldl_cons, List.foldl_cons, ← ih]
      congr 1
      unfold redStep stpN
      show (let k := (rows.map ci).foldl stepR (m : Int); if k = 0 then rows.map ci else (rows.map ci).map (clr k) ++ [k]) = _
      rw [fold_red]
      by_cases h0 : red rows m = 0
      · rw [h0]; simp
      · have : ¬ ((red rows m : Nat) : Int) = 0 := by omega
        dsimp only
        rw [if_neg this, if_neg h0, List.map_append, List.map_map, List.map_map]
        congr 1
        apply List.map_congr_left
        intro r _
        exact clr_clrN h0 r
  exact key ns []
def edgeN (K : List Str) (t : Tie) : Nat := 2 ^ ix K t.2.1 ^^^ 2 ^ ix K t.2.2
theorem pow_ci (k : Nat) : (2 : Int) ^ k = ((2 ^ k : Nat) : Int) := by rw [PySem.W.kbt_cast]
theorem edge_N (K : List Str) (t : Tie) : edge K t = ((edgeN K t : Nat) : Int) := by
  unfold edge edgeN
  rw [pow_ci, pow_ci, xor_int]
theorem evL_N (K : List Str) (ns : List Tie) : evL K ns = (kept (ns.map (edgeN K))).map ci := by
  have key : ∀ (ms : List Tie) (rows : List Nat), ms.foldl (evStep K) (rows.map ci) = ((ms.map (edgeN K)).foldl kp1 rows).map ci := by
    intro ms
    induction ms with
    | nil => intro rows; rfl
    | cons m ms ih =>
      intro rows
      rw [List.foldl_cons, List.map_cons, List.foldl_cons, ← ih]
      congr 1
      unfold evStep kp1
      rw [edge_N, fold_red]
      by_cases h0 : red rows (edgeN K m) = 0
      · rw [h0]; simp
      · have : ¬ ((red rows (edgeN K m) : Nat) : Int) = 0 := by omega
        rw [if_neg this, if_neg h0, List.map_append]
        rfl
  exact key ns []
theorem rk_kept (ns : List Tie) : rk ns = (kept (ns.map (edgeN (setS (pts ns))))).length := by
  unfold rk
  rw [evL_N, List.length_map]
theorem setS_perm {xs ys : List Str} (h : ∀ x, x ∈ xs ↔ x ∈ ys) : setS xs = setS ys :=
  asc_uniq (asc_setS xs) (asc_setS ys) fun x => by rw [mem_setS, mem_setS]; exact h x
theorem pts_perm {ns ms : List Tie} (h : ns.Perm ms) : setS (pts ns) = setS (pts ms) := setS_perm fun x => by
  unfold pts
  simp only [List.mem_append, List.mem_map]
  constructor
  · rintro (⟨t, ht, e⟩ | ⟨t, ht, e⟩)
    · exact .inl ⟨t, h.mem_iff.mp ht, e⟩
    · exact .inr ⟨t, h.mem_iff.mp ht, e⟩
  · rintro (⟨t, ht, e⟩ | ⟨t, ht, e⟩)
    · exact .inl ⟨t, h.mem_iff.mpr ht, e⟩
    · exact .inr ⟨t, h.mem_iff.mpr ht, e⟩
theorem rk_perm {ns ms : List Tie} (h : ns.Perm ms) : rk ns = rk ms := by
  rw [rk_kept, rk_kept, pts_perm h]
  exact kept_perm (h.map _)
/-! sorted -/
theorem srt_pair (ds : List D) : (srtL ds).Pairwise fun a b => PySem.W.dataLe false (fun d : D => d) a b = true :=
  PySem.W.sort_pairwise (PySem.W.sortLe_total _ false _) ds
theorem le_of_dataLe {a b : D} (h : PySem.W.dataLe false (fun d : D => d) a b = true) : PySem.W.dataLt b a = false := by
  have h' : (!PySem.W.dataLt b a) = true := h
  rwa [Bool.not_eq_true'] at h'
theorem str_lt {x y : Str} (h : x ≠ y) (h2 : PySem.W.dataLt (.str y) (.str x) = false) : strLt x y = true := by
  rw [PySem.W.dataLt_str] at h2
  rw [strLt_iff]
  have h3 : ¬ y.cps.toList < x.cps.toList := of_decide_eq_false h2
  have h4 : x.cps.toList ≤ y.cps.toList := List.not_lt.mp h3
  rcases List.le_iff_lt_or_eq.mp h4 with h5 | h5
  · exact h5
  · exact absurd (PySem.W.str_of_cps h5) h
theorem asc_of {xs : List Str} (h : xs.Pairwise fun a b => strLt a b = true) : ascR xs = true := by
  induction xs with
  | nil => rfl
  | cons x xs ih =>
    have hp := List.pairwise_cons.mp h
    cases xs with
    | nil => rfl
    | cons y ys =>
      rw [ascR_cons, hp.1 y List.mem_cons_self, ih hp.2]
      rfl
/-- sorted texts rise -/
theorem srt_asc {xs ys : List Str} (hn : xs.Nodup) (h : srtL (xs.map .str) = ys.map .str) (hp : ys.Perm xs) : ascR ys = true := by
  have h1 := srt_pair (xs.map .str)
  rw [h, List.pairwise_map] at h1
  have hn' : ys.Nodup := hp.nodup_iff.mpr hn
  exact asc_of ((h1.and hn').imp fun ⟨a, b⟩ => str_lt b (le_of_dataLe a))
theorem tie_lt {s t : Tie} (h : s.1 ≠ t.1) (h2 : PySem.W.dataLt (encT t) (encT s) = false) : strLt s.1 t.1 = true := by
  unfold encT at h2
  rw [PySem.W.dataLt_tuple, PySem.W.dataLt_cons (by rfl)] at h2
  have e : PyData.eqv (.str t.1) (.str s.1) = false := by
    have : ¬ t.1 = s.1 := fun z => h z.symm
    simp [PyData.eqv, this]
  rw [e, if_neg Bool.false_ne_true] at h2
  exact str_lt h h2
theorem srt_ties_asc {ts ms : List Tie} (hn : (ts.map (·.1)).Nodup) (h : srtL (ts.map encT) = ms.map encT) (hp : ms.Perm ts) : ascR (ms.map (·.1)) = true := by
  have h1 := srt_pair (ts.map encT)
  rw [h, List.pairwise_map] at h1
  have hn' : (ms.map (·.1)).Nodup := (hp.map _).nodup_iff.mpr hn
  unfold List.Nodup at hn'
  rw [List.pairwise_map] at hn'
  apply asc_of
  rw [List.pairwise_map]
  exact (h1.and hn').imp fun ⟨a, b⟩ => tie_lt b (le_of_dataLe a)
end La

set_option Elab.async false
set_option linter.all false
set_option maxRecDepth 100000
set_option maxHeartbeats 0
/-! K73l2: nets drawn are nets. -/
namespace K73
open PySem PySem.Spec Mp
open L2 (atI)
theorem v_net2 (ns : List Int) (k : Nat) : ∃ ts : List Tie, f_net [scr ns, .int k] = .ok (ts.map encT) ∧ ts.length ≤ 12 ∧ (∀ t ∈ ts, nmT t) ∧ goodN ts = true ∧ fitsN ts = true := by
  obtain ⟨b0, hb0⟩ := v_big ns k
  obtain ⟨b1, hb1⟩ := v_big ns (k + 1)
  obtain ⟨b2, hb2⟩ := v_big ns (k + 2)
  rw [show ((k + 1 : Nat) : Int) = (k : Int) + 1 from rfl] at hb1
  rw [show ((k + 2 : Nat) : Int) = (k : Int) + 2 from rfl] at hb2
  have hs0 : startS 9 [scr ns, PyData.int k] = [.val (scr ns), .val (.int k), .emp, .emp, .emp, .emp, .emp, .emp, .emp] := rfl
  generalize scr ns = s at *
  obtain ⟨sp, hsp, sp1, sp2⟩ := spread_of b0
  obtain ⟨many, hmany, hm12⟩ : ∃ n : Nat, b0 / 8 % 13 = n ∧ n ≤ 12 := ⟨(b0 / 8 % 13).toNat, by omega, by omega⟩
  obtain ⟨es, he1, he2, hs, high, I⟩ := v_ends2 b1 many sp (by omega) (by omega) (by omega)
  have he3 := I.lt
  obtain ⟨tn, ht1, ht2, ht3, ht4⟩ := v_names2 (b0 / 104) es.length (by omega)
  obtain ⟨kn, hk1, hk2, hk3, hk4⟩ := v_names2 b2 10 (by omega)
  have hk1' : f_names [.int b2, .int 10] = .ok (kn.map .str) := hk1
  have lim1 : (1 : Nat) ≤ LIM := by decide
  have lim2 : (2 : Nat) ≤ LIM := by decide
  have lim8 : (8 : Nat) ≤ LIM := by decide
  obtain ⟨ρ', ⟨ts, a7, a8, t1, t2, t3, t4, t5, t6, rfl⟩, hloop⟩ := loopS_inv (enc := fun p : Str × (Nat × Nat) => PyData.tuple [.str p.1, encE p.2]) (xs := tn.zip es) (fun pre ρ => ∃ (ts : List Tie) (a7 a8 : Option D), ts.length = pre.length ∧ (∀ t ∈ ts, nmT t) ∧ ts.map (·.1) = pre.map (·.1) ∧ (∀ K, ts.map (La.edgeN K) = pre.map fun p => 2 ^ ix K (kn.getD p.2.1 "") ^^^ 2 ^ ix K (kn.getD p.2.2 "")) ∧ (∀ p ∈ pre, kn.getD p.2.1 "" ∈ pts ts ∧ kn.getD p.2.2 "" ∈ pts ts) ∧ (∀ t ∈ ts, tieOk t = true) ∧ ρ = [.val s, .val (.int k), .val (.int b0), .val (.list (es.map encE)), .val (.list (tn.map .str)), .val (.list (kn.map .str)), .own (ts.map encT), ov a7, ov a8]) (h := bodyH (tTupT 2 (tsCons (tName 7) (tsCons (tName 8) (tsNil)))) (sApp 6 (e2 addD (eTup (aCons (eVar 7) (aNil))) (eB (c1 tupleD) (aCons (eL (eB (cl1 sortD) (aCons (eL (lLst (aCons (e2 idxD (eVar 5) (e2 idxD (eVar 8) (eC (.int 0)))) (aCons (e2 idxD (eVar 5) (e2 idxD (eVar 8) (eC (.int 1)))) (aNil))))) (aNil)))) (aNil)))))) (fun pre x post e ρ hρ => by
    obtain ⟨ts, a7, a8, t1, t2, t3, t4, t5, t6, rfl⟩ := hρ
    obtain ⟨nm, p, q⟩ := x
    have hx : (nm, p, q) ∈ tn.zip es := by rw [e]; simp
    have hnm := ht3 nm (List.of_mem_zip hx).1
    obtain ⟨hp, hq⟩ := he3 (p, q) (List.of_mem_zip hx).2
    have hpl : pre.length < 13 := by
      have := congrArg List.length e
      simp at this
      omega
    have i1 := at_map PyData.str kn "" (k := p) (by omega)
    have i2 := at_map PyData.str kn "" (k := q) (by omega)
    have n1 : isNm (kn.getD p "") = true := by
      rw [List.getD_eq_getElem?_getD, List.getElem?_eq_getElem (by omega : p < kn.length)]
      exact hk3 _ (List.getElem_mem _)
    have n2 : isNm (kn.getD q "") = true := by
      rw [List.getD_eq_getElem?_getD, List.getElem?_eq_getElem (by omega : q < kn.length)]
      exact hk3 _ (List.getElem_mem _)
    generalize hX : kn.getD p "" = x at i1 n1
    generalize hY : kn.getD q "" = y at i2 n2
    obtain ⟨zs, z1, z2⟩ := srt_strs [x, y]
    have z3 := z2.length_eq
    obtain ⟨u, v, rfl⟩ : ∃ u v, zs = [u, v] := by
      match zs, z3 with
      | [u, v], _ => exact ⟨u, v, rfl⟩
    have hso := sorted_str [x, y] (show 2 ≤ LIM by decide)
    have hu : isNm u = true ∧ isNm v = true := by
      have m1 : u ∈ [x, y] := z2.mem_iff.mp (by simp)
      have m2 : v ∈ [x, y] := z2.mem_iff.mp (by simp)
      simp at m1 m2
      constructor
      · rcases m1 with rfl | rfl
        · exact n1
        · exact n2
      · rcases m2 with rfl | rfl
        · exact n1
        · exact n2
    have huv : (u = x ∧ v = y) ∨ (u = y ∧ v = x) := by
      have c1 := z2.mem_iff (a := u)
      have c2 := z2.mem_iff (a := v)
      simp at c1 c2
      have d1 := z2.mem_iff (a := x)
      have d2 := z2.mem_iff (a := y)
      simp at d1 d2
      rcases c1 with c1 | c1
      · rcases c2 with c2 | c2
        · rcases d2 with d2 | d2
          · exact .inl ⟨c1, c2.trans (c1.symm.trans d2.symm)⟩
          · exact .inl ⟨c1, d2.symm⟩
        · exact .inl ⟨c1, c2⟩
      · rcases c2 with c2 | c2
        · exact .inr ⟨c1, c2⟩
        · rcases d1 with d1 | d1
          · exact .inr ⟨c1, c2.trans (c1.symm.trans d1.symm)⟩
          · exact .inr ⟨c1, d1.symm⟩
    have hle : strLt v u = false := by
      have sp := La.srt_pair ([x, y].map .str)
      rw [z1] at sp
      have l1 := La.le_of_dataLe ((List.pairwise_cons.mp sp).1 (.str v) (by simp))
      rw [PySem.W.dataLt_str] at l1
      cases hc : strLt v u with
      | false => rfl
      | true => rw [strLt_iff] at hc; exact absurd hc (of_decide_eq_false l1)
    refine ⟨_, ⟨ts ++ [(nm, u, v)], some (.str nm), some (encE (p, q)), by simp [t1], ?_, by rw [List.map_append, List.map_append, t3]; rfl, ?_, ?_, ?_, rfl⟩, .inl ?_⟩
    · intro t ht
      rcases List.mem_append.mp ht with h | h
      · exact t2 t h
      · rw [List.mem_singleton] at h; rw [h]; exact ⟨hnm, hu.1, hu.2⟩
    · intro K
      rw [List.map_append, List.map_append, t4 K]
      congr 1
      show [2 ^ ix K u ^^^ 2 ^ ix K v] = [2 ^ ix K (kn.getD p "") ^^^ 2 ^ ix K (kn.getD q "")]
      rw [hX, hY]
      rcases huv with ⟨rfl, rfl⟩ | ⟨rfl, rfl⟩
      · rfl
      · rw [Nat.xor_comm]
    · intro z hz
      have up : ∀ w, w ∈ pts ts → w ∈ pts (ts ++ [(nm, u, v)]) := fun w hw => (pts_snoc ts nm u v w).mpr (.inl hw)
      rcases List.mem_append.mp hz with h | h
      · exact ⟨up _ (t5 z h).1, up _ (t5 z h).2⟩
      · rw [List.mem_singleton] at h
        rw [h]
        show kn.getD p "" ∈ _ ∧ kn.getD q "" ∈ _
        rw [hX, hY]
        rcases huv with ⟨rfl, rfl⟩ | ⟨rfl, rfl⟩
        · exact ⟨(pts_snoc ts nm _ _ _).mpr (.inr (.inl rfl)), (pts_snoc ts nm _ _ _).mpr (.inr (.inr rfl))⟩
        · exact ⟨(pts_snoc ts nm _ _ _).mpr (.inr (.inr rfl)), (pts_snoc ts nm _ _ _).mpr (.inr (.inl rfl))⟩
    · intro t ht
      rcases List.mem_append.mp ht with h | h
      · exact t6 t h
      · rw [List.mem_singleton] at h
        rw [h]
        unfold tieOk
        rw [hnm, hu.1, hu.2, hle]
        rfl
    · have e0 : idxD (encE (p, q)) (.int 0) = some (.int (p : Int)) := rfl
      have e1 : idxD (encE (p, q)) (.int 1) = some (.int (q : Int)) := rfl
      have hs : sortD (.list [.str x, .str y]) = some [.str u, .str v] := by
        unfold sortD
        dsimp only
        have hso' : srtOk [PyData.str x, .str y] = true := hso
        rw [if_pos hso']
        exact congrArg some z1
      have hadd : addD (.tuple [.str nm]) (.tuple [.str u, .str v]) = some (.tuple [.str nm, .str u, .str v]) := add_tup (show 1 + 2 ≤ LIM by decide)
      have hlt : ts.length < LIM := by unfold LIM; omega
      simp [e0, e1, i1, i2, lim1, lim2, hs, tupleD, hadd, hlt, ov_v, encT]) (ρ := [.val s, .val (.int k), .val (.int b0), .val (.list (es.map encE)), .val (.list (tn.map .str)), .val (.list (kn.map .str)), .own [], .emp, .emp]) ⟨[], none, none, rfl, (fun t ht => nomatch ht), rfl, (fun K => rfl), (fun p hp => nomatch hp), (fun t ht => nomatch ht), rfl⟩
  obtain ⟨ms, s1, s2⟩ := srt_ties ts
  have htl : ts.length ≤ 12 := by
    rw [t1, List.length_zip]
    omega
  have hsrt : sortD (.list (ts.map encT)) = some (ms.map encT) := by
    unfold sortD
    dsimp only
    rw [if_pos (sorted_ties ts (by unfold LIM; omega)), s1]
  have hz1 : (tn.zip es).map (·.1) = tn := List.map_fst_zip (by omega)
  have hz2 : (tn.zip es).map (·.2) = es := List.map_snd_zip (by omega)
  rw [hz1] at t3
  have hasc : ascR (ms.map (·.1)) = true := La.srt_ties_asc (by rw [t3]; exact ht4) s1 s2
  have hok : ms.all tieOk = true := List.all_eq_true.mpr fun t ht => t6 t (s2.mem_iff.mp ht)
  have hrk : rk ts = high := by
    rw [La.rk_kept, t4]
    have hv : ((tn.zip es).map fun p => 2 ^ ix (setS (pts ts)) (kn.getD p.2.1 "") ^^^ 2 ^ ix (setS (pts ts)) (kn.getD p.2.2 "")) = La.vec (fun x => ix (setS (pts ts)) (kn.getD x "")) es := by
      unfold La.vec
      conv => rhs; rw [← hz2]
      rw [List.map_map]
      rfl
    rw [hv]
    refine I.rank _ ?_
    have inK : ∀ x ∈ La.ends es, kn.getD x "" ∈ setS (pts ts) ∧ x < kn.length := by
      intro x hx
      obtain ⟨e, he, hxe⟩ := List.mem_flatMap.mp hx
      have he' : e ∈ (tn.zip es).map (·.2) := by rw [hz2]; exact he
      obtain ⟨z, hz, rfl⟩ := List.mem_map.mp he'
      have := t5 z hz
      have hl := he3 z.2 he
      simp only [List.mem_cons, List.not_mem_nil, or_false] at hxe
      rcases hxe with rfl | rfl
      · exact ⟨(mem_setS _ _).mpr this.1, by omega⟩
      · exact ⟨(mem_setS _ _).mpr this.2, by omega⟩
    intro x hx y hy exy
    have h1 := inK x hx
    have h2 := inK y hy
    have h3 : kn.getD x "" = kn.getD y "" := ix_inj h1.1 h2.1 exy
    rw [List.getD_eq_getElem?_getD, List.getD_eq_getElem?_getD, List.getElem?_eq_getElem h1.2, List.getElem?_eq_getElem h2.2] at h3
    exact (List.getElem_inj hk4).mp h3
  have hfit : fitsN ms = true := by
    unfold fitsN
    have b1 := I.b1
    have b2 := I.b2
    have e1 : ms.length = es.length := by rw [s2.length_eq, t1, List.length_zip]; omega
    rw [← La.rk_perm s2.symm, hrk, e1]
    have c1 : es.length ≤ 12 := by omega
    simp only [c1, b1, decide_true, Bool.true_and, decide_eq_true_eq]
    omega
  refine ⟨ms, runL_rl ?_, by rw [s2.length_eq]; exact htl, (fun t ht => t2 t (s2.mem_iff.mp ht)), by unfold goodN; rw [hok, hasc]; rfl, hfit⟩
  unfold m_net
  rw [hs0, seq_nx (ρ' := [.val s, .val (.int k), .val (.int b0), .emp, .emp, .emp, .emp, .emp, .emp]) (by simp [hb0])]
  rw [seq_nx (ρ' := [.val s, .val (.int k), .val (.int b0), .val (.list (es.map encE)), .emp, .emp, .emp, .emp, .emp])]
  · rw [seq_nx (ρ' := [.val s, .val (.int k), .val (.int b0), .val (.list (es.map encE)), .val (.list (tn.map .str)), .emp, .emp, .emp, .emp]) (by simp [d104, ht1]), seq_nx (ρ' := [.val s, .val (.int k), .val (.int b0), .val (.list (es.map encE)), .val (.list (tn.map .str)), .val (.list (kn.map .str)), .emp, .emp, .emp]) (by simp [hb2, hk1']), seq_nx (ρ' := [.val s, .val (.int k), .val (.int b0), .val (.list (es.map encE)), .val (.list (tn.map .str)), .val (.list (kn.map .str)), .own [], .emp, .emp]) (by simp), seq_nx (ρ' := [.val s, .val (.int k), .val (.int b0), .val (.list (es.map encE)), .val (.list (tn.map .str)), .val (.list (kn.map .str)), .own (ts.map encT), ov a7, ov a8])]
    · simp [hsrt]
    · rw [sFor_ap, ← hloop]
      simp [zips_map]
  · simp [hb1, d8, m13, hmany, m8, lim8]
    rw [← idx_list, hsp]
    simp [he1]
end K73

set_option Elab.async false
set_option linter.all false
set_option maxRecDepth 100000
set_option maxHeartbeats 0
/-! La4: even sets: the rows that come to nothing. -/
namespace La
abbrev P2 := Nat × Nat
def st2 (a k : P2) : P2 := if a.1.testBit (lo k.1) = true then (a.1 ^^^ k.1, a.2 ^^^ k.2) else a
def fold2 (K : List P2) (a : P2) : P2 := K.foldl st2 a
def xor2 (a b : P2) : P2 := (a.1 ^^^ b.1, a.2 ^^^ b.2)
theorem st2_fst (a k : P2) : (st2 a k).1 = stp a.1 k.1 := by unfold st2 stp; split <;> rfl
theorem fold2_fst (K : List P2) : ∀ a : P2, (fold2 K a).1 = red (K.map (·.1)) a.1 := by
  unfold fold2 red
  induction K with
  | nil => intro a; rfl
  | cons k K ih => intro a; rw [List.foldl_cons, List.map_cons, List.foldl_cons, ih, st2_fst]
theorem x4 (a b k : Nat) : a ^^^ b = a ^^^ k ^^^ b ^^^ k := by
  apply Nat.eq_of_testBit_eq
  intro i
  simp only [Nat.testBit_xor]
  cases a.testBit i <;> cases b.testBit i <;> cases k.testBit i <;> rfl
theorem st2_xor (k a b : P2) : st2 (xor2 a b) k = xor2 (st2 a k) (st2 b k) := by
  unfold st2 xor2
  rw [Nat.testBit_xor]
  have q : ∀ x y z : Nat, x ^^^ y ^^^ z = x ^^^ z ^^^ y := fun x y z => by rw [Nat.xor_assoc, Nat.xor_comm y z, Nat.xor_assoc]
  have q2 : ∀ x y z : Nat, x ^^^ z ^^^ (y ^^^ z) = x ^^^ y := fun x y z => by rw [Nat.xor_comm y z, Nat.xor_assoc, ← Nat.xor_assoc z z, Nat.xor_self, Nat.zero_xor]
  cases ha : a.1.testBit (lo k.1) <;> cases hb : b.1.testBit (lo k.1) <;> simp [Nat.xor_assoc]
  · exact ⟨by rw [Nat.xor_comm k.1 b.1], by rw [Nat.xor_comm k.2 b.2]⟩
  · constructor
    · rw [← Nat.xor_assoc, ← Nat.xor_assoc]; exact x4 _ _ _
    · rw [← Nat.xor_assoc, ← Nat.xor_assoc]; exact x4 _ _ _
theorem fold2_xor (K : List P2) : ∀ a b : P2, fold2 K (xor2 a b) = xor2 (fold2 K a) (fold2 K b) := by
  unfold fold2
  induction K with
  | nil => intro a b; rfl
  | cons k K ih => intro a b; rw [List.foldl_cons, List.foldl_cons, List.foldl_cons, st2_xor, ih]
/-- sums of pairs -/
inductive Sq (K : List P2) : P2 → Prop
  | zero : Sq K (0, 0)
  | add {a k : P2} : Sq K a → k ∈ K → Sq K (xor2 a k)
theorem fold2_zero (K : List P2) : fold2 K (0, 0) = (0, 0) := by
  unfold fold2
  induction K with
  | nil => rfl
  | cons k K ih =>
    rw [List.foldl_cons]
    have : st2 (0, 0) k = (0, 0) := by unfold st2; simp
    rw [this, ih]
theorem fold2_mem : ∀ {K : List P2}, Ech (K.map (·.1)) → ∀ k ∈ K, fold2 K (k.1, 0) = (0, k.2) := by
  intro K
  induction K with
  | nil => intro _ k hk; cases hk
  | cons b K ih =>
    intro h k hk
    have hb := h.1 b.1 (by simp)
    have hp := List.pairwise_cons.mp h.2
    have hK : Ech (K.map (·.1)) := ⟨fun x hx => h.1 x (by rw [List.map_cons]; exact List.mem_cons_of_mem _ hx), hp.2⟩
    show fold2 K (st2 (k.1, 0) b) = _
    rcases List.mem_cons.mp hk with rfl | hm
    · have e : st2 (k.1, 0) k = xor2 (0, k.2) (0, 0) := by unfold st2 xor2; simp [lo_bit hb]
      rw [e]
      have z : ∀ L : List P2, ∀ m, fold2 L (0, m) = (0, m) := by
        intro L
        unfold fold2
        induction L with
        | nil => intro m; rfl
        | cons l L ihL =>
          intro m
          rw [List.foldl_cons]
          have : st2 (0, m) l = (0, m) := by unfold st2; simp
          rw [this, ihL]
      show fold2 K (0 ^^^ 0, k.2 ^^^ 0) = _
      rw [Nat.xor_zero, Nat.xor_zero, z]
    · have : st2 (k.1, 0) b = (k.1, 0) := by
        unfold st2
        rw [if_neg]
        show ¬ k.1.testBit (lo b.1) = true
        rw [hp.1 k.1 (List.mem_map.mpr ⟨k, hm, rfl⟩)]
        simp
      rw [this]
      exact ih hK k hm
/-- a sum of nothing has no name -/
theorem sq_zero {K : List P2} (h : Ech (K.map (·.1))) {a : P2} (ha : Sq K a) : fold2 K (a.1, 0) = (0, a.2) := by
  induction ha with
  | zero => exact fold2_zero K
  | @add a k _ hk ih =>
    have : ((xor2 a k).1, 0) = xor2 (a.1, 0) (k.1, 0) := by unfold xor2; simp
    rw [this, fold2_xor, ih, fold2_mem h k hk]
    unfold xor2
    simp
theorem sq_none {K : List P2} (h : Ech (K.map (·.1))) {m : Nat} (ha : Sq K (0, m)) : m = 0 := by
  have := sq_zero h ha
  rw [fold2_zero] at this
  injection this with _ h2
  exact h2.symm
/-- the sum of the rows that a number names, the first of them named by the bit k -/
def comb (k : Nat) : List Nat → Nat → Nat
  | [], _ => 0
  | e :: es, m => (if m.testBit k = true then e else 0) ^^^ comb (k + 1) es m
theorem comb_xor (m n : Nat) : ∀ (es : List Nat) (k : Nat), comb k es (m ^^^ n) = comb k es m ^^^ comb k es n
  | [], _ => (Nat.xor_self 0).symm
  | e :: es, k => by
    unfold comb
    rw [comb_xor m n es (k + 1), Nat.testBit_xor]
    have q : ∀ x y z w : Nat, (x ^^^ y) ^^^ (z ^^^ w) = (x ^^^ z) ^^^ (y ^^^ w) := fun x y z w => by
      apply Nat.eq_of_testBit_eq
      intro i
      simp only [Nat.testBit_xor]
      cases x.testBit i <;> cases y.testBit i <;> cases z.testBit i <;> cases w.testBit i <;> rfl
    rw [q]
    congr 1
    cases m.testBit k <;> cases n.testBit k <;> simp
theorem comb_zero : ∀ (es : List Nat) (k : Nat), comb k es 0 = 0
  | [], _ => rfl
  | e :: es, k => by unfold comb; rw [comb_zero es (k + 1)]; simp
theorem comb_lt : ∀ (es : List Nat) (k m : Nat), m < 2 ^ k → comb k es m = 0
  | [], _, _, _ => rfl
  | e :: es, k, m, h => by
    unfold comb
    rw [comb_lt es (k + 1) m (by rw [Nat.pow_succ]; omega), Nat.testBit_lt_two_pow h]
    simp
theorem comb_pow : ∀ (es : List Nat) (k j : Nat), k ≤ j → comb k es (2 ^ j) = es.getD (j - k) 0
  | [], _, _, _ => rfl
  | e :: es, k, j, h => by
    unfold comb
    rw [Nat.testBit_two_pow]
    by_cases c : j = k
    · subst c
      rw [comb_lt es (j + 1) (2 ^ j) (Nat.pow_lt_pow_right (by omega) (by omega))]
      simp
    · rw [comb_pow es (k + 1) j (by omega)]
      have : j - k = (j - (k + 1)) + 1 := by omega
      rw [this]
      simp [c]
theorem comb_app (fs : List Nat) : ∀ (es : List Nat) (k m : Nat), m < 2 ^ (k + es.length) → comb k (es ++ fs) m = comb k es m
  | [], k, m, h => comb_lt fs k m h
  | e :: es, k, m, h => by
    show (if m.testBit k = true then e else 0) ^^^ comb (k + 1) (es ++ fs) m = (if m.testBit k = true then e else 0) ^^^ comb (k + 1) es m
    rw [comb_app fs es (k + 1) m (by rw [List.length_cons] at h; rwa [Nat.add_assoc, Nat.add_comm 1])]
abbrev ES := List P2 × List Nat
def evS (st : ES) (pe : Nat × Nat) : ES :=
  let r := fold2 st.1 (pe.1, 2 ^ pe.2)
  if r.1 = 0 then (st.1, st.2 ++ [r.2]) else (st.1 ++ [r], st.2)
def evT (es : List Nat) : ES := es.zipIdx.foldl evS ([], [])
def evN (es : List Nat) : List Nat := (evT es).2
structure EvInv (es : List Nat) (n : Nat) (st : ES) : Prop where
  kp : st.1.map (·.1) = kept (es.take n)
  cK : ∀ k ∈ st.1, comb 0 es k.2 = k.1 ∧ k.2 < 2 ^ n
  cF : ∀ m ∈ st.2, comb 0 es m = 0 ∧ m < 2 ^ n
  top : ∀ k, k < n → (∃ m ∈ st.2, m.testBit k = true ∧ m < 2 ^ (k + 1)) ∨ ∃ p ∈ st.1, p.2.testBit k = true ∧ p.2 < 2 ^ (k + 1)
  len : st.2.length + st.1.length = n
  ind : (kept st.2).length = st.2.length
theorem lt_two {m k : Nat} (h : m < 2 ^ k) : m < 2 ^ (k + 1) := by rw [Nat.pow_succ]; omega
theorem red_top {A : List Nat} {k v : Nat} (hA : ∀ a ∈ A, a < 2 ^ k) (h : v.testBit k = true) : (red A v).testBit k = true := by
  unfold red
  induction A generalizing v with
  | nil => exact h
  | cons a A ih =>
    rw [List.foldl_cons]
    refine ih (fun x hx => hA x (List.mem_cons_of_mem _ hx)) ?_
    unfold stp
    split
    · rw [Nat.testBit_xor, h, Nat.testBit_lt_two_pow (hA a List.mem_cons_self)]; rfl
    · exact h
theorem sp_lt {A : List Nat} {k v : Nat} (hA : ∀ a ∈ A, a < 2 ^ k) (h : Sp A v) : v < 2 ^ k := by
  induction h with
  | zero => exact Nat.two_pow_pos k
  | add _ hx ih => exact Nat.xor_lt_two_pow ih (hA _ hx)
theorem EvInv.step {es : List Nat} {n : Nat} {st : ES} (I : EvInv es n st) (hn : n < es.length) : EvInv es (n + 1) (evS st (es[n], n)) := by
  have htake : es.take (n + 1) = es.take n ++ [es[n]] := by rw [List.take_add_one, List.getElem?_eq_getElem hn]; rfl
  have hE := (kept_ok (es.take n)).1
  -- the row found
  have key : ∀ (L : List P2), (∀ k ∈ L, comb 0 es k.2 = k.1 ∧ k.2 < 2 ^ n) → ∀ a : P2, comb 0 es a.2 = a.1 → a.2.testBit n = true → a.2 < 2 ^ (n + 1) → comb 0 es (L.foldl st2 a).2 = (L.foldl st2 a).1 ∧ (L.foldl st2 a).2.testBit n = true ∧ (L.foldl st2 a).2 < 2 ^ (n + 1) := by
    intro L
    induction L with
    | nil => exact fun _ a h1 h2 h3 => ⟨h1, h2, h3⟩
    | cons l L ih =>
      intro hL a h1 h2 h3
      obtain ⟨l1, l2⟩ := hL l List.mem_cons_self
      rw [List.foldl_cons]
      have hL' := fun k hk => hL k (List.mem_cons_of_mem _ hk)
      unfold st2
      split
      · refine ih hL' _ ?_ ?_ ?_
        · show comb 0 es (a.2 ^^^ l.2) = a.1 ^^^ l.1
          rw [comb_xor, h1, l1]
        · show (a.2 ^^^ l.2).testBit n = true
          rw [Nat.testBit_xor, h2, Nat.testBit_lt_two_pow l2]; rfl
        · exact Nat.xor_lt_two_pow h3 (lt_two l2)
      · exact ih hL' a h1 h2 h3
  have hr := key st.1 I.cK (es[n], 2 ^ n) (by
    show comb 0 es (2 ^ n) = es[n]
    rw [comb_pow es 0 n (by omega), Nat.sub_zero, List.getD_eq_getElem?_getD, List.getElem?_eq_getElem hn]; rfl) (by
    show (2 ^ n).testBit n = true
    rw [Nat.testBit_two_pow]; simp) (Nat.pow_lt_pow_right (by omega) (by omega))
  have h1 : (fold2 st.1 (es[n], 2 ^ n)).1 = red (kept (es.take n)) es[n] := by rw [fold2_fst, I.kp]
  unfold evS
  show EvInv es (n + 1) (if (fold2 st.1 (es[n], 2 ^ n)).1 = 0 then (st.1, st.2 ++ [(fold2 st.1 (es[n], 2 ^ n)).2]) else (st.1 ++ [fold2 st.1 (es[n], 2 ^ n)], st.2))
  have hr' : comb 0 es (fold2 st.1 (es[n], 2 ^ n)).2 = (fold2 st.1 (es[n], 2 ^ n)).1 ∧ (fold2 st.1 (es[n], 2 ^ n)).2.testBit n = true ∧ (fold2 st.1 (es[n], 2 ^ n)).2 < 2 ^ (n + 1) := hr
  generalize fold2 st.1 (es[n], 2 ^ n) = r at hr' h1
  have top' : ∀ k, k < n → (∃ m ∈ st.2, m.testBit k = true ∧ m < 2 ^ (k + 1)) ∨ ∃ p ∈ st.1, p.2.testBit k = true ∧ p.2 < 2 ^ (k + 1) := I.top
  have len := I.len
  by_cases c : r.1 = 0
  · rw [if_pos c]
    refine ⟨?_, fun k hk => ⟨(I.cK k hk).1, lt_two (I.cK k hk).2⟩, fun m hm => ?_, fun k hk => ?_, by rw [List.length_append]; show st.2.length + 1 + st.1.length = n + 1; omega, ?_⟩
    · rw [htake, kept_snoc]
      unfold kp1
      rw [← h1, if_pos c]
      exact I.kp
    · rcases List.mem_append.mp hm with h | h
      · exact ⟨(I.cF m h).1, lt_two (I.cF m h).2⟩
      · rw [List.mem_singleton] at h; rw [h]; exact ⟨hr'.1.trans c, hr'.2.2⟩
    · by_cases e : k = n
      · exact .inl ⟨r.2, by simp, by rw [e]; exact hr'.2.1, by rw [e]; exact hr'.2.2⟩
      · rcases top' k (by omega) with ⟨m, h1, h2⟩ | h
        · exact .inl ⟨m, List.mem_append_left _ h1, h2⟩
        · exact .inr h
    · rw [kept_snoc]
      unfold kp1
      rw [if_neg, List.length_append, List.length_append, I.ind]
      · rfl
      · intro h0
        have hb : ∀ a ∈ kept st.2, a < 2 ^ n := fun a ha => sp_lt (fun m hm => (I.cF m hm).2) (((kept_ok st.2).2 a).mp (.mem ha))
        have := red_top hb hr'.2.1
        rw [h0] at this
        simp at this
  · rw [if_neg c]
    refine ⟨?_, fun k hk => ?_, fun m hm => ⟨(I.cF m hm).1, lt_two (I.cF m hm).2⟩, fun k hk => ?_, by rw [List.length_append]; show st.2.length + (st.1.length + 1) = n + 1; omega, I.ind⟩
    · rw [htake, kept_snoc]
      unfold kp1
      rw [← h1, if_neg c]
      rw [List.map_append, I.kp]
      rfl
    · rcases List.mem_append.mp hk with h | h
      · exact ⟨(I.cK k h).1, lt_two (I.cK k h).2⟩
      · rw [List.mem_singleton] at h; rw [h]; exact ⟨hr'.1, hr'.2.2⟩
    · by_cases e : k = n
      · exact .inr ⟨r, by simp, by rw [e]; exact hr'.2.1, by rw [e]; exact hr'.2.2⟩
      · rcases top' k (by omega) with h | ⟨m, h1, h2⟩
        · exact .inl h
        · exact .inr ⟨m, List.mem_append_left _ h1, h2⟩
theorem evT_inv (es : List Nat) : EvInv es es.length (evT es) := by
  have key : ∀ n, n ≤ es.length → EvInv es n ((es.take n).zipIdx.foldl evS ([], [])) := by
    intro n
    induction n with
    | zero =>
      intro _
      exact ⟨rfl, (fun k hk => nomatch hk), (fun m hm => nomatch hm), (fun k hk => absurd hk (by omega)), rfl, rfl⟩
    | succ n ih =>
      intro hn
      have htake : es.take (n + 1) = es.take n ++ [es[n]] := by rw [List.take_add_one, List.getElem?_eq_getElem (by omega)]; rfl
      have I := (ih (by omega)).step (by omega)
      rw [htake, List.zipIdx_append, List.foldl_append]
      have hl : (es.take n).length = n := by rw [List.length_take]; omega
      rw [hl]
      simpa using I
  have := key es.length (Nat.le_refl _)
  rwa [List.take_of_length_le (Nat.le_refl _)] at this
/-- the even sets are spanned -/
theorem evN_span (es : List Nat) {v : Nat} : Sp (evN es) v ↔ comb 0 es v = 0 ∧ v < 2 ^ es.length := by
  have I := evT_inv es
  constructor
  · intro h
    refine ⟨?_, sp_lt (fun m hm => (I.cF m hm).2) h⟩
    induction h with
    | zero => exact comb_zero es 0
    | add _ hx ih => rw [comb_xor, ih, (I.cF _ hx).1]; rfl
  · rintro ⟨h0, hl⟩
    have key : ∀ n, n ≤ es.length → ∀ v, v < 2 ^ n → ∃ f p, Sp (evT es).2 f ∧ Sq (evT es).1 p ∧ v = f ^^^ p.2 := by
      intro n
      induction n with
      | zero =>
        intro _ v hv
        exact ⟨0, (0, 0), .zero, .zero, by simp at hv; rw [hv]; rfl⟩
      | succ n ih =>
        intro hn v hv
        cases hb : v.testBit n with
        | false =>
          refine ih (by omega) v ?_
          apply Nat.lt_pow_two_of_testBit
          intro i hi
          by_cases e : i = n
          · rw [e]; exact hb
          · exact Nat.testBit_lt_two_pow (Nat.lt_of_lt_of_le hv (Nat.pow_le_pow_right (by omega) (by omega)))
        | true =>
          have low : ∀ m : Nat, m.testBit n = true → m < 2 ^ (n + 1) → v ^^^ m < 2 ^ n := by
            intro m h1 h2
            apply Nat.lt_pow_two_of_testBit
            intro i hi
            rw [Nat.testBit_xor]
            by_cases e : i = n
            · rw [e, hb, h1]; rfl
            · rw [Nat.testBit_lt_two_pow (Nat.lt_of_lt_of_le hv (Nat.pow_le_pow_right (by omega) (by omega))), Nat.testBit_lt_two_pow (Nat.lt_of_lt_of_le h2 (Nat.pow_le_pow_right (by omega) (by omega)))]; rfl
          rcases I.top n (by omega) with ⟨m, hm, h1, h2⟩ | ⟨p, hp, h1, h2⟩
          · obtain ⟨f, q, g1, g2, g3⟩ := ih (by omega) _ (low m h1 h2)
            refine ⟨f ^^^ m, q, g1.add hm, g2, ?_⟩
            have : v = v ^^^ m ^^^ m := by rw [Nat.xor_assoc, Nat.xor_self, Nat.xor_zero]
            rw [this, g3, Nat.xor_assoc, Nat.xor_assoc, Nat.xor_comm q.2 m]
          · obtain ⟨f, q, g1, g2, g3⟩ := ih (by omega) _ (low p.2 h1 h2)
            refine ⟨f, xor2 q p, g1, g2.add hp, ?_⟩
            have : v = v ^^^ p.2 ^^^ p.2 := by rw [Nat.xor_assoc, Nat.xor_self, Nat.xor_zero]
            rw [this, g3, Nat.xor_assoc]
            rfl
    obtain ⟨f, p, h1, h2, h3⟩ := key es.length (Nat.le_refl _) v hl
    have hE : Ech ((evT es).1.map (·.1)) := by rw [I.kp]; exact (kept_ok _).1
    have cf : comb 0 es f = 0 := by
      clear h3
      induction h1 with
      | zero => exact comb_zero es 0
      | add _ hx ih => rw [comb_xor, ih, (I.cF _ hx).1]; rfl
    have cp : comb 0 es p.2 = p.1 := by
      clear h3
      induction h2 with
      | zero => exact comb_zero es 0
      | @add a k _ hk ih =>
        show comb 0 es (a.2 ^^^ k.2) = a.1 ^^^ k.1
        rw [comb_xor, ih, (I.cK k hk).1]
    rw [h3, comb_xor, cf, cp, Nat.zero_xor] at h0
    have hp2 : p.2 = 0 := by
      obtain ⟨a, b⟩ := p
      have h0' : a = 0 := h0
      subst h0'
      exact sq_none hE h2
    rw [h3, hp2, Nat.xor_zero]
    exact h1
theorem evN_len (es : List Nat) : (redN (evN es)).length + (kept es).length = es.length := by
  have I := evT_inv es
  rw [← kept_redN, show (kept (evN es)).length = (evN es).length from I.ind]
  have h1 : (evT es).1.length = (kept es).length := by
    have := congrArg List.length I.kp
    rwa [List.length_map, List.take_of_length_le (Nat.le_refl _)] at this
  have := I.len
  unfold evN
  omega
end La

set_option Elab.async false
set_option linter.all false
set_option maxRecDepth 100000
set_option maxHeartbeats 0
/-! K73e2: the law's even sets, exactly. -/
namespace K73
open PySem PySem.Spec Mp
open L2 (atI)
def encQ (p : La.P2) : D := .tuple [.int (p.1 : Nat), .int (p.2 : Nat)]
theorem v_even2 (ns : List Tie) (hl : ns.length ≤ 2002) (hS : ∀ x ∈ pts ns, PyData.strOk x = true) : f_even [.list (ns.map encT)] = .ok (((La.evN (ns.map (La.edgeN (setS (pts ns))))).map ci).map .int) := by
  let A : D := .list (ns.map encT)
  let K := setS (pts ns)
  let B : D := .list (K.map .str)
  have hK : ∀ x, x ∈ K ↔ x ∈ pts ns := fun x => mem_setS x _
  have hKS : ∀ x ∈ K, PyData.strOk x = true := fun x hx => hS x ((hK x).mp hx)
  have hKl : K.length ≤ 4004 := by
    have h1 : (pts ns).length ≤ 4004 := by unfold pts; simp; omega
    exact Nat.le_trans (setS_le _) h1
  have q1 : (lLc [5] (tName 5) tYesE (e2 idxD (eVar 5) (eC (.int 1))) (iL (eVar 0))) [.val A, .emp, .emp, .emp, .emp, .emp, .emp, .emp, .emp, .emp] = .ok ((ns.map (·.2.1)).map .str) := by
    rw [List.map_map]
    exact lLc_mapT (enc := encT) (by simp [A]) (fun t _ => by simp [tie_at1]) (many_lim hl)
  have q2 : (lLc [5] (tName 5) tYesE (e2 idxD (eVar 5) (eC (.int 2))) (iL (eVar 0))) [.val A, .emp, .emp, .emp, .emp, .emp, .emp, .emp, .emp, .emp] = .ok ((ns.map (·.2.2)).map .str) := by
    rw [List.map_map]
    exact lLc_mapT (enc := encT) (by simp [A]) (fun t _ => by simp [tie_at2]) (many_lim hl)
  have hs0 : startS 10 [PyData.list (ns.map encT)] = [.val A, .emp, .emp, .emp, .emp, .emp, .emp, .emp, .emp, .emp] := rfl
  obtain ⟨ρ', ⟨kept, found, a4, a5, a6, a7, a8, a9, k1, k2, k3, rfl⟩, hloop⟩ := loopS_inv (enc := fun p : Tie × Nat => PyData.tuple [.int (p.2 : Nat), encT p.1]) (xs := ns.zipIdx) (fun pre ρ => ∃ (kept : List La.P2) (found : List Nat) (a4 a5 a6 a7 a8 a9 : Option D), (kept, found) = (pre.map fun p => (La.edgeN K p.1, p.2)).foldl La.evS ([], []) ∧ found.length + kept.length = pre.length ∧ (∀ k ∈ kept, k.1 ≠ 0) ∧ ρ = [.val A, .val B, .own (kept.map encQ), .own ((found.map ci).map .int), ov a4, ov a5, ov a6, ov a7, ov a8, ov a9]) (h := bodyH (tTupT 2 (tsCons (tName 4) (tsCons (tName 5) (tsNil)))) (sSeq (sSet 6 (e2 xorD (e2 shlD (eC (.int 1)) (eM "list" indexD (eVar 1) (aCons (e2 idxD (eVar 5) (eC (.int 1))) (aNil)))) (e2 shlD (eC (.int 1)) (eM "list" indexD (eVar 1) (aCons (e2 idxD (eVar 5) (eC (.int 2))) (aNil)))))) (sSeq (sSet 7 (e2 shlD (eC (.int 1)) (eVar 4))) (sSeq (sForH 2 (tTupT 2 (tsCons (tName 8) (tsCons (tName 9) (tsNil)))) (sIf (toT (e2 neD (e2 andD (e2 andD (eVar 6) (eVar 8)) (e1 negD (eVar 8))) (eC (.int 0)))) (sSeq (sSet 6 (e2 xorD (eVar 6) (eVar 8))) (sSet 7 (e2 xorD (eVar 7) (eVar 9)))) (sNx))) (sIf (toT (e2 eqD (eVar 6) (eC (.int 0)))) (sApp 3 (eVar 7)) (sApp 2 (eTup (aCons (eVar 6) (aCons (eVar 7) (aNil)))))))))) (fun pre x post eq ρ hρ => by
    obtain ⟨kept, found, a4, a5, a6, a7, a8, a9, k1, k2, k3, rfl⟩ := hρ
    obtain ⟨t, n⟩ := x
    have em := congrArg (List.map (·.1)) eq
    rw [List.zipIdx_map_fst, List.map_append, List.map_cons] at em
    have hpl : pre.length < ns.length := by
      have := congrArg List.length eq
      simp at this
      omega
    have hn : n < ns.length := by
      have hm : (t, n) ∈ ns.zipIdx := by rw [eq]; simp
      have := (List.mem_zipIdx hm).2.1
      omega
    have ht : t ∈ ns := by rw [em]; simp
    have m1 : t.2.1 ∈ K := (hK _).mpr (List.mem_append.mpr (.inl (List.mem_map.mpr ⟨t, ht, rfl⟩)))
    have m2 : t.2.2 ∈ K := (hK _).mpr (List.mem_append.mpr (.inr (List.mem_map.mpr ⟨t, ht, rfl⟩)))
    have i1 := index_strs hKS m1
    have i2 := index_strs hKS m2
    have l1 := ix_lt m1
    have l2 := ix_lt m2
    have c1 : cPow 1 ((ix K t.2.1 : Nat) : Int) := ⟨by omega, by omega, by decide⟩
    have c2 : cPow 1 ((ix K t.2.2 : Nat) : Int) := ⟨by omega, by omega, by decide⟩
    have c3 : cPow 1 ((n : Nat) : Int) := ⟨by omega, by omega, by decide⟩
    obtain ⟨ρ1, ⟨b8, b9, rfl⟩, h1⟩ := sForH_inv (enc := encQ) (xs := kept) (i := 2) (tg := tTupT 2 (tsCons (tName 8) (tsCons (tName 9) (tsNil)))) (fb := sIf (toT (Mp.e2 neD (Mp.e2 andD (Mp.e2 andD (eVar 6) (eVar 8)) (e1 negD (eVar 8))) (eC (.int 0)))) (sSeq (sSet 6 (Mp.e2 xorD (eVar 6) (eVar 8))) (sSet 7 (Mp.e2 xorD (eVar 7) (eVar 9)))) (sNx)) (ρ := [.val A, .val B, .own (kept.map encQ), .own ((found.map ci).map .int), .val (.int (n : Nat)), .val (encT t), .val (.int (edge K t)), .val (.int (2 ^ n)), ov a8, ov a9]) (fun q ρ => ∃ (b8 b9 : Option D), ρ = [.val A, .val B, .hold (kept.map encQ), .own ((found.map ci).map .int), .val (.int (n : Nat)), .val (encT t), .val (.int (q.foldl La.st2 (La.edgeN K t, 2 ^ n)).1), .val (.int (q.foldl La.st2 (La.edgeN K t, 2 ^ n)).2), ov b8, ov b9]) rfl ⟨a8, a9, by rw [La.edge_N, La.pow_ci]; rfl⟩ (fun q ρ ⟨_, _, e⟩ => by rw [e]; rfl) (fun q y post2 eq2 ρ hρ => by
      obtain ⟨b8, b9, rfl⟩ := hρ
      have hy0 : y.1 ≠ 0 := k3 y (by rw [eq2]; simp)
      rw [List.foldl_append, List.foldl_cons, List.foldl_nil]
      generalize q.foldl La.st2 (La.edgeN K t, 2 ^ n) = z
      obtain ⟨far, more⟩ := y
      have ht : (Builtin.bitAnd (Builtin.bitAnd (z.1 : Int) (far : Int)) (-(far : Int)) = 0) ↔ z.1.testBit (La.lo far) = false := by
        rw [bAnd_assoc, La.lead_int hy0]
        exact La.and_pow z.1 (La.lo far)
      unfold La.st2
      cases c : z.1.testBit (La.lo far) with
      | false =>
        have c0 := ht.mpr c
        exact ⟨_, ⟨some (.int far), some (.int more), rfl⟩, .inl (by simp [c0, ov_v, encQ])⟩
      | true =>
        have c0 : ¬ (Builtin.bitAnd (Builtin.bitAnd (z.1 : Int) (far : Int)) (-(far : Int)) = 0) := fun h => by rw [ht.mp h] at c; cases c
        exact ⟨_, ⟨some (.int far), some (.int more), rfl⟩, .inl (by simp [c0, ov_v, encQ, La.xor_int])⟩)
    have st : bodyH (tTupT 2 (tsCons (tName 4) (tsCons (tName 5) (tsNil)))) (sSeq (sSet 6 (Mp.e2 xorD (Mp.e2 shlD (eC (.int 1)) (eM "list" indexD (eVar 1) (aCons (Mp.e2 idxD (eVar 5) (eC (.int 1))) (aNil)))) (Mp.e2 shlD (eC (.int 1)) (eM "list" indexD (eVar 1) (aCons (Mp.e2 idxD (eVar 5) (eC (.int 2))) (aNil)))))) (sSeq (sSet 7 (Mp.e2 shlD (eC (.int 1)) (eVar 4))) (sSeq (sForH 2 (tTupT 2 (tsCons (tName 8) (tsCons (tName 9) (tsNil)))) (sIf (toT (Mp.e2 neD (Mp.e2 andD (Mp.e2 andD (eVar 6) (eVar 8)) (e1 negD (eVar 8))) (eC (.int 0)))) (sSeq (sSet 6 (Mp.e2 xorD (eVar 6) (eVar 8))) (sSet 7 (Mp.e2 xorD (eVar 7) (eVar 9)))) (sNx))) (sIf (toT (Mp.e2 eqD (eVar 6) (eC (.int 0)))) (sApp 3 (eVar 7)) (sApp 2 (eTup (aCons (eVar 6) (aCons (eVar 7) (aNil))))))))) (PyData.tuple [.int (n : Nat), encT t]) [.val A, .val B, .own (kept.map encQ), .own ((found.map ci).map .int), ov a4, ov a5, ov a6, ov a7, ov a8, ov a9] = (sIf (toT (Mp.e2 eqD (eVar 6) (eC (.int 0)))) (sApp 3 (eVar 7)) (sApp 2 (eTup (aCons (eVar 6) (aCons (eVar 7) (aNil)))))) [.val A, .val B, .own (kept.map encQ), .own ((found.map ci).map .int), .val (.int (n : Nat)), .val (encT t), .val (.int (La.fold2 kept (La.edgeN K t, 2 ^ n)).1), .val (.int (La.fold2 kept (La.edgeN K t, 2 ^ n)).2), ov b8, ov b9] := by
      rw [bodyH_ap]
      simp only [tTupT_ap, List.length_cons, List.length_nil, if_true, tsCons_ap, tName_ap, List.getElem?_cons_succ, List.getElem?_cons_zero, canPut_ov, List.set_cons_succ, List.set_cons_zero, bind_ok, tsNil_ap]
      rw [seq_nx (ρ' := [.val A, .val B, .own (kept.map encQ), .own ((found.map ci).map .int), .val (.int (n : Nat)), .val (encT t), .val (.int (edge K t)), ov a7, ov a8, ov a9]) (by simp [tie_at1, tie_at2, i1, i2, shl_int c1, shl_int c2, B, edge]), seq_nx (ρ' := [.val A, .val B, .own (kept.map encQ), .own ((found.map ci).map .int), .val (.int (n : Nat)), .val (encT t), .val (.int (edge K t)), .val (.int (2 ^ n)), ov a8, ov a9]) (by simp [shl_int c3]), seq_nx h1]
      rfl
    rw [st]
    clear st h1
    have hsn : ((pre ++ [(t, n)]).map fun p => (La.edgeN K p.1, p.2)).foldl La.evS ([], []) = La.evS (kept, found) (La.edgeN K t, n) := by rw [List.map_append, List.foldl_append, ← k1]; rfl
    have hev : La.evS (kept, found) (La.edgeN K t, n) = if (La.fold2 kept (La.edgeN K t, 2 ^ n)).1 = 0 then (kept, found ++ [(La.fold2 kept (La.edgeN K t, 2 ^ n)).2]) else (kept ++ [La.fold2 kept (La.edgeN K t, 2 ^ n)], found) := rfl
    rw [← hsn] at hev
    clear hsn
    generalize La.fold2 kept (La.edgeN K t, 2 ^ n) = z at *
    have hfl : found.length < LIM := by unfold LIM; omega
    have hkl : kept.length < LIM := by unfold LIM; omega
    have lim2 : (2 : Nat) ≤ LIM := by decide
    by_cases c0 : z.1 = 0
    · refine ⟨_, ⟨kept, found ++ [z.2], some (.int (n : Nat)), some (encT t), some (.int z.1), some (.int z.2), b8, b9, ?_, ?_, k3, rfl⟩, .inl ?_⟩
      · rw [hev, if_pos c0]
      · simp; omega
      · simp [c0, ov_v, hfl, ci]
    · refine ⟨_, ⟨kept ++ [z], found, some (.int (n : Nat)), some (encT t), some (.int z.1), some (.int z.2), b8, b9, ?_, ?_, ?_, rfl⟩, .inl ?_⟩
      · rw [hev, if_neg c0]
      · simp; omega
      · intro k hk
        rcases List.mem_append.mp hk with h | h
        · exact k3 k h
        · rw [List.mem_singleton] at h; rw [h]; exact c0
      · have c1 : ¬ ((z.1 : Nat) : Int) = 0 := by omega
        simp [c0, ov_v, hkl, lim2, encQ]) (ρ := [.val A, .val B, .own [], .own [], .emp, .emp, .emp, .emp, .emp, .emp]) ⟨[], [], none, none, none, none, none, none, rfl, rfl, (fun k hk => nomatch hk), rfl⟩
  have hz : (ns.zipIdx.map fun p => (La.edgeN K p.1, p.2)) = (ns.map (La.edgeN K)).zipIdx := by
    rw [List.zipIdx_map]
    rfl
  rw [hz] at k1
  have hf : La.evN (ns.map (La.edgeN (setS (pts ns)))) = found := by
    unfold La.evN La.evT
    show ((ns.map (La.edgeN K)).zipIdx.foldl La.evS ([], [])).2 = found
    rw [← k1]
  rw [hf]
  refine runL_rl ?_
  · unfold m_even
    rw [hs0, seq_nx (ρ' := [.val A, .val B, .emp, .emp, .emp, .emp, .emp, .emp, .emp, .emp])]
    · rw [seq_nx (ρ' := [.val A, .val B, .own [], .emp, .emp, .emp, .emp, .emp, .emp, .emp]) (by simp), seq_nx (ρ' := [.val A, .val B, .own [], .own [], .emp, .emp, .emp, .emp, .emp, .emp]) (by simp), seq_nx (ρ' := [.val A, .val B, .own (kept.map encQ), .own ((found.map ci).map .int), ov a4, ov a5, ov a6, ov a7, ov a8, ov a9])]
      · simp
      · rw [sFor_ap, ← hloop]
        simp [A, enumsT]
    · rw [sSet_ap, eL_ap, pts_set ns hl q1 q2]
      rfl
end K73

set_option Elab.async false
set_option linter.all false
set_option maxRecDepth 100000
set_option maxHeartbeats 0
/-! K73p5: rows drawn, as bits. -/
namespace K73
open PySem PySem.Spec Mp
open L2 (atI)
def encN (n : Nat) : D := .int (n : Int)
theorem encN_map (xs : List Nat) : (xs.map ci).map PyData.int = xs.map encN := by rw [List.map_map]; rfl
theorem or_int (a b : Nat) : Builtin.bitOr (a : Int) (b : Int) = ((a ||| b : Nat) : Int) := by
  rw [_root_.Bits.bitOr_pp (Int.natCast_nonneg _) (Int.natCast_nonneg _)]
  simp
theorem more_body2 (base : List Nat) (many : Nat) (h1 : 1 ≤ many) (h2 : many ≤ 100) (hb : base.length ≤ 100) (hlt : ∀ z ∈ base, z < 2 ^ many) (big most : Int) (a4 a5 : Option D) : ∃ (base' : List Nat) (big' : Int) (c4 c5 : Option D), base'.length ≤ base.length + 1 ∧ (∀ z ∈ base', z < 2 ^ (many + 1)) ∧ moreB [.val (.list (base.map encN)), .val (.int many), .val (.int big), .val (.int most), ov a4, ov a5, .emp] = .nx [.val (.list (base'.map encN)), .val (.int ((many + 1 : Nat) : Int)), .val (.int big'), .val (.int most), ov c4, ov c5, .emp] := by
  obtain ⟨p, hp, hpm⟩ := m_sp (big / 4) h1
  have dm := fun z => d_sp z h1 (show many ≤ 1000 by omega)
  have s1 := shl_n 1 (.inr rfl) many (by omega)
  have s2 := shl_n 1 (.inr rfl) p (by omega)
  have lim1 : (1 : Nat) ≤ LIM := by decide
  have hadd : ∀ z : Int, addL (.list (base.map encN)) (.list [.int z]) = some (base.map encN ++ [.int z]) := fun z => add_list (by simp; unfold LIM; omega)
  unfold moreB
  rw [seq_nx (ρ' := [.val (.list (base.map encN)), .val (.int many), .val (.int big), .val (.int most), .val (.int (big % 4)), ov a5, .emp]) (by simp [m4']), seq_nx (ρ' := [.val (.list (base.map encN)), .val (.int many), .val (.int big), .val (.int most), .val (.int (big % 4)), .val (.int p), .emp]) (by simp [d4, hp]), seq_nx (ρ' := [.val (.list (base.map encN)), .val (.int many), .val (.int (big / 4 / many)), .val (.int most), .val (.int (big % 4)), .val (.int p), .emp]) (by simp [d4, dm])]
  have up : ∀ z ∈ base, z < 2 ^ (many + 1) := fun z hz => La.lt_two (hlt z hz)
  have p1 : (2 : Nat) ^ many < 2 ^ (many + 1) := Nat.pow_lt_pow_right (by omega) (by omega)
  have fin : ∀ base' : List Nat, (sAug 1 (· + ·) (eC (.int 1))) [.val (.list (base'.map encN)), .val (.int many), .val (.int (big / 4 / many)), .val (.int most), .val (.int (big % 4)), .val (.int p), .emp] = .nx [.val (.list (base'.map encN)), .val (.int ((many + 1 : Nat) : Int)), .val (.int (big / 4 / many)), .val (.int most), ov (some (.int (big % 4))), ov (some (.int p)), .emp] := by
    intro base'
    simp [ov_v]
  have hlen : (base.length : Int) < 8 ∨ ¬ (base.length : Int) < 8 := by omega
  generalize big % 4 = w at *
  by_cases k1 : w = 0 ∧ (base.length : Int) < 8
  · have ec : ((1 : Int) * 2 ^ many) = ((2 ^ many : Nat) : Int) := by rw [Int.one_mul, La.pow_ci]
    rw [ec] at s1
    refine ⟨base ++ [2 ^ many], big / 4 / many, some (.int w), some (.int p), by simp, (fun z hz => by
      rcases List.mem_append.mp hz with h | h
      · exact up z h
      · rw [List.mem_singleton] at h; rw [h]; exact p1), ?_⟩
    rw [seq_nx (ρ' := [.val (.list ((base ++ [2 ^ many]).map encN)), .val (.int many), .val (.int (big / 4 / many)), .val (.int most), .val (.int w), .val (.int p), .emp])]
    · exact fin _
    · rw [if_t (by simp [k1.1, k1.2])]
      simp [s1, lim1, hadd, encN]
  · have f1 : (tA (toT (e2 eqD (eVar 4) (eC (.int 0)))) (toT (e2 ltD (eB (c1 lenD) (aCons (eVar 0) (aNil))) (eC (.int 8))))) [.val (.list (base.map encN)), .val (.int many), .val (.int (big / 4 / many)), .val (.int most), .val (.int w), .val (.int p), .emp] = .ok false := by
      by_cases e : w = 0
      · have : ¬ (base.length : Int) < 8 := fun z => k1 ⟨e, z⟩
        simp [e, this]
      · simp [e]
    by_cases k2 : w = 1 ∧ (base.length : Int) < 8
    · have ec : ((1 : Int) * 2 ^ many) = ((2 ^ many : Nat) : Int) := by rw [Int.one_mul, La.pow_ci]
      have ec2 : ((1 : Int) * 2 ^ p) = ((2 ^ p : Nat) : Int) := by rw [Int.one_mul, La.pow_ci]
      rw [ec] at s1
      rw [ec2] at s2
      refine ⟨base ++ [2 ^ many ||| 2 ^ p], big / 4 / many, some (.int w), some (.int p), by simp, (fun z hz => by
        rcases List.mem_append.mp hz with h | h
        · exact up z h
        · rw [List.mem_singleton] at h; rw [h]; exact Nat.or_lt_two_pow p1 (Nat.pow_lt_pow_right (by omega) (by omega))), ?_⟩
      rw [seq_nx (ρ' := [.val (.list ((base ++ [2 ^ many ||| 2 ^ p]).map encN)), .val (.int many), .val (.int (big / 4 / many)), .val (.int most), .val (.int w), .val (.int p), .emp])]
      · exact fin _
      · rw [if_f f1, if_t (by simp [k2.1, k2.2])]
        simp [s1, s2, lim1, hadd, encN]
        rw [La.pow_ci, La.pow_ci]
        exact or_int _ _
    · have f2 : (tA (toT (e2 eqD (eVar 4) (eC (.int 1)))) (toT (e2 ltD (eB (c1 lenD) (aCons (eVar 0) (aNil))) (eC (.int 8))))) [.val (.list (base.map encN)), .val (.int many), .val (.int (big / 4 / many)), .val (.int most), .val (.int w), .val (.int p), .emp] = .ok false := by
        by_cases e : w = 1
        · have : ¬ (base.length : Int) < 8 := fun z => k2 ⟨e, z⟩
          simp [e, this]
        · simp [e]
      by_cases k3 : w = 2
      · let g : Nat → Nat := fun z => z ||| (z / 2 ^ p % 2) * 2 ^ many
        refine ⟨base.map g, big / 4 / many, some (.int w), some (.int p), by simp, (fun z hz => by
          obtain ⟨y, hy, rfl⟩ := List.mem_map.mp hz
          refine Nat.or_lt_two_pow (up y hy) ?_
          rcases (by omega : y / 2 ^ p % 2 = 0 ∨ y / 2 ^ p % 2 = 1) with e | e <;> rw [e]
          · rw [Nat.zero_mul]; exact Nat.two_pow_pos _
          · rw [Nat.one_mul]; exact p1), ?_⟩
        have q1 : (lLc [6] (tName 6) tYesE (e2 orD (eVar 6) (e2 shlD (e2 andD (e2 shrD (eVar 6) (eVar 5)) (eC (.int 1))) (eVar 1))) (iL (eVar 0))) [.val (.list (base.map encN)), .val (.int many), .val (.int (big / 4 / many)), .val (.int most), .val (.int w), .val (.int p), .emp] = .ok ((base.map g).map encN) := by
          rw [List.map_map]
          exact lLc_mapT (enc := encN) (by simp) (fun z _ => by
            have s3 := shl_n (Builtin.bitAnd ((z : Int) / 2 ^ p) 1) (and_one _) many (by omega)
            have e1 : Builtin.bitAnd ((z : Int) / 2 ^ p) 1 = ((z / 2 ^ p % 2 : Nat) : Int) := by
              rw [PyProof.Rows.bitAnd_m1, La.pow_ci]
              rfl
            have e2 : ((z / 2 ^ p % 2 : Nat) : Int) * 2 ^ many = (((z / 2 ^ p % 2) * 2 ^ many : Nat) : Int) := by rw [La.pow_ci]; rfl
            rw [e1, e2] at s3
            have e3 : orD (encN z) (.int (((z / 2 ^ p % 2) * 2 ^ many : Nat) : Int)) = some (encN (g z)) := by
              show some (PyData.int (Builtin.bitOr (z : Int) (((z / 2 ^ p % 2) * 2 ^ many : Nat) : Int))) = _
              rw [or_int]
              rfl
            have e4 : shrD (encN z) (.int (p : Int)) = some (.int ((z : Int) / 2 ^ p)) := shr_n _ _
            simp only [compH_ap, wipe1, wipe0, tName_ap, List.getElem?_cons_succ, List.getElem?_cons_zero, canPut_e, if_true, List.set_cons_succ, List.set_cons_zero, bind_ok, tYes_ap, e2_ap, eVar_ap, eC_ap, e4, and_int, e1, s3, e3, ofO_some, map_ok]
            rfl) (by unfold LIM; omega)
        rw [seq_nx (ρ' := [.val (.list ((base.map g).map encN)), .val (.int many), .val (.int (big / 4 / many)), .val (.int most), .val (.int w), .val (.int p), .emp])]
        · exact fin _
        · rw [if_f f1, if_f f2, if_t (by simp [k3])]
          simp only [sSet_ap, eL_ap, q1]
          simp
      · refine ⟨base, big / 4 / many, some (.int w), some (.int p), by omega, up, ?_⟩
        rw [seq_nx (ρ' := [.val (.list (base.map encN)), .val (.int many), .val (.int (big / 4 / many)), .val (.int most), .val (.int w), .val (.int p), .emp])]
        · exact fin _
        · rw [if_f f1, if_f f2, if_f (by simp [k3])]
          simp
theorem v_with_more2 (base : List Nat) (many : Nat) (h1 : 1 ≤ many) (hb : base.length ≤ 20) (hlt : ∀ z ∈ base, z < 2 ^ many) (big : Int) (most : Nat) (hm : many ≤ most) (hs : most ≤ 40) : ∃ base' : List Nat, f_with_more [.list (base.map encN), .int many, .int big, .int most] = .ok (.list (base'.map encN)) ∧ base'.length ≤ base.length + 40 ∧ ∀ z ∈ base', z < 2 ^ most := by
  have hs0 : startS 7 [PyData.list (base.map encN), .int many, .int big, .int most] = [.val (.list (base.map encN)), .val (.int many), .val (.int big), .val (.int most), ov none, ov none, .emp] := rfl
  obtain ⟨m, ρ', ⟨b', k', g', a4, a5, e1, e2, e3, e4, e5, rfl⟩, hc, hl⟩ := loopW_inv (c := toT (e2 ltD (eVar 1) (eVar 3))) (fb := moreB) (fun n ρ => ∃ (b' : List Nat) (k' : Nat) (g' : Int) (a4 a5 : Option D), k' + n = most ∧ 1 ≤ k' ∧ k' ≤ 40 ∧ b'.length + n ≤ base.length + (most - many) ∧ (∀ z ∈ b', z < 2 ^ k') ∧ ρ = [.val (.list (b'.map encN)), .val (.int k'), .val (.int g'), .val (.int most), ov a4, ov a5, .emp]) (fun n ρ hρ => by
    obtain ⟨b', k', g', a4, a5, e1, e2, e3, e4, e5, rfl⟩ := hρ
    by_cases hk : k' < most
    · right
      have : ((k' : Int) < (most : Int)) := by omega
      obtain ⟨b2, g2, c4, c5, q1, q2, q3⟩ := more_body2 b' k' e2 (by omega) (by omega) e5 g' most a4 a5
      refine ⟨by simp [this], n - 1, by omega, _, ⟨b2, k' + 1, g2, c4, c5, by omega, by omega, by omega, by omega, q2, rfl⟩, q3⟩
    · left
      have : ¬ ((k' : Int) < (most : Int)) := by omega
      simp [this]) 1000 (most - many) _ ⟨base, many, big, none, none, by omega, h1, by omega, by omega, hlt, rfl⟩ (by omega)
  have hk : k' = most := by
    simp at hc
    omega
  refine ⟨b', runD_rt ?_, by omega, by rw [← hk]; exact e5⟩
  unfold m_with_more
  rw [hs0]
  refine (seq_nx hl).trans ?_
  simp
theorem v_free2 (big : Int) (many : Nat) (h : many ≤ 1000) : ∃ xs : List Nat, f_free [.int big, .int many] = .ok (xs.map encN) ∧ xs.length ≤ 9 ∧ ∀ z ∈ xs, z < 2 ^ many := by
  have hs0 : startS 4 [PyData.int big, .int many] = [.val (.int big), .val (.int many), .emp, .emp] := rfl
  obtain ⟨n, hn, hn9⟩ : ∃ n : Nat, big % 10 = n ∧ n ≤ 9 := ⟨(big % 10).toNat, by omega, by omega⟩
  have s1 := shl_n 1 (.inr rfl) many h
  rw [Int.one_mul, La.pow_ci] at s1
  have p0 : 0 < 2 ^ many := Nat.two_pow_pos many
  have shr := fun z : Int => shr_n z many
  generalize (2 : Nat) ^ many = q at *
  have md : ∀ z : Int, ∃ m : Nat, modD (.int z) (.int (q : Int)) = some (.int (m : Int)) ∧ m < q := fun z => m_sp z p0
  obtain ⟨ρ', ⟨b', xs, a3, hx, hq, rfl⟩, hloop⟩ := loopS_inv (enc := fun i : Nat => PyData.int ((i : Nat) : Int)) (xs := List.range n) (fun pre ρ => ∃ (b' : Int) (xs : List Nat) (a3 : Option D), xs.length = pre.length ∧ (∀ z ∈ xs, z < q) ∧ ρ = [.val (.int b'), .val (.int many), .own (xs.map encN), ov a3]) (h := bodyH (tName 3) (sSeq (sApp 2 (e2 modD (e2 divD (eVar 0) (eC (.int 10))) (e2 shlD (eC (.int 1)) (eVar 1)))) (sSet 0 (e2 shrD (e2 divD (eVar 0) (eC (.int 10))) (eVar 1))))) (fun pre i post e ρ hρ => by
    obtain ⟨b', xs, a3, hx, hq, rfl⟩ := hρ
    have hpl : pre.length < n := by
      have := congrArg List.length e
      simp at this
      omega
    have hlt : xs.length < LIM := by unfold LIM; omega
    obtain ⟨m, hm, hm2⟩ := md (b' / 10)
    refine ⟨_, ⟨b' / 10 / 2 ^ many, xs ++ [m], some (.int i), by simp [hx], (fun z hz => by
      rcases List.mem_append.mp hz with h | h
      · exact hq z h
      · rw [List.mem_singleton] at h; rw [h]; exact hm2), rfl⟩, .inl ?_⟩
    simp [d10, s1, hm, hlt, shr, ov_v, encN]) (ρ := [.val (.int big), .val (.int many), .own [], .emp]) ⟨big, [], none, rfl, (fun z hz => nomatch hz), rfl⟩
  refine ⟨xs, runL_rl ?_, by rw [hx, List.length_range]; exact hn9, hq⟩
  unfold m_free
  rw [hs0, seq_nx (ρ' := [.val (.int big), .val (.int many), .own [], .emp]) (by simp), seq_nx (ρ' := [.val (.int b'), .val (.int many), .own (xs.map encN), ov a3])]
  · simp
  · have hr : (iR1 (aCons (e2 modD (eVar 0) (eC (.int 10))) (aNil))) [.val (.int big), .val (.int many), .own [], .emp] = .ok ((List.range n).map fun i : Nat => PyData.int ((i : Nat) : Int)) :=
      iR1_nat (by simp [m10, hn]) (by omega)
    rw [sFor_ap, hr, lift_ok]
    exact hloop
def isNatD (b : Int) : D → Bool
  | .int z => decide (0 ≤ z) && decide (z < b)
  | _ => false
def okSm2 : Mp.R D → Bool
  | .ok (.tuple [.int m, .list xs]) => decide (1 ≤ m) && decide (m ≤ 12) && xs.all (isNatD (2 ^ m.toNat)) && decide (xs.length ≤ 12)
  | _ => false
theorem nats_of (m : Nat) : ∀ xs : List D, xs.all (isNatD (2 ^ m)) = true → ∃ ys : List Nat, xs = ys.map encN ∧ ∀ y ∈ ys, y < 2 ^ m
  | [], _ => ⟨[], rfl, fun y hy => nomatch hy⟩
  | d :: xs, h => by
    rw [List.all_cons, Bool.and_eq_true] at h
    obtain ⟨ys, e, he⟩ := nats_of m xs h.2
    cases d with
    | int i =>
      have h1 : (decide (0 ≤ i) && decide (i < 2 ^ m)) = true := h.1
      simp only [Bool.and_eq_true, decide_eq_true_eq] at h1
      refine ⟨i.toNat :: ys, by rw [e, List.map_cons]; congr 1; unfold encN; rw [Int.toNat_of_nonneg h1.1], fun y hy => ?_⟩
      rcases List.mem_cons.mp hy with rfl | hy
      · have := h1.2
        rw [La.pow_ci] at this
        omega
      · exact he y hy
    | _ => cases h.1
theorem sm02 : okSm2 (f_small [.int 0]) = true := by decide +kernel
theorem sm12 : okSm2 (f_small [.int 1]) = true := by decide +kernel
theorem sm22 : okSm2 (f_small [.int 2]) = true := by decide +kernel
theorem sm32 : okSm2 (f_small [.int 3]) = true := by decide +kernel
theorem sm_of2 {r : Mp.R D} (h : okSm2 r = true) : ∃ (m : Nat) (xs : List Nat), r = .ok (.tuple [.int m, .list (xs.map encN)]) ∧ 1 ≤ m ∧ m ≤ 12 ∧ xs.length ≤ 12 ∧ ∀ x ∈ xs, x < 2 ^ m := by
  unfold okSm2 at h
  split at h
  · rename_i m xs
    simp only [Bool.and_eq_true, decide_eq_true_eq] at h
    obtain ⟨⟨⟨h1, h2⟩, h3⟩, h4⟩ := h
    obtain ⟨ys, rfl, hy⟩ := nats_of m.toNat xs h3
    refine ⟨m.toNat, ys, by rw [Int.toNat_of_nonneg (by omega)], by omega, by omega, ?_, hy⟩
    rw [List.length_map] at h4; exact h4
  · cases h
theorem v_small2 (z : Int) : ∃ (m : Nat) (xs : List Nat), f_small [.int (z % 4)] = .ok (.tuple [.int m, .list (xs.map encN)]) ∧ 1 ≤ m ∧ m ≤ 12 ∧ xs.length ≤ 12 ∧ ∀ x ∈ xs, x < 2 ^ m := by
  rcases (by omega : z % 4 = 0 ∨ z % 4 = 1 ∨ z % 4 = 2 ∨ z % 4 = 3) with e | e | e | e <;> rw [e]
  · exact sm_of2 sm02
  · exact sm_of2 sm12
  · exact sm_of2 sm22
  · exact sm_of2 sm32
theorem v__law_reduced2 (A : List Nat) (hn : A.length < LIM) : f__law_reduced [.list (A.map encN)] = .ok (.list ((La.redN A).map encN)) := by
  have := v__law_reduced (A.map ci) (by rw [List.length_map]; exact hn)
  rwa [encN_map, La.redL_N, encN_map] at this
theorem redN_le (A : List Nat) : (La.redN A).length ≤ A.length := by rw [← La.kept_redN]; exact La.kept_le A
end K73

set_option Elab.async false
set_option linter.all false
set_option maxRecDepth 100000
set_option maxHeartbeats 0
/-! K73p6: the steps of the table that is drawn, within the bounds. -/
namespace K73
open PySem PySem.Spec Mp
open L2 (atI)
theorem sh_body2 (s : D) (a b ts : D) (many : Nat) (h0 : 1 ≤ many) (hm : many ≤ 100) (base : List Nat) (hb : base.length ≤ 100) (o : Option D) : ∃ base' : List Nat, base'.length ≤ base.length ∧ La.Rdc base' ∧ (∀ z ∈ base', z < 2 ^ (many - 1)) ∧ shB [.val s, .val a, .val b, .val ts, .val (.int (many : Nat)), .val (.list (base.map encN)), ov o, .emp] = .nx [.val s, .val a, .val b, .val ts, .val (.int ((many - 1 : Nat) : Int)), .val (.list (base'.map encN)), ov o, .emp] := by
  have s1 := shl_n 1 (.inr rfl) (many - 1) (by omega)
  have p0 : 0 < 2 ^ (many - 1) := Nat.two_pow_pos _
  have e1 : (1 : Int) * 2 ^ (many - 1) = ((2 ^ (many - 1) : Nat) : Int) := by rw [Int.one_mul, La.pow_ci]
  rw [e1] at s1
  let g : Nat → Nat := fun z => z % 2 ^ (many - 1)
  have hgd : ∀ z, g z = z % 2 ^ (many - 1) := fun z => rfl
  have hg : ∀ z : Nat, Builtin.bitAnd (z : Int) (((2 ^ (many - 1) : Nat) : Int) - 1) = ((z % 2 ^ (many - 1) : Nat) : Int) := by
    intro z
    rw [show ((2 ^ (many - 1) : Nat) : Int) - 1 = ((2 ^ (many - 1) - 1 : Nat) : Int) from by omega, PyProof.Rows.bitAnd_pp (Int.natCast_nonneg _) (Int.natCast_nonneg _), Int.toNat_natCast, Int.toNat_natCast, Nat.and_two_pow_sub_one_eq_mod]
  have q1 : (lLc [7] (tName 7) (tYesE) (e2 andD (eVar 7) (e2 subD (e2 shlD (eC (.int 1)) (eVar 4)) (eC (.int 1)))) (iL (eVar 5))) [.val s, .val a, .val b, .val ts, .val (.int ((many - 1 : Nat) : Int)), .val (.list (base.map encN)), ov o, .emp] = .ok (base.map fun z => encN (g z)) := by
    generalize 2 ^ (many - 1) = q at *
    exact lLc_mapT (enc := encN) (by simp) (fun z _ => by
      have hz : Builtin.bitAnd (z : Int) ((q : Int) - 1) = ((z % q : Nat) : Int) := hg z
      have e2 : andD (encN z) (.int ((q : Int) - 1)) = some (encN (z % q)) := by
        show some (PyData.int (Builtin.bitAnd (z : Int) ((q : Int) - 1))) = _
        rw [hz]
        rfl
      simp only [compH_ap, wipe1, wipe0, tName_ap, List.getElem?_cons_succ, List.getElem?_cons_zero, canPut_e, if_true, List.set_cons_succ, List.set_cons_zero, bind_ok, tYes_ap, e2_ap, eVar_ap, eC_ap, s1, ofO_some, sub_int, e2, map_ok, hgd]) (by unfold LIM; omega)
  have q2 : (base.map fun z => encN (g z)) = (base.map g).map encN := by rw [List.map_map]; rfl
  rw [q2] at q1
  have q3 := v__law_reduced2 (base.map g) (by rw [List.length_map]; unfold LIM; omega)
  obtain ⟨r1, r2⟩ := La.redN_ok (base.map g)
  refine ⟨La.redN (base.map g), by have := redN_le (base.map g); rwa [List.length_map] at this, r1, fun z hz => ?_, ?_⟩
  · refine La.sp_lt (fun x hx => ?_) ((r2 z).mp (.mem hz))
    obtain ⟨y, _, rfl⟩ := List.mem_map.mp hx
    exact Nat.mod_lt _ p0
  unfold shB
  rw [seq_nx (ρ' := [.val s, .val a, .val b, .val ts, .val (.int ((many - 1 : Nat) : Int)), .val (.list (base.map encN)), ov o, .emp])]
  · simp only [sSet_ap, eCall_ap, aCons_ap, aNil_ap, eL_ap, q1, map_ok, bind_ok, List.length_singleton, if_true, q3, lift_ok]
    simp
  · have : ((many - 1 : Nat) : Int) = (many : Int) - 1 := by omega
    simp [this]
theorem v__law_steps_of2 (ns : List Int) (k : Nat) : ∃ (many : Nat) (base : List Nat), f__law_steps_of [scr ns, .int k] = .ok (.tuple [.int many, .list (base.map encN)]) ∧ many ≤ 12 ∧ base.length ≤ 8 ∧ many ≤ base.length + 8 ∧ La.Rdc base ∧ ∀ z ∈ base, z < 2 ^ many := by
  obtain ⟨b, hb⟩ := v_big ns (k + 3)
  rw [show ((k + 3 : Nat) : Int) = (k : Int) + 3 from rfl] at hb
  obtain ⟨ts, ht1, ht2, ht3, _, _⟩ := v_net2 ns k
  have he1 := v_even2 ts (by omega) (nm_pts ht3)
  rw [encN_map] at he1
  have he2 := (La.evT_inv (ts.map (La.edgeN (setS (pts ts))))).len
  have he3 : ∀ z ∈ La.evN (ts.map (La.edgeN (setS (pts ts)))), z < 2 ^ ts.length := fun z hz => by
    have := ((La.evT_inv (ts.map (La.edgeN (setS (pts ts))))).cF z hz).2
    rwa [List.length_map] at this
  have he4 : (La.evN (ts.map (La.edgeN (setS (pts ts))))).length ≤ ts.length := by
    rw [List.length_map] at he2
    unfold La.evN
    omega
  clear he2
  generalize La.evN (ts.map (La.edgeN (setS (pts ts)))) = ev at *
  have hs0 : startS 8 [scr ns, PyData.int k] = [.val (scr ns), .val (.int k), .emp, .emp, .emp, .emp, .emp, .emp] := rfl
  generalize scr ns = s at *
  have lim2 : (2 : Nat) ≤ LIM := by decide
  have c1' : ∃ base1 : List Nat, base1.length ≤ 30 ∧ (∀ z ∈ base1, z < 2 ^ ts.length) ∧ (sIf (toT (e2 ltD (e2 modD (eVar 2) (eC (.int 8))) (eC (.int 2)))) (sSet 5 (eL (l2 addL (eVar 5) (eL (eS slL (eL (eCall 2 f_free (aCons (e2 divD (eVar 2) (eC (.int 8))) (aCons (eVar 4) (aNil))))) (oNo) (oSo (e2 addD (eC (.int 1)) (e2 modD (eVar 2) (eC (.int 8)))))))))) (sNx)) [.val s, .val (.int k), .val (.int b), .val (.list (ts.map encT)), .val (.int ts.length), .val (.list (ev.map encN)), .emp, .emp] = .nx [.val s, .val (.int k), .val (.int b), .val (.list (ts.map encT)), .val (.int ts.length), .val (.list (base1.map encN)), .emp, .emp] := by
    by_cases c : b % 8 < 2
    · obtain ⟨fr, hf1, hf2, hf3⟩ := v_free2 (b / 8) ts.length (by omega)
      obtain ⟨ys, y1, y2, y3⟩ := cut_map encN fr none (some (1 + b % 8))
      refine ⟨ev ++ ys, by rw [List.length_append]; omega, (fun z hz => by
        rcases List.mem_append.mp hz with h | h
        · exact he3 z h
        · exact hf3 z (y3 z h)), ?_⟩
      rw [if_t (by simp [m8, c])]
      have ha : addL (.list (ev.map encN)) (.list (ys.map encN)) = some (ev.map encN ++ ys.map encN) := add_list (by simp; unfold LIM; omega)
      simp [d8, m8, hf1, y1, ha]
    · exact ⟨ev, by omega, he3, by rw [if_f (by simp [m8, c])]; rfl⟩
  obtain ⟨base1, hb1, hl1, st1⟩ := c1'
  have c2' : ∃ (many : Nat) (base2 : List Nat), many ≤ 12 ∧ base2.length ≤ 30 ∧ (∀ z ∈ base2, z < 2 ^ many) ∧ (sIf (toT (e2 eqD (e2 modD (eVar 2) (eC (.int 8))) (eC (.int 2)))) (sSeq (sSet 4 (e2 addD (eC (.int 1)) (e2 modD (e2 divD (eVar 2) (eC (.int 8))) (eC (.int 12))))) (sSet 5 (eL (eCall 2 f_free (aCons (e2 divD (eVar 2) (eC (.int 96))) (aCons (eVar 4) (aNil))))))) (sNx)) [.val s, .val (.int k), .val (.int b), .val (.list (ts.map encT)), .val (.int ts.length), .val (.list (base1.map encN)), .emp, .emp] = .nx [.val s, .val (.int k), .val (.int b), .val (.list (ts.map encT)), .val (.int many), .val (.list (base2.map encN)), .emp, .emp] := by
    by_cases c : b % 8 = 2
    · obtain ⟨n, hn, hn2⟩ : ∃ n : Nat, 1 + b / 8 % 12 = n ∧ n ≤ 12 := ⟨(1 + b / 8 % 12).toNat, by omega, by omega⟩
      obtain ⟨fr, hf1, hf2, hf3⟩ := v_free2 (b / 96) n (by omega)
      refine ⟨n, fr, hn2, by omega, hf3, ?_⟩
      rw [if_t (by simp [m8, c]), seq_nx (ρ' := [.val s, .val (.int k), .val (.int b), .val (.list (ts.map encT)), .val (.int n), .val (.list (base1.map encN)), .emp, .emp]) (by simp [d8, m12, hn])]
      simp [d96, hf1]
    · exact ⟨ts.length, base1, ht2, hb1, hl1, by rw [if_f (by simp [m8, c])]; rfl⟩
  obtain ⟨many2, base2, hm2, hb2, hl2, st2⟩ := c2'
  have c3' : ∃ (many : Nat) (base3 : List Nat) (o : Option D), many ≤ 12 ∧ base3.length ≤ 60 ∧ (∀ z ∈ base3, z < 2 ^ many) ∧ (sIf (toT (e2 gtD (e2 modD (eVar 2) (eC (.int 8))) (eC (.int 4)))) (sSeq (sAsg (tTupT 2 (tsCons (tName 4) (tsCons (tName 5) (tsNil)))) (eCall 1 f_small (aCons (e2 modD (e2 divD (eVar 2) (eC (.int 8))) (eC (.int 4))) (aNil)))) (sSeq (sSet 6 (eB (c2 minI) (aCons (eC (.int 12)) (aCons (e2 addD (eVar 4) (e2 modD (e2 divD (eVar 2) (eC (.int 32))) (eC (.int 4)))) (aNil))))) (sSeq (sSet 5 (eCall 4 f_with_more (aCons (eVar 5) (aCons (eVar 4) (aCons (e2 divD (eVar 2) (eC (.int 128))) (aCons (eVar 6) (aNil))))))) (sSet 4 (eVar 6))))) (sNx)) [.val s, .val (.int k), .val (.int b), .val (.list (ts.map encT)), .val (.int many2), .val (.list (base2.map encN)), .emp, .emp] = .nx [.val s, .val (.int k), .val (.int b), .val (.list (ts.map encT)), .val (.int many), .val (.list (base3.map encN)), ov o, .emp] := by
    by_cases c : 4 < b % 8
    · obtain ⟨sm, xs, g1, g2, g3, g4, g5⟩ := v_small2 (b / 8)
      obtain ⟨mo, hmo, hmo2, hmo3⟩ : ∃ mo : Nat, (if (sm : Int) + b / 32 % 4 < 12 then (sm : Int) + b / 32 % 4 else 12) = (mo : Int) ∧ mo ≤ 12 ∧ sm ≤ mo := ⟨((if (sm : Int) + b / 32 % 4 < 12 then (sm : Int) + b / 32 % 4 else 12)).toNat, by split <;> omega, by split <;> omega, by split <;> omega⟩
      obtain ⟨base', w1, w2, w3⟩ := v_with_more2 xs sm g2 (by omega) g5 (b / 128) mo hmo3 (by omega)
      refine ⟨mo, base', some (.int mo), hmo2, by omega, w3, ?_⟩
      rw [if_t (by simp [m8, c]), seq_nx (ρ' := [.val s, .val (.int k), .val (.int b), .val (.list (ts.map encT)), .val (.int sm), .val (.list (xs.map encN)), .emp, .emp]) (by simp [d8, m4', g1]), seq_nx (ρ' := [.val s, .val (.int k), .val (.int b), .val (.list (ts.map encT)), .val (.int sm), .val (.list (xs.map encN)), .val (.int mo), .emp])]
      · simp [d128, w1, ov_v]
      · have hmi : minI (.int 12) (.int ((sm : Int) + b / 32 % 4)) = some (.int mo) := by
          show some (PyData.int (if (sm : Int) + b / 32 % 4 < 12 then (sm : Int) + b / 32 % 4 else 12)) = _
          rw [hmo]
        simp [d32, m4', hmi]
    · exact ⟨many2, base2, none, hm2, by omega, hl2, by rw [if_f (by simp [m8, c])]; rfl⟩
  obtain ⟨many3, base3, o, hm3, hb3, hl3, st3⟩ := c3'
  have q3 := v__law_reduced2 base3 (by unfold LIM; omega)
  obtain ⟨r1, r2⟩ := La.redN_ok base3
  have t1 : La.Rdc ((La.redN base3).take 8) := ⟨fun a ha => r1.1 a (List.mem_of_mem_take ha), r1.2.sublist (List.take_sublist _ _)⟩
  have t2 : ∀ z ∈ (La.redN base3).take 8, z < 2 ^ many3 := fun z hz => La.sp_lt hl3 ((r2 z).mp (.mem (List.mem_of_mem_take hz)))
  obtain ⟨m, ρ', ⟨base', k', e1, e2, e3, e4, e5, rfl⟩, hc, hl⟩ := loopW_inv (c := (toT (e2 gtD (e2 subD (eVar 4) (eB (c1 lenD) (aCons (eVar 5) (aNil)))) (eC (.int 8))))) (fb := shB) (fun n ρ => ∃ (base' : List Nat) (k' : Nat), n = k' ∧ k' ≤ 12 ∧ base'.length ≤ 8 ∧ La.Rdc base' ∧ (∀ z ∈ base', z < 2 ^ k') ∧ ρ = [.val s, .val (.int k), .val (.int b), .val (.list (ts.map encT)), .val (.int k'), .val (.list (base'.map encN)), ov o, .emp]) (fun n ρ hρ => by
    obtain ⟨base', k', e1, e2, e3, e4, e5, rfl⟩ := hρ
    by_cases hk : 8 < (k' : Int) - (base'.length : Int)
    · right
      obtain ⟨b2, q1, q1b, q1c, q2⟩ := sh_body2 s (.int k) (.int b) (.list (ts.map encT)) k' (by omega) (by omega) base' (by omega) o
      refine ⟨by simp [hk], k' - 1, by omega, _, ⟨b2, k' - 1, rfl, by omega, by omega, q1b, q1c, rfl⟩, q2⟩
    · left
      simp [hk]) 1000 many3 [.val s, .val (.int k), .val (.int b), .val (.list (ts.map encT)), .val (.int many3), .val (.list (((La.redN base3).take 8).map encN)), ov o, .emp] ⟨(La.redN base3).take 8, many3, rfl, hm3, by rw [List.length_take]; omega, t1, t2, rfl⟩ (by omega)
  have hk : k' ≤ base'.length + 8 := by
    simp at hc
    omega
  refine ⟨k', base', runD_rt ?_, e2, e3, hk, e4, e5⟩
  unfold m__law_steps_of
  rw [hs0, seq_nx (ρ' := [.val s, .val (.int k), .val (.int b), .emp, .emp, .emp, .emp, .emp]) (by simp [hb]), seq_nx (ρ' := [.val s, .val (.int k), .val (.int b), .val (.list (ts.map encT)), .emp, .emp, .emp, .emp]) (by simp [ht1]), seq_nx (ρ' := [.val s, .val (.int k), .val (.int b), .val (.list (ts.map encT)), .val (.int ts.length), .val (.list (ev.map encN)), .emp, .emp]) (by simp [he1, lim2]), seq_nx st1, seq_nx st2, seq_nx st3, seq_nx (ρ' := [.val s, .val (.int k), .val (.int b), .val (.list (ts.map encT)), .val (.int many3), .val (.list (((La.redN base3).take 8).map encN)), ov o, .emp])]
  · refine (seq_nx hl).trans ?_
    simp [lim2]
  · have := cut_take encN (La.redN base3) 8
    have : cutD ((La.redN base3).map encN) none (some 8) = ((La.redN base3).take 8).map encN := this
    simp [q3, this]
end K73

set_option Elab.async false
set_option linter.all false
set_option maxRecDepth 100000
set_option maxHeartbeats 0
/-! K73p7: the table that is drawn, within the bounds. -/
namespace K73
open PySem PySem.Spec Mp
open L2 (atI)
theorem bit1 (z k : Nat) : (Builtin.bitAnd ((z : Int) / 2 ^ k) 1 = 1) ↔ z.testBit k = true := by
  rw [PyProof.Rows.bitAnd_m1, La.pow_ci, Nat.testBit_eq_decide_div_mod_eq]
  have : ((z : Int) / ((2 ^ k : Nat) : Int)) = ((z / 2 ^ k : Nat) : Int) := rfl
  rw [this]
  simp only [decide_eq_true_eq]
  omega
theorem mask_bit (names : List Str) (k : Nat) : ∀ (row : List Str) (a : Nat), (row.foldl (fun n x => n ||| 2 ^ ix names x) a).testBit k = (a.testBit k || row.any fun x => decide (ix names x = k))
  | [], a => by simp
  | x :: row, a => by
    rw [List.foldl_cons, mask_bit names k row, List.any_cons, Nat.testBit_or, Nat.testBit_two_pow, Bool.or_assoc]
theorem ix_at {names : List Str} (hn : names.Nodup) {k : Nat} (hk : k < names.length) : ix names names[k] = k := by
  have h1 := ix_get (List.getElem_mem hk)
  have h2 := ix_lt (List.getElem_mem hk)
  rw [List.getElem?_eq_getElem h2] at h1
  injection h1 with h3
  exact (List.getElem_inj hn).mp h3
theorem mask_row {names : List Str} (hn : names.Nodup) {z : Nat} (hz : z < 2 ^ names.length) : maskN names (rowZ names (z : Int)) = z := by
  apply Nat.eq_of_testBit_eq
  intro k
  unfold maskN
  rw [mask_bit, Nat.zero_testBit, Bool.false_or]
  by_cases hk : k < names.length
  · cases hb : z.testBit k with
    | true =>
      rw [List.any_eq_true]
      refine ⟨names[k], ?_, decide_eq_true (ix_at hn hk)⟩
      unfold rowZ
      refine List.mem_map.mpr ⟨(names[k], k), List.mem_filter.mpr ⟨?_, decide_eq_true ((bit1 z k).mpr hb)⟩, rfl⟩
      rw [List.mem_zipIdx_iff_getElem?]
      exact List.getElem?_eq_getElem hk
    | false =>
      rw [Bool.eq_false_iff]
      intro h
      obtain ⟨x, hx, e⟩ := List.any_eq_true.mp h
      unfold rowZ at hx
      obtain ⟨p, hp, rfl⟩ := List.mem_map.mp hx
      obtain ⟨h1, h2⟩ := List.mem_filter.mp hp
      have h3 := (bit1 z p.2).mp (of_decide_eq_true h2)
      have h4 : names[p.2]? = some p.1 := List.mem_zipIdx_iff_getElem?.mp h1
      have h5 : p.2 < names.length := (List.getElem?_eq_some_iff.mp h4).1
      have h6 : names[p.2] = p.1 := (List.getElem?_eq_some_iff.mp h4).2
      have h7 := ix_at hn h5
      rw [h6] at h7
      have e' : ix names p.1 = k := of_decide_eq_true e
      rw [← e', h7, h3] at hb
      cases hb
  · rw [Nat.testBit_lt_two_pow (Nat.lt_of_lt_of_le hz (Nat.pow_le_pow_right (by omega) (by omega))), Bool.eq_false_iff]
    intro h
    obtain ⟨x, hx, e⟩ := List.any_eq_true.mp h
    have h1 := ix_lt ((rowZ_sub names (z : Int)).subset hx)
    have e' : ix names x = k := of_decide_eq_true e
    omega
theorem asc_row {names r : List Str} (hn : okRow names) (h : r.Sublist names) : okRow r := by
  refine ⟨List.all_eq_true.mpr fun x hx => List.all_eq_true.mp hn.1 x (h.subset hx), (ascR_iff r).mpr ?_⟩
  exact ((ascR_iff names).mp hn.2).sublist h
theorem xor_zero' (m : Nat) : Builtin.bitXor (m : Int) 0 = m := by rw [show (0 : Int) = ((0 : Nat) : Int) from rfl, La.xor_int, Nat.xor_zero]
theorem mul_one2 (i : Int) : mulD (.int i) (.int 1) = some (.int i) := by
  have := mulR i (j := 1) (by omega) (by omega)
  rwa [Int.mul_one] at this
theorem mul_zero2 (i : Int) : mulD (.int i) (.int 0) = some (.int 0) := by
  have := mulR i (j := 0) (by omega) (by omega)
  rwa [Int.mul_zero] at this
theorem mix_b0 (s a m base names : D) (own : List D) (i b' k mix : Int) (o : Option D) (w : b' / 9 % 2 = 0) : bodyH (tName 9) mixB (.int i) [.val s, .val a, .val m, .val base, .val names, .own own, .val (.int b'), .val (.int k), .val (.int mix), ov o] = .nx [.val s, .val a, .val m, .val base, .val names, .own own, .val (.int (b' / 2)), .val (.int k), .val (.int (Builtin.bitXor mix 0)), .val (.int i)] := by
  unfold mixB
  simp [d9, m2', d2, w, mul_zero2]
theorem mix_b1 (s a m base names : D) (own : List D) (i b' k mix : Int) (o : Option D) (w : b' / 9 % 2 = 1) : bodyH (tName 9) mixB (.int i) [.val s, .val a, .val m, .val base, .val names, .own own, .val (.int b'), .val (.int k), .val (.int mix), ov o] = .nx [.val s, .val a, .val m, .val base, .val names, .own own, .val (.int (b' / 2)), .val (.int k), .val (.int (Builtin.bitXor mix i)), .val (.int i)] := by
  unfold mixB
  simp [d9, m2', d2, w, mul_one2]
theorem mix_loop2 (s a m base names : D) (xs : List Nat) (own : List D) (ms : List Nat) (hx : ∀ x ∈ xs, x ∈ ms) (b k : Int) (o : Option D) : ∃ (b' : Int) (mix : Nat) (o' : Option D), La.Sp ms mix ∧ loopS (bodyH (tName 9) mixB) (xs.map encN) [.val s, .val a, .val m, .val base, .val names, .own own, .val (.int b), .val (.int k), .val (.int 0), ov o] = .nx [.val s, .val a, .val m, .val base, .val names, .own own, .val (.int b'), .val (.int k), .val (.int (mix : Nat)), ov o'] := by
  obtain ⟨ρ', ⟨b', mix, o', hsp, rfl⟩, h⟩ := loopS_inv (enc := encN) (xs := xs) (fun pre ρ => ∃ (b' : Int) (mix : Nat) (o' : Option D), La.Sp ms mix ∧ ρ = [.val s, .val a, .val m, .val base, .val names, .own own, .val (.int b'), .val (.int k), .val (.int (mix : Nat)), ov o']) (h := bodyH (tName 9) mixB) (fun pre i post e ρ hρ => by
    obtain ⟨b', mix, o', hsp, rfl⟩ := hρ
    have hi : i ∈ ms := hx i (by rw [e]; simp)
    rcases (by omega : b' / 9 % 2 = 0 ∨ b' / 9 % 2 = 1) with w | w
    · refine ⟨_, ⟨b' / 2, mix, some (.int i), hsp, rfl⟩, .inl ?_⟩
      refine (mix_b0 s a m base names own (i : Int) b' k (mix : Int) o' w).trans ?_
      rw [xor_zero' mix]
      rfl
    · refine ⟨_, ⟨b' / 2, mix ^^^ i, some (.int i), hsp.add hi, rfl⟩, .inl ?_⟩
      refine (mix_b1 s a m base names own (i : Int) b' k (mix : Int) o' w).trans ?_
      rw [La.xor_int]
      rfl) (ρ := [.val s, .val a, .val m, .val base, .val names, .own own, .val (.int b), .val (.int k), .val (.int 0), ov o]) ⟨b, 0, o, .zero, rfl⟩
  exact ⟨b', mix, o', hsp, h⟩
theorem sortD_strs2 {xs : List Str} (hn : xs.Nodup) (h : xs.length ≤ LIM) : ∃ ys : List Str, sortD (.list (xs.map .str)) = some (ys.map .str) ∧ ys.Perm xs ∧ ascR ys = true := by
  obtain ⟨ys, e, p⟩ := srt_strs xs
  refine ⟨ys, ?_, p, La.srt_asc hn e p⟩
  unfold sortD
  dsimp only
  rw [if_pos (sorted_str xs h), e]
theorem v_table2 (ns : List Int) (k : Nat) : ∃ (names : List Str) (rows : List (List Str)), f_table [scr ns, .int k] = .ok (.tuple [encR names, .list (rows.map encR)]) ∧ names.length ≤ 12 ∧ (∀ x ∈ names, isNm x = true) ∧ rows.length ≤ 16 ∧ (∀ r ∈ rows, r.Sublist names) ∧ okRow names ∧ fits names rows = true := by
  obtain ⟨many, base, hs1, hs2, hs3, hs4, hs5, hs6⟩ := v__law_steps_of2 ns k
  obtain ⟨b4, hb4⟩ := v_big ns (k + 4)
  obtain ⟨b5, hb5⟩ := v_big ns (k + 5)
  rw [show ((k + 4 : Nat) : Int) = (k : Int) + 4 from rfl] at hb4
  rw [show ((k + 5 : Nat) : Int) = (k : Int) + 5 from rfl] at hb5
  obtain ⟨xs, hx1, hx2, hx3, hx4⟩ := v_names2 b4 many (by omega)
  obtain ⟨names, hn1, hn2, hn3⟩ := sortD_strs2 hx4 (by unfold LIM; omega)
  have hs0 : startS 10 [scr ns, PyData.int k] = [.val (scr ns), .val (.int k), .emp, .emp, .emp, .emp, .emp, .emp, .emp, .emp] := rfl
  generalize scr ns = s at *
  have hnl : names.length = many := by rw [hn2.length_eq, hx2]
  have lim2 : (2 : Nat) ≤ LIM := by decide
  obtain ⟨n, hn, hn8⟩ : ∃ n : Nat, b5 % 9 = n ∧ n ≤ 8 := ⟨(b5 % 9).toNat, by omega, by omega⟩
  obtain ⟨ρ', ⟨b', ys, a7, a8, a9, hy, hq1, hq2, rfl⟩, hloop⟩ := loopS_inv (enc := fun i : Nat => PyData.int ((i : Nat) : Int)) (xs := List.range n) (fun pre ρ => ∃ (b' : Int) (ys : List Nat) (a7 a8 a9 : Option D), ys.length = base.length + pre.length ∧ (∀ y ∈ base, y ∈ ys) ∧ (∀ y ∈ ys, La.Sp base y) ∧ ρ = [.val s, .val (.int k), .val (.int many), .val (.list (base.map encN)), .val (.list (names.map .str)), .own (ys.map encN), .val (.int b'), ov a7, ov a8, ov a9]) (h := bodyH (tName 7) (sSeq (sSet 8 (eC (.int 0))) (sSeq (sFor (iL (eL (eS slL (bVar 5) (oNo) (oSo (eB (c1 lenD) (aCons (eVar 3) (aNil))))))) (tName 9) mixB) (sIns 5 (e2 modD (e2 divD (eVar 6) (eC (.int 9))) (e2 addD (eB (c1 lenD) (aCons (bVar 5) (aNil))) (eC (.int 1)))) (eVar 8))))) (fun pre i post e ρ hρ => by
    obtain ⟨b', ys, a7, a8, a9, hy, hq1, hq2, rfl⟩ := hρ
    have hpl : pre.length < n := by
      have := congrArg List.length e
      simp at this
      omega
    have hlt : ys.length < LIM := by unfold LIM; omega
    have hct := cut_take encN ys base.length
    obtain ⟨b2, mix, o2, hsp, hm⟩ := mix_loop2 s (.int k) (.int many) (.list (base.map encN)) (.list (names.map .str)) (ys.take base.length) (ys.map encN) ys (fun x hx => List.mem_of_mem_take hx) b' i a9
    obtain ⟨p, hp, hp2⟩ := m_sp (b2 / 9) (s := ys.length + 1) (by omega)
    rw [show ((ys.length + 1 : Nat) : Int) = (ys.length : Int) + 1 from rfl] at hp
    refine ⟨_, ⟨b2, ys.take p ++ [mix] ++ ys.drop p, some (.int i), some (.int mix), o2, ?_, ?_, ?_, rfl⟩, .inl ?_⟩
    · simp; omega
    · intro y hy2
      have := hq1 y hy2
      rw [← List.take_append_drop p ys] at this
      rcases List.mem_append.mp this with h | h
      · simp [h]
      · simp [h]
    · intro y hy2
      simp only [List.mem_append, List.mem_singleton] at hy2
      rcases hy2 with (h | h) | h
      · exact hq2 y (List.mem_of_mem_take h)
      · rw [h]; exact hsp.sub hq2
      · exact hq2 y (List.mem_of_mem_drop h)
    · rw [bodyH_ap]
      simp only [tName_ap, List.getElem?_cons_succ, List.getElem?_cons_zero, canPut_ov, if_true, List.set_cons_succ, List.set_cons_zero]
      rw [seq_nx (ρ' := [.val s, .val (.int k), .val (.int many), .val (.list (base.map encN)), .val (.list (names.map .str)), .own (ys.map encN), .val (.int b'), .val (.int i), .val (.int 0), ov a9]) (by simp), seq_nx (ρ' := [.val s, .val (.int k), .val (.int many), .val (.list (base.map encN)), .val (.list (names.map .str)), .own (ys.map encN), .val (.int b2), .val (.int i), .val (.int (mix : Nat)), ov o2])]
      · have pr : (p : Int) < 4611686018427387904 := by omega
        simp only [sIns_ap, List.getElem?_cons_succ, List.getElem?_cons_zero, e2_ap, eVar_ap, eC_ap, bind_ok, d9, ofO_some, eB_ap, aCons_ap, aNil_ap, bVar_ap, c1_ap, len_list, List.length_map, add_int, hp, lift_ok]
        rw [if_pos ⟨hlt, by omega, by simpa using pr⟩, Int.toNat_natCast, show insD (ys.map encN) p (.int (mix : Nat)) = (ys.take p ++ [mix] ++ ys.drop p).map encN from insD_map encN ys p mix]
        rfl
      · rw [sFor_ap, ← hm]
        simp [hct]) (ρ := [.val s, .val (.int k), .val (.int many), .val (.list (base.map encN)), .val (.list (names.map .str)), .own (base.map encN), .val (.int b5), .emp, .emp, .emp]) ⟨b5, base, none, none, none, rfl, (fun y hy => hy), (fun y hy => .mem hy), rfl⟩
  rw [List.length_range] at hy
  have htk : ys.take 16 = ys := List.take_of_length_le (by omega)
  have hnd : names.Nodup := hn2.nodup_iff.mpr hx4
  have hok : okRow names := ⟨List.all_eq_true.mpr fun x hx => hx3 x (hn2.mem_iff.mp hx), hn3⟩
  have hlt : ∀ y ∈ ys, y < 2 ^ names.length := fun y hy => by rw [hnl]; exact La.sp_lt hs6 (hq2 y hy)
  have hhigh : high names (ys.map fun y : Nat => rowZ names (y : Int)) = base.length := by
    unfold high
    have e : ((ys.map fun y : Nat => rowZ names (y : Int)).map fun r => (maskN names r : Int)) = ys.map ci := by
      rw [List.map_map]
      apply List.map_congr_left
      intro y hy
      show ((maskN names (rowZ names (y : Int)) : Nat) : Int) = (y : Int)
      rw [mask_row hnd (hlt y hy)]
    rw [e, La.redL_N, List.length_map]
    obtain ⟨r1, r2⟩ := La.redN_ok ys
    exact La.rank_eq r1.ech hs5.ech (fun x hx => ((r2 x).mp (.mem hx)).sub hq2) fun x hx => (r2 x).mpr (.mem (hq1 x hx))
  refine ⟨names, ys.map fun y : Nat => rowZ names (y : Int), runD_rt ?_, by omega, (fun x hx => hx3 x (hn2.mem_iff.mp hx)), by rw [List.length_map]; omega, (fun r hr => ?_), hok, ?_⟩
  · unfold m_table
    rw [hs0, seq_nx (ρ' := [.val s, .val (.int k), .val (.int many), .val (.list (base.map encN)), .emp, .emp, .emp, .emp, .emp, .emp]) (by simp [hs1]), seq_nx (ρ' := [.val s, .val (.int k), .val (.int many), .val (.list (base.map encN)), .val (.list (names.map .str)), .emp, .emp, .emp, .emp, .emp]) (by simp [hb4, hx1, hn1]), seq_nx (ρ' := [.val s, .val (.int k), .val (.int many), .val (.list (base.map encN)), .val (.list (names.map .str)), .own (base.map encN), .emp, .emp, .emp, .emp]) (by simp [listD, seqOf]), seq_nx (ρ' := [.val s, .val (.int k), .val (.int many), .val (.list (base.map encN)), .val (.list (names.map .str)), .own (base.map encN), .val (.int b5), .emp, .emp, .emp]) (by simp [hb5]), seq_nx (ρ' := [.val s, .val (.int k), .val (.int many), .val (.list (base.map encN)), .val (.list (names.map .str)), .own (ys.map encN), .val (.int b'), ov a7, ov a8, ov a9])]
    · have q1 : (lLc [9] (tName 9) (tYesE) (eL (eCall 2 f_row (aCons (eVar 4) (aCons (eVar 9) (aNil))))) (iL (eL (eS slL (bVar 5) (oNo) (oSo (eC (.int 16))))))) [.val s, .val (.int k), .val (.int many), .val (.list (base.map encN)), .val (.list (names.map .str)), .own (ys.map encN), .val (.int b'), ov a7, ov a8, ov a9] = .ok (ys.map fun z : Nat => encR (rowZ names (z : Int))) :=
        lLc_mapT (enc := encN) (by
          have := cut_take encN ys 16
          rw [htk] at this
          have : cutD (ys.map encN) none (some 16) = ys.map encN := this
          simp [this]) (fun z _ => by
          have := v_row names (z : Int) (by unfold LIM; omega)
          simp [this, encR, encN]) (by unfold LIM; omega)
      simp only [sRet_ap, eTup_ap, aCons_ap, aNil_ap, eL_ap, q1, eVar_ap, List.getElem?_cons_succ, List.getElem?_cons_zero, bind_ok, map_ok, List.map_map]
      rfl
    · have hr : (iR1 (aCons (e2 modD (eVar 6) (eC (.int 9))) (aNil))) [.val s, .val (.int k), .val (.int many), .val (.list (base.map encN)), .val (.list (names.map .str)), .own (base.map encN), .val (.int b5), .emp, .emp, .emp] = .ok ((List.range n).map fun i : Nat => PyData.int ((i : Nat) : Int)) :=
        iR1_nat (by simp [m9, hn]) (by omega)
      rw [sFor_ap, hr, lift_ok]
      exact hloop
  · obtain ⟨z, _, rfl⟩ := List.mem_map.mp hr
    exact rowZ_sub names z
  · unfold fits
    rw [hhigh, List.length_map, hnl, hy]
    have c1 : base.length + n ≤ 16 := by omega
    have c2 : many ≤ 8 + base.length := by omega
    simp [hs2, hs3, c1, c2]
end K73

set_option Elab.async false
set_option linter.all false
set_option maxRecDepth 100000
set_option maxHeartbeats 0
/-! La5: what is joined is split to the same. -/
namespace La
open PySem StrLaws Builtin.Str K73
/-- the signs of parts with a mark between -/
def jl (m : List Nat) : List (List Nat) → List Nat
  | [] => []
  | [p] => p
  | p :: q :: r => p ++ m ++ jl m (q :: r)
theorem join_jl (y : Str) : ∀ parts : List Str, (Txt.join y parts).cps.toList = jl y.cps.toList (parts.map fun p => p.cps.toList) := by
  intro parts
  show (Builtin.Str.glued y parts).cps.toList = _
  rw [glued_eq_join]
  induction parts with
  | nil => rfl
  | cons p r ih =>
    cases r with
    | nil => rfl
    | cons q r =>
      show (p ++ y ++ Str.join y (q :: r)).cps.toList = p.cps.toList ++ y.cps.toList ++ jl y.cps.toList ((q :: r).map fun p => p.cps.toList)
      rw [← ih]
      show ((p.cps ++ y.cps) ++ (Str.join y (q :: r)).cps).toList = _
      simp
theorem at_list {x y : Str} {k : Nat} (h : At x y x.length k) : k + y.length ≤ x.length ∧ (x.cps.toList.drop k).take y.length = y.cps.toList := by
  refine ⟨h.1, ?_⟩
  have := h.2
  rw [subAt_eq] at this
  exact beq_iff_eq.mp this
theorem at_of {x y : Str} {k : Nat} (h1 : k + y.length ≤ x.length) (h : (x.cps.toList.drop k).take y.length = y.cps.toList) : At x y x.length k := by
  refine ⟨h1, ?_⟩
  rw [subAt_eq]
  exact beq_iff_eq.mpr h
theorem len_list (x : Str) : x.cps.toList.length = x.length := txt_length x
/-- where the mark's own sign stands, if the mark stands -/
theorem at_sign {x y : Str} {k d c : Nat} (hd : y.cps.toList[d]? = some c) (h : At x y x.length k) : x.cps.toList[k + d]? = some c := by
  obtain ⟨h1, h2⟩ := at_list h
  rw [← h2] at hd
  have hlt : d < y.length := by
    have := (List.getElem?_eq_some_iff.mp hd).1
    rw [List.length_take] at this
    omega
  rw [List.getElem?_take_of_lt hlt, List.getElem?_drop] at hd
  exact hd
theorem parts_key {y : Str} {u v : List Nat} {c : Nat} (hy : y.cps.toList = u ++ c :: v) (hu : c ∉ u) (x : Str) : ∀ (parts : List Str), parts ≠ [] → (∀ p ∈ parts, c ∉ p.cps.toList) → ∀ (pre : List Nat), x.cps.toList = pre ++ jl y.cps.toList (parts.map fun p => p.cps.toList) → ∀ (cuts : List Nat) (f : Nat), ChainG x y x.length pre.length cuts f → (∀ k, f ≤ k → ¬ At x y x.length k) → partsFrom x y.length pre.length cuts = parts := by
  have hd : y.cps.toList[u.length]? = some c := by rw [hy]; simp
  have hyl : y.length = u.length + 1 + v.length := by rw [← len_list y, hy]; simp; omega
  intro parts
  induction parts with
  | nil => intro h; exact absurd rfl h
  | cons p r ih =>
    intro _ hp pre hx cuts f hch hf
    have hcp := hp p List.mem_cons_self
    cases r with
    | nil =>
      have hx' : x.cps.toList = pre ++ p.cps.toList := hx
      have no : ∀ k, pre.length ≤ k → ¬ At x y x.length k := by
        intro k hk hA
        have h1 := at_sign hd hA
        rw [hx', List.getElem?_append_right (by omega)] at h1
        exact hcp (List.mem_of_getElem? h1)
      cases cuts with
      | cons c0 cs => exact absurd hch.2.1 (no c0 hch.1)
      | nil =>
        show [strSub x pre.length x.length] = [p]
        congr 1
        apply Str.ext'
        apply Array.toList_inj.mp
        rw [strSub_toList, hx', List.drop_left]
        have : x.length - pre.length = p.cps.toList.length := by rw [← len_list x, hx', List.length_append]; omega
        rw [this, List.take_length]
    | cons q r =>
      have hx' : x.cps.toList = pre ++ (p.cps.toList ++ (y.cps.toList ++ jl y.cps.toList ((q :: r).map fun p => p.cps.toList))) := by
        rw [hx]
        show pre ++ (p.cps.toList ++ y.cps.toList ++ jl y.cps.toList ((q :: r).map fun p => p.cps.toList)) = _
        rw [List.append_assoc]
      have here : At x y x.length (pre.length + p.cps.toList.length) := by
        refine at_of ?_ ?_
        · rw [← len_list x, hx', ← len_list y]; simp; omega
        · rw [hx', List.drop_append, Nat.add_sub_cancel_left]
          rw [List.drop_of_length_le (by omega), List.nil_append, List.drop_left, ← len_list y, List.take_left]
      have no : ∀ k, pre.length ≤ k → k < pre.length + p.cps.toList.length → ¬ At x y x.length k := by
        intro k hk hk2 hA
        have h1 := at_sign hd hA
        rw [hx', List.getElem?_append_right (by omega)] at h1
        by_cases hlt : k + u.length - pre.length < p.cps.toList.length
        · rw [List.getElem?_append_left hlt] at h1
          exact hcp (List.mem_of_getElem? h1)
        · rw [List.getElem?_append_right (by omega), hy, List.append_assoc, List.getElem?_append_left (by omega)] at h1
          exact hu (List.mem_of_getElem? h1)
      cases cuts with
      | nil =>
        have e : f = pre.length := hch
        exact absurd here (hf _ (by omega))
      | cons c0 cs =>
        obtain ⟨g1, g2, g3, g4⟩ := hch
        have ec : c0 = pre.length + p.cps.toList.length := by
          rcases Nat.lt_trichotomy c0 (pre.length + p.cps.toList.length) with h | h | h
          · exact absurd g2 (no c0 g1 h)
          · exact h
          · exact absurd here (g3 _ (by omega) h)
        subst ec
        show strSub x pre.length (pre.length + p.cps.toList.length) :: partsFrom x y.length (pre.length + p.cps.toList.length + y.length) cs = _
        have el : pre.length + p.cps.toList.length + y.length = (pre ++ (p.cps.toList ++ y.cps.toList)).length := by rw [← len_list y]; simp; omega
        rw [el] at g4 ⊢
        rw [ih (by simp) (fun z hz => hp z (List.mem_cons_of_mem _ hz)) (pre ++ (p.cps.toList ++ y.cps.toList)) (by rw [hx']; simp) cs f g4 hf]
        congr 1
        apply Str.ext'
        apply Array.toList_inj.mp
        rw [strSub_toList, hx', List.drop_left, Nat.add_sub_cancel_left, List.take_left]
theorem split_join {y : Str} {u v : List Nat} {c : Nat} (hy : y.cps.toList = u ++ c :: v) (hu : c ∉ u) (hk : Builtin.Str.strKind y = 1) {parts : List Str} (hn : parts ≠ []) (hp : ∀ p ∈ parts, c ∉ p.cps.toList) : Txt.split (Txt.join y parts) y = parts := by
  have hj := join_jl y parts
  generalize hX : Txt.join y parts = x at *
  have hyl : 1 ≤ y.length := by rw [← len_list y, hy]; simp; omega
  obtain ⟨f, hch, hf⟩ := occ_tight x y hyl
  have key := parts_key hy hu x parts hn hp [] (by rw [hj]; rfl) _ f hch hf
  have h1 : ∀ x : Str, 1 ≤ Builtin.Str.strKind x := by
    intro x
    unfold Builtin.Str.strKind
    split
    · omega
    · split <;> omega
  have one : ∀ p : Str, [p] = parts → [x] = parts := by
    intro p e
    rw [← e] at hX
    have : Txt.join y [p] = p := rfl
    rw [this] at hX
    rw [← hX, e]
  unfold Txt.split
  split
  · rename_i hc
    rw [hk] at hc
    have h1x := h1 x
    simp only [Bool.or_eq_true, decide_eq_true_eq] at hc
    have hlt : x.length < y.length := by omega
    -- no mark fits
    have hno : occurrences x y 0 x.length (x.length + 1) = [] := by
      cases ho : occurrences x y 0 x.length (x.length + 1) with
      | nil => rfl
      | cons c0 cs =>
        rw [ho] at hch
        have := hch.2.1.1
        omega
    rw [hno] at key
    exact one _ key
  · split
    · rename_i he
      have hno : occurrences x y 0 x.length (x.length + 1) = [] := List.isEmpty_iff.mp he
      rw [hno] at key
      exact one _ key
    · rw [partsBetween_eq]
      exact key
end La

set_option Elab.async false
set_option linter.all false
set_option maxRecDepth 100000
set_option maxHeartbeats 0
/-! La6: what is written is read to the same. -/
namespace K73
open PySem PySem.Spec Mp
open L2 (atI)
theorem jl_mem {m : List Nat} {c : Nat} : ∀ {ps : List (List Nat)}, c ∈ La.jl m ps → c ∈ m ∨ ∃ p ∈ ps, c ∈ p
  | [], h => by cases h
  | [p], h => .inr ⟨p, by simp, h⟩
  | p :: q :: r, h => by
    have h' : c ∈ p ++ m ++ La.jl m (q :: r) := h
    rcases List.mem_append.mp h' with h | h
    · rcases List.mem_append.mp h with h | h
      · exact .inr ⟨p, by simp, h⟩
      · exact .inl h
    · rcases jl_mem h with h | ⟨z, hz, h⟩
      · exact .inl h
      · exact .inr ⟨z, List.mem_cons_of_mem _ hz, h⟩
theorem nm_sg {x : Str} (h : isNm x = true) : ∀ c ∈ x.cps.toList, c ∈ SG.cps.toList := by
  unfold isNm at h
  simp only [Bool.and_eq_true, decide_eq_true_eq] at h
  intro c hc
  exact of_decide_eq_true (List.all_eq_true.mp h.2 c hc)
theorem sg_no : (32 ∉ SG.cps.toList) ∧ (47 ∉ SG.cps.toList) ∧ (44 ∉ SG.cps.toList) ∧ (45 ∉ SG.cps.toList) := by decide +kernel
theorem split_sp {r : List Str} (hn : r ≠ []) (h : ∀ x ∈ r, isNm x = true) : Txt.split (Txt.join " " r) " " = r :=
  La.split_join (y := " ") (u := []) (v := []) (c := 32) (by decide +kernel) (by simp) (by decide +kernel) hn fun p hp hc => sg_no.1 (nm_sg (h p hp) 32 hc)
theorem join_codes {r : List Str} (h : ∀ x ∈ r, isNm x = true) : ∀ c ∈ (Txt.join " " r).cps.toList, c = 32 ∨ c ∈ SG.cps.toList := by
  intro c hc
  rw [La.join_jl] at hc
  rcases jl_mem hc with h1 | ⟨p, hp, h1⟩
  · left
    have : (" " : Str).cps.toList = [32] := by decide +kernel
    rw [this] at h1
    exact List.mem_singleton.mp h1
  · right
    obtain ⟨x, hx, rfl⟩ := List.mem_map.mp hp
    exact nm_sg (h x hx) c h1
theorem join_dash {r : List Str} (hn : r ≠ []) (h : ∀ x ∈ r, isNm x = true) : Txt.join " " r ≠ "-" := by
  intro e
  have h1 := join_codes h 45 (by rw [e]; decide +kernel)
  rcases h1 with h1 | h1
  · cases h1
  · exact sg_no.2.2.2 h1
theorem rowR_wr {r : List Str} (h : okRow r) : rowR (wr r) = some r := by
  have hm : ∀ x ∈ r, isNm x = true := fun x hx => List.all_eq_true.mp h.1 x hx
  unfold rowR wr
  by_cases e : r = []
  · rw [if_pos e, if_pos rfl, e]
  · rw [if_neg e, if_neg (join_dash e hm), split_sp e hm, h.1, h.2]
    rfl
theorem wr_codes {r : List Str} (h : ∀ x ∈ r, isNm x = true) : ∀ c ∈ (wr r).cps.toList, c = 32 ∨ c = 45 ∨ c ∈ SG.cps.toList := by
  intro c hc
  unfold wr at hc
  split at hc
  · have : ("-" : Str).cps.toList = [45] := by decide +kernel
    rw [this] at hc
    exact .inr (.inl (List.mem_singleton.mp hc))
  · rcases join_codes h c hc with h1 | h1
    · exact .inl h1
    · exact .inr (.inr h1)
theorem allR_wr : ∀ {rs : List (List Str)}, (∀ r ∈ rs, okRow r) → allR (rs.map wr) = some rs
  | [], _ => rfl
  | r :: rs, h => by
    rw [List.map_cons]
    unfold allR
    rw [rowR_wr (h r List.mem_cons_self), allR_wr fun s hs => h s (List.mem_cons_of_mem _ hs)]
    rfl
theorem split_rows {rs : List (List Str)} (hn : rs ≠ []) (h : ∀ r ∈ rs, okRow r) : Txt.split (Txt.join " / " (rs.map wr)) " / " = rs.map wr := by
  refine La.split_join (y := " / ") (u := [32]) (v := [32]) (c := 47) (by decide +kernel) (by simp) (by decide +kernel) (by simpa using hn) ?_
  intro p hp hc
  obtain ⟨r, hr, rfl⟩ := List.mem_map.mp hp
  rcases wr_codes (fun x hx => List.all_eq_true.mp (h r hr).1 x hx) 47 hc with e | e | e
  · cases e
  · cases e
  · exact sg_no.2.1 e
/-- a table as it is written -/
def wtab (names : List Str) (rows : List (List Str)) : Str := Txt.join " / " ((names :: rows).map wr)
theorem tabD_wr {names : List Str} {rows : List (List Str)} (hn : okRow names) (hr : ∀ r ∈ rows, r.Sublist names) (hf : fits names rows = true) : tabD (wtab names rows) = .ok (.tuple [encR names, .list (rows.map encR)]) := by
  have h : ∀ r ∈ names :: rows, okRow r := by
    intro r hm
    rcases List.mem_cons.mp hm with rfl | hm
    · exact hn
    · exact asc_row hn (hr r hm)
  unfold tabD wtab
  rw [split_rows (by simp) h, allR_wr h]
  dsimp only
  rw [List.tail_cons, List.headD_cons, if_pos, if_pos hf]
  refine List.all_eq_true.mpr fun r hm => List.all_eq_true.mpr fun x hx => decide_eq_true ((hr r hm).subset hx)
theorem tie3_wt {t : Tie} (h : nmT t) : tie3 (wt t) = some t := by
  unfold tie3 wt
  rw [split_sp (by simp) (by
    intro x hx
    simp only [List.mem_cons, List.not_mem_nil, or_false] at hx
    rcases hx with rfl | rfl | rfl
    · exact h.1
    · exact h.2.1
    · exact h.2.2)]
theorem allT_wt : ∀ {ts : List Tie}, (∀ t ∈ ts, nmT t) → allT (ts.map wt) = some ts
  | [], _ => rfl
  | t :: ts, h => by
    rw [List.map_cons]
    unfold allT
    rw [tie3_wt (h t List.mem_cons_self), allT_wt fun s hs => h s (List.mem_cons_of_mem _ hs)]
    rfl
theorem wt_codes {t : Tie} (h : nmT t) : ∀ c ∈ (wt t).cps.toList, c = 32 ∨ c ∈ SG.cps.toList := join_codes (by
  intro x hx
  simp only [List.mem_cons, List.not_mem_nil, or_false] at hx
  rcases hx with rfl | rfl | rfl
  · exact h.1
  · exact h.2.1
  · exact h.2.2)
theorem split_ties {ts : List Tie} (hn : ts ≠ []) (h : ∀ t ∈ ts, nmT t) : Txt.split (Txt.join ", " (ts.map wt)) ", " = ts.map wt := by
  refine La.split_join (y := ", ") (u := []) (v := [32]) (c := 44) (by decide +kernel) (by simp) (by decide +kernel) (by simpa using hn) ?_
  intro p hp hc
  obtain ⟨t, ht, rfl⟩ := List.mem_map.mp hp
  rcases wt_codes (h t ht) 44 hc with e | e
  · cases e
  · exact sg_no.2.2.1 e
/-- a net as it is written -/
def wnet (ts : List Tie) : Str := if ts = [] then "-" else Txt.join ", " (ts.map wt)
theorem wnet_dash {ts : List Tie} (hn : ts ≠ []) (h : ∀ t ∈ ts, nmT t) : Txt.join ", " (ts.map wt) ≠ "-" := by
  intro e
  have hc : 45 ∈ (Txt.join ", " (ts.map wt)).cps.toList := by rw [e]; decide +kernel
  rw [La.join_jl] at hc
  rcases jl_mem hc with h1 | ⟨p, hp, h1⟩
  · have : (", " : Str).cps.toList = [44, 32] := by decide +kernel
    rw [this] at h1
    simp at h1
  · rw [List.map_map] at hp
    obtain ⟨t, ht, rfl⟩ := List.mem_map.mp hp
    rcases wt_codes (h t ht) 45 h1 with e | e
    · cases e
    · exact sg_no.2.2.2 e
theorem netD_wt {ts : List Tie} (h : ∀ t ∈ ts, nmT t) (hg : goodN ts = true) (hf : fitsN ts = true) : netD (wnet ts) = .ok (.list (ts.map encT)) := by
  unfold netD wnet
  by_cases e : ts = []
  · subst e
    rw [if_pos rfl, if_pos rfl]
    rfl
  · rw [if_neg e, if_neg (wnet_dash e h), split_ties e h, allT_wt h]
    dsimp only
    rw [if_pos hg, if_pos hf]
theorem wtab_len {names : List Str} {rows : List (List Str)} (h1 : names.length ≤ 12) (h2 : rows.length ≤ 16) (h3 : ∀ r ∈ rows, r.Sublist names) (h4 : ∀ x ∈ names, isNm x = true) : (wtab names rows).length ≤ 1500 := by
  have l0 : ((names :: rows).map wr).length ≤ 17 := by simp; omega
  have w0 : ∀ y ∈ (names :: rows).map wr, y.length ≤ 84 := by
    intro y hy
    obtain ⟨r, hr, rfl⟩ := List.mem_map.mp hy
    rcases List.mem_cons.mp hr with rfl | h
    · exact wr_len h1 h4
    · exact wr_len (Nat.le_trans (h3 r h).length_le h1) fun x hx => h4 x ((h3 r h).subset hx)
  have s0 := sum_le w0
  have j0 := join_len " / " ((names :: rows).map wr)
  have c3 : (" / " : Str).length = 3 := rfl
  rw [c3] at j0
  unfold wtab
  omega
theorem wnet_len {ts : List Tie} (h1 : ts.length ≤ 12) (h : ∀ t ∈ ts, nmT t) : (wnet ts).length ≤ 300 := by
  unfold wnet
  split
  · decide
  · have w1 : ∀ y ∈ ts.map wt, y.length ≤ 21 := by
      intro y hy
      obtain ⟨t, ht, rfl⟩ := List.mem_map.mp hy
      exact wt_len (h t ht)
    have s1 := sum_le w1
    have j1 := join_len ", " (ts.map wt)
    have c2 : (", " : Str).length = 2 := rfl
    rw [c2] at j1
    rw [List.length_map] at s1 j1
    omega
end K73

set_option Elab.async false
set_option linter.all false
set_option maxRecDepth 100000
/-! Xa1: objects and data of one's own, told beside the slots. -/
namespace Mp
open PySem L2
/-- what is told of an object of one's own -/
inductive Ct where
  /-- data that nothing else has a part in -/
  | reg (d : D)
  /-- a tuple of two lists of at most so many things -/
  | two (n : Nat)
  | junk
  /-- an instance of the class x, its fields data that is shared -/
  | obj (x : Str) (fs : List (Str × D))
  /-- .. with one field, a dict of its own -/
  | dsk (x f : Str) (kvs : List (D × D))
def Ct.isObj : Ct → Bool
  | .obj _ _ => true
  | .dsk _ _ _ => true
  | _ => false
abbrev Bg := List (Nat × Ct)
def setB : Bg → Nat → Ct → Bg
  | [], i, c => [(i, c)]
  | (j, x) :: r, i, c => if j = i then (i, c) :: r else (j, x) :: setB r i c
def getB : Bg → Nat → Option Ct
  | [], _ => none
  | (j, x) :: r, i => if j = i then some x else getB r i
theorem getB_set : ∀ (bs : Bg) (i j : Nat) (c : Ct), getB (setB bs i c) j = if j = i then some c else getB bs j
  | [], i, j, c => by
    unfold setB getB getB
    by_cases h : i = j
    · rw [if_pos h, if_pos h.symm]
    · rw [if_neg h, if_neg (Ne.symm h)]
  | (k, x) :: r, i, j, c => by
    unfold setB
    by_cases hk : k = i
    · rw [if_pos hk]
      unfold getB
      by_cases h : i = j
      · rw [if_pos h, if_pos h.symm]
      · rw [if_neg h, if_neg (Ne.symm h), if_neg (fun z => h (hk.symm.trans z))]
    · rw [if_neg hk]
      unfold getB
      by_cases h : k = j
      · rw [if_pos h, if_pos h, if_neg (fun z => hk (h.trans z))]
      · rw [if_neg h, if_neg h, getB_set r i j c]
open Classical in
noncomputable def rst (H : Hp) (F : Addr → Prop) : Hp := fun a => if F a then H a else none
theorem rst_in {H : Hp} {F : Addr → Prop} {a : Addr} (h : F a) : rst H F a = H a := by unfold rst; rw [if_pos h]
theorem rst_out {H : Hp} {F : Addr → Prop} {a : Addr} (h : ¬ F a) : rst H F a = none := by unfold rst; rw [if_neg h]
theorem rst_of {H : Hp} {F : Addr → Prop} {a : Addr} {o : HO} (h : rst H F a = some o) : F a ∧ H a = some o := by
  by_cases c : F a
  · rw [rst_in c] at h; exact ⟨c, h⟩
  · rw [rst_out c] at h; cases h
theorem rst_same (H : Hp) (F : Addr → Prop) : Same (rst H F) H := fun _ _ e => (rst_of e).2
/-- what stands on a ground stands on it still -/
def OnF (F : Addr → Prop) (H H' : Hp) : Prop := ∀ a o, F a → H a = some o → H' a = some o
theorem rst_mono {F : Addr → Prop} {H H' : Hp} (h : OnF F H H') : Same (rst H F) (rst H' F) := fun a o e => by
  obtain ⟨h1, h2⟩ := rst_of e
  rw [rst_in h1]
  exact h a o h1 h2
def CtOk (K : PySem.W.Frag) (mg : Str → Option Value) (G H : Hp) (p : Addr) (F : Addr → Prop) : Ct → Prop
  | .reg d => Rep K (rst H F) (.ref p) d
  | .two n => ∃ q0 q1 xs ys, SqT K (rst H F) p [.ref q0, .ref q1] ∧ F q0 ∧ F q1 ∧ H q0 = some (.lst xs) ∧ H q1 = some (.lst ys) ∧ xs.length ≤ n ∧ ys.length ≤ n
  | .junk => True
  | .obj x fs => ∃ C dx ws, mg x = some (.ref C) ∧ F p ∧ F dx ∧ H p = some (.ins C dx ws) ∧ H dx = some (.own p) ∧ ws.map (·.1) = fs.map (·.1) ∧ RepL K G (ws.map (·.2)) (fs.map (·.2))
  | .dsk x f kvs => ∃ C dx q kv, mg x = some (.ref C) ∧ F p ∧ F dx ∧ F q ∧ H p = some (.ins C dx [(f, .ref q)]) ∧ H dx = some (.own p) ∧ H q = some (.dK kv) ∧ RepK K G kv kvs
theorem CtOk.mono {K : PySem.W.Frag} {mg : Str → Option Value} {G G' H H' : Hp} {p : Addr} {F : Addr → Prop} (s : Same G G') (h : OnF F H H') : ∀ {c : Ct}, CtOk K mg G H p F c → CtOk K mg G' H' p F c
  | .reg _, q => Rep.mono (rst_mono h) q
  | .two _, ⟨q0, q1, xs, ys, h1, h2, h3, h4, h5, h6, h7⟩ => ⟨q0, q1, xs, ys, same_seqT (rst_mono h) h1, h2, h3, h _ _ h2 h4, h _ _ h3 h5, h6, h7⟩
  | .junk, _ => True.intro
  | .obj _ _, ⟨C, dx, ws, h0, h1, h2, h3, h4, h5, h6⟩ => ⟨C, dx, ws, h0, h1, h2, h _ _ h1 h3, h _ _ h2 h4, h5, h6.mono s⟩
  | .dsk _ _ _, ⟨C, dx, q, kv, h0, h1, h2, h3, h4, h5, h6, h7⟩ => ⟨C, dx, q, kv, h0, h1, h2, h3, h _ _ h1 h4, h _ _ h2 h5, h _ _ h3 h6, h7.mono s⟩
abbrev Pi := Nat → Option (Addr × List V)
abbrev Ft := Nat → Addr → Prop
structure Bok (K : PySem.W.Frag) (mg : Str → Option Value) (H0 G H : Hp) (P : Nat → Option Addr) (pi : Pi) (F : Ft) (bs : Bg) : Prop where
  ok : ∀ i c, getB bs i = some c → ∃ p, pi i = some (p, []) ∧ CtOk K mg G H p (F i) c
  dom : ∀ i a, F i a → ∃ o, H a = some o
  off : ∀ i a, F i a → G a = none
  off0 : ∀ i a, F i a → H0 a = none
  dis : ∀ i j a, i ≠ j → F i a → ¬ F j a
  par : ∀ i p, P i = some p → pi i = some (p, []) ∧ ∃ c, getB bs i = some c ∧ c.isObj = true
/-- no slot of one's own lies at a -/
def Apart (ρ : Env) (σ : L2.St) (a : Addr) : Prop := ∀ (j : Nat) (t : Sl), ρ[j]? = some t → t.mut = true → σ[j]? ≠ some (some (.ref a))
structure RelX (K : PySem.W.Frag) (mg : Str → Option Value) (G0 H0 : Hp) (P : Nat → Option Addr) (G H : Hp) (ρ : Env) (bs : Bg) (σ : L2.St) : Prop where
  ex : ∃ pi F, Rel K ⟨G0, H0, pi⟩ G H ρ σ ∧ Bok K mg H0 G H P pi F bs ∧ ∀ i a, F i a → Apart ρ σ a
def HpX (K : PySem.W.Frag) (mg : Str → Option Value) (G0 H0 : Hp) (P : Nat → Option Addr) (G H : Hp) (bs : Bg) : Prop := ∃ pi F, Gw G0 H0 G H ∧ Bok K mg H0 G H P pi F bs
section
variable {K : PySem.W.Frag} {mg : Str → Option Value} {G0 H0 G H G' H' : Hp} {P : Nat → Option Addr} {ρ ρ' : Env} {bs : Bg} {σ σ' : L2.St} {pi : Pi} {F : Ft}
theorem Gw.on (g : Gw G H G' H') (b : Bok K mg H0 G H P pi F bs) (i : Nat) : OnF (F i) H H' := fun _ _ _ e => g.2.1 _ _ e
theorem Bok.gw (b : Bok K mg H0 G H P pi F bs) (g : Gw G H G' H') : Bok K mg H0 G' H' P pi F bs := ⟨fun i c e => by
    obtain ⟨p, h1, h2⟩ := b.ok i c e
    exact ⟨p, h1, h2.mono g.1 (g.on b i)⟩, fun i a f => by
    obtain ⟨o, h⟩ := b.dom i a f
    exact ⟨o, g.2.1 _ _ h⟩, fun i a f => by
    obtain ⟨o, h⟩ := b.dom i a f
    exact g.2.2.2 _ _ h (b.off i a f), b.off0, b.dis, b.par⟩
theorem RelX.gw (r : RelX K mg G0 H0 P G H ρ bs σ) (g : Gw G H G' H') : RelX K mg G0 H0 P G' H' ρ bs σ := by
  obtain ⟨pi, F, h1, h2, h3⟩ := r.ex
  exact ⟨pi, F, h1.gw g, h2.gw g, h3⟩
theorem RelX.same (r : RelX K mg G0 H0 P G H ρ bs σ) : Same G H := by
  obtain ⟨pi, F, h1, _⟩ := r.ex
  exact h1.ex
theorem RelX.hp (r : RelX K mg G0 H0 P G H ρ bs σ) : HpX K mg G0 H0 P G H bs := by
  obtain ⟨pi, F, h1, h2, _⟩ := r.ex
  exact ⟨pi, F, h1.gw0, h2⟩
theorem HpX.gw (r : HpX K mg G0 H0 P G H bs) (g : Gw G H G' H') : HpX K mg G0 H0 P G' H' bs := by
  obtain ⟨pi, F, h1, h2⟩ := r
  exact ⟨pi, F, h1.trans g, h2.gw g⟩
open Classical in
noncomputable def restH (H : Hp) (ρ : Env) (σ : L2.St) : Hp := fun a => if Apart ρ σ a then H a else none
theorem rest_in {a : Addr} (h : Apart ρ σ a) : restH H ρ σ a = H a := by unfold restH; rw [if_pos h]
theorem rest_out {a : Addr} (h : ¬ Apart ρ σ a) : restH H ρ σ a = none := by unfold restH; rw [if_neg h]
theorem rest_of {a : Addr} {o : HO} (h : restH H ρ σ a = some o) : Apart ρ σ a ∧ H a = some o := by
  by_cases c : Apart ρ σ a
  · rw [rest_in c] at h; exact ⟨c, h⟩
  · rw [rest_out c] at h; cases h
theorem rest_own {B : Bs} (r : Rel K B G H ρ σ) {j : Nat} {t : Sl} {p : Addr} (e : ρ[j]? = some t) (m : t.mut = true) (h : σ[j]? = some (some (.ref p))) : restH H ρ σ p = none := rest_out fun ap => ap j t e m h
theorem entry_rest (r : Rel K ⟨G0, H0, pi⟩ G H ρ σ) {a : Addr} {o : HO} (h : H0 a = some o) : restH H ρ σ a = some o := by
  have h1 : H a = some o := r.gw0.2.1 _ _ h
  rw [rest_in]
  · exact h1
  · intro j t e m hs
    obtain ⟨q, u, e1, _, _, e4⟩ := r.mutAt e m
    rw [hs] at e1
    cases e1
    have e4' : H0 a = none := e4
    rw [h] at e4'
    cases e4'
/-- a walk of its own from here on -/
theorem rel_in (r : Rel K ⟨G0, H0, pi⟩ G H ρ σ) : Rel K ⟨G, restH H ρ σ, pi⟩ G H ρ σ := by
  refine ⟨⟨Same.refl _, fun a o e => (rest_of e).2, r.ex, fun _ _ _ n => n⟩, r.len, fun i s e => ?_, r.dis⟩
  have h := r.sl i s e
  cases s with
  | emp => exact h
  | val d => exact h
  | own xs => obtain ⟨p, vs, e0, h1, h2, h3, h4⟩ := h; exact ⟨p, vs, e0, h1, h2, rest_own r e rfl e0, h4⟩
  | hold xs => obtain ⟨p, vs, ep, e0, h1, h2, h3, h4⟩ := h; exact ⟨p, vs, ep, e0, h1, h2, rest_own r e rfl e0, h4⟩
  | dct xs => obtain ⟨p, vs, e0, h1, h2, h3, h4⟩ := h; exact ⟨p, vs, e0, h1, h2, rest_own r e rfl e0, h4⟩
  | pin => exact h
  | exn a => exact h
theorem gw_back (r : Rel K ⟨G0, H0, pi⟩ G H ρ σ) (g : Gw G (restH H ρ σ) G' H') : Gw G0 H0 G' H' :=
  ⟨r.gw0.1.trans g.1, fun a o e => g.2.1 _ _ (entry_rest r e), g.2.2.1, fun a o e n => g.2.2.2 a o (entry_rest r e) (r.gw0.2.2.2 a o e n)⟩
theorem rel_back (r : Rel K ⟨G0, H0, pi⟩ G H ρ σ) (r' : Rel K ⟨G, restH H ρ σ, pi⟩ G' H' ρ' σ') : Rel K ⟨G0, H0, pi⟩ G' H' ρ' σ' := by
  have none_of : ∀ {p : Addr}, restH H ρ σ p = none → H0 p = none := fun {p} h => by
    cases h0 : H0 p with
    | none => rfl
    | some o => rw [entry_rest r h0] at h; cases h
  refine ⟨gw_back r r'.gw0, r'.len, fun i s e => ?_, r'.dis⟩
  have h := r'.sl i s e
  cases s with
  | emp => exact h
  | val d => exact h
  | own xs => obtain ⟨p, vs, e0, h1, h2, h3, h4⟩ := h; exact ⟨p, vs, e0, h1, h2, none_of h3, h4⟩
  | hold xs => obtain ⟨p, vs, ep, e0, h1, h2, h3, h4⟩ := h; exact ⟨p, vs, ep, e0, h1, h2, none_of h3, h4⟩
  | dct xs => obtain ⟨p, vs, e0, h1, h2, h3, h4⟩ := h; exact ⟨p, vs, e0, h1, h2, none_of h3, h4⟩
  | pin => exact h
  | exn a => exact h
theorem bok_back (b : Bok K mg H0 G H P pi F bs) (ap : ∀ i a, F i a → Apart ρ σ a) (g : Gw G (restH H ρ σ) G' H') : Bok K mg H0 G' H' P pi F bs := by
  have on : ∀ i, OnF (F i) H H' := fun i a o f e => g.2.1 _ _ (by rw [rest_in (ap i a f)]; exact e)
  refine ⟨fun i c e => ?_, fun i a f => ?_, fun i a f => ?_, b.off0, b.dis, b.par⟩
  · obtain ⟨p, h1, h2⟩ := b.ok i c e
    exact ⟨p, h1, h2.mono g.1 (on i)⟩
  · obtain ⟨o, h⟩ := b.dom i a f
    exact ⟨o, on i a o f h⟩
  · obtain ⟨o, h⟩ := b.dom i a f
    exact g.2.2.2 a o (by rw [rest_in (ap i a f)]; exact h) (b.off i a f)
theorem apart_back (b : Bok K mg H0 G H P pi F bs) (ap : ∀ i a, F i a → Apart ρ σ a) (r' : Rel K ⟨G, restH H ρ σ, pi⟩ G' H' ρ' σ') : ∀ i a, F i a → Apart ρ' σ' a := fun i a f j t e m hs => by
  obtain ⟨q, u, e1, _, _, e4⟩ := r'.mutAt e m
  rw [hs] at e1
  cases e1
  have e4' : restH H ρ σ a = none := e4
  obtain ⟨o, h⟩ := b.dom i a f
  rw [rest_in (ap i a f), h] at e4'
  cases e4'
end
/-! ### statements -/
inductive XR where
  | nx (ρ : Env) (bs : Bg)
  | rt (d : D) (bs : Bg)
  | bk (ρ : Env) (bs : Bg)
  | ct (ρ : Env) (bs : Bg)
  | exc (c : Str) (bs : Bg)
  | bad
abbrev XM := Env → Bg → XR
def finX (K : PySem.W.Frag) (mg : Str → Option Value) (E : EX) (G0 H0 : Hp) (P : Nat → Option Addr) (Dn : Ends) (G : Hp) : XR → Prop
  | .nx ρ' bs' => ∀ σ' G' H', RelX K mg G0 H0 P G' H' ρ' bs' σ' → Same G G' → Dn.nx σ' H'
  | .bk ρ' bs' => ∀ σ' G' H', RelX K mg G0 H0 P G' H' ρ' bs' σ' → Same G G' → Dn.bk σ' H'
  | .ct ρ' bs' => ∀ σ' G' H', RelX K mg G0 H0 P G' H' ρ' bs' σ' → Same G G' → Dn.ct σ' H'
  | .rt d bs' => ∀ v G' H', HpX K mg G0 H0 P G' H' bs' → Rep K G' v d → Dn.rt v H'
  | .exc c bs' => ∀ G' H', HpX K mg G0 H0 P G' H' bs' → E c H'
  | .bad => False
section
variable {K : PySem.W.Frag} {mg : Str → Option Value} {E : EX} {G0 H0 G H G1 G' H' : Hp} {P : Nat → Option Addr} {Dn : Ends} {ρ ρ' : Env} {bs : Bg} {σ σ' : L2.St}
theorem finX.mono (s : Same G G1) : ∀ {r : XR}, finX K mg E G0 H0 P Dn G r → finX K mg E G0 H0 P Dn G1 r
  | .nx _ _, h => fun σ' G' H' rl s' => h σ' G' H' rl (s.trans s')
  | .bk _ _, h => fun σ' G' H' rl s' => h σ' G' H' rl (s.trans s')
  | .ct _ _, h => fun σ' G' H' rl s' => h σ' G' H' rl (s.trans s')
  | .rt _ _, h => h
  | .exc _ _, h => h
  | .bad, h => h
end
def rdX (K : PySem.W.Frag) (mg : Str → Option Value) (E : EX) (f : XM) : TS := fun Dn σ H => ∃ G0 H0 P G ρ bs, RelX K mg G0 H0 P G H ρ bs σ ∧ finX K mg E G0 H0 P Dn G (f ρ bs)
abbrev XS (X : Cx) (E : EX) (st : Stmt) (f : XM) : Prop := PS X st (rdX X.K X.mg E f)
abbrev XSs (X : Cx) (E : EX) (sts : List Stmt) (f : XM) : Prop := PSs X sts (rdX X.K X.mg E f)
/-- a plain statement -/
def liftR (bs : Bg) : SR → XR
  | .nx ρ' => .nx ρ' bs
  | .rt d => .rt d bs
  | .rl xs => .rt (.list xs) bs
  | .bk ρ' => .bk ρ' bs
  | .ct ρ' => .ct ρ' bs
  | .exc c => .exc c bs
  | .bad => .bad
def xL (f : Env → SR) : XM := fun ρ bs => liftR bs (f ρ)
theorem lift_in {K : PySem.W.Frag} {mg : Str → Option Value} {E : EX} {f : Env → SR} : ∀ Dn σ H, rdX K mg E (xL f) Dn σ H → rdS K E f Dn σ H := by
  rintro Dn σ H ⟨G0, H0, P, G, ρ, bs, ⟨pi, F, r, b, ap⟩, o⟩
  refine ⟨⟨G, restH H ρ σ, pi⟩, G, ρ, rel_in r, ?_⟩
  unfold xL at o
  cases hf : f ρ with
  | nx ρ' =>
    rw [hf] at o
    exact fun σ' G' H' r' s => o σ' G' H' ⟨pi, F, rel_back r r', bok_back b ap r'.gw0, apart_back b ap r'⟩ s
  | bk ρ' =>
    rw [hf] at o
    exact fun σ' G' H' r' s => o σ' G' H' ⟨pi, F, rel_back r r', bok_back b ap r'.gw0, apart_back b ap r'⟩ s
  | ct ρ' =>
    rw [hf] at o
    exact fun σ' G' H' r' s => o σ' G' H' ⟨pi, F, rel_back r r', bok_back b ap r'.gw0, apart_back b ap r'⟩ s
  | rt d =>
    rw [hf] at o
    exact fun v G' H' g rv => o v G' H' ⟨pi, F, gw_back r g, bok_back b ap g⟩ rv
  | rl xs =>
    rw [hf] at o
    intro p vs G' H' g hp hn hl hr
    have hp' : restH H ρ σ p = none := hp
    have hb := bok_back b ap g
    have h0 : H0 p = none := by
      cases h0 : H0 p with
      | none => rfl
      | some o => rw [entry_rest r h0] at hp'; cases hp'
    have g2 := gw_back r g
    refine o (.ref p) (upd G' p (.lst vs)) H' ⟨pi, F, g2.share h0 hn hl, ⟨fun i c e => ?_, hb.dom, fun i a f => ?_, hb.off0, hb.dis, hb.par⟩⟩ (.lst upd_same (hr.mono (same_new hn)))
    · obtain ⟨q, h1, h2⟩ := hb.ok i c e
      exact ⟨q, h1, h2.mono (same_new hn) fun _ _ _ e => e⟩
    · have hne : a ≠ p := by
        rintro rfl
        obtain ⟨u, hu⟩ := b.dom i a f
        rw [rest_in (ap i a f), hu] at hp'
        cases hp'
      rw [upd_ne hne]
      exact hb.off i a f
  | exc c =>
    rw [hf] at o
    exact fun G' H' g => o G' H' ⟨pi, F, gw_back r g, bok_back b ap g⟩
  | bad => rw [hf] at o; exact o.elim
section
variable {X : Cx} {E : EX} {st : Stmt} {sts rest : List Stmt} {k : Nat} {e : Expr} {pos : Pos} {f g : XM}
theorem xs_lift {f : Env → SR} (h : JS X E st f) : XS X E st (xL f) := ps_imp h lift_in
theorem xss_lift {f : Env → SR} (h : JSs X E sts f) : XSs X E sts (xL f) := pss_imp h lift_in
def xNx : XM := fun ρ bs => .nx ρ bs
def xSeq (f g : XM) : XM := fun ρ bs => match f ρ bs with
  | .nx ρ' bs' => g ρ' bs'
  | r => r
theorem xss_nil : XSs X E [] xNx := pss_imp pss_nil fun D σ H ⟨G0, H0, P, G, ρ, bs, rl, o⟩ => o σ G H rl (Same.refl _)
theorem xss_one (h : XS X E st f) : XSs X E [st] f := pss_one h
theorem xss_cons (h1 : XS X E st f) (h2 : XSs X E rest g) : XSs X E (st :: rest) (xSeq f g) := pss_imp (pss_cons h1 h2) fun D σ H ⟨G0, H0, P, G, ρ, bs, rl, o⟩ => ⟨G0, H0, P, G, ρ, bs, rl, by
  unfold xSeq at o
  cases hf : f ρ bs with
  | nx ρ' bs' =>
    rw [hf] at o
    exact fun σ' G' H' rl' s => ⟨G0, H0, P, G', ρ', bs', rl', finX.mono s o⟩
  | rt d bs' => rw [hf] at o; exact o
  | bk ρ' bs' => rw [hf] at o; exact o
  | ct ρ' bs' => rw [hf] at o; exact o
  | exc c bs' => rw [hf] at o; exact o
  | bad => rw [hf] at o; exact o⟩
end
/-! ### what is one's own, read for a while -/
def rdSl (bs : Bg) (i : Nat) : Sl → Sl
  | .pin => match getB bs i with
    | some (.reg d) => .val d
    | _ => .pin
  | s => s
def borF (bs : Bg) : Nat → Env → Env
  | _, [] => []
  | i, s :: r => rdSl bs i s :: borF bs (i + 1) r
/-- the slots, data of one's own read as data -/
def bor (bs : Bg) (ρ : Env) : Env := borF bs 0 ρ
theorem borF_get (bs : Bg) : ∀ (ρ : Env) (k i : Nat), (borF bs k ρ)[i]? = (ρ[i]?).map (rdSl bs (k + i))
  | [], _, _ => rfl
  | s :: r, k, 0 => rfl
  | s :: r, k, i + 1 => by
    show (borF bs (k + 1) r)[i]? = _
    rw [borF_get bs r (k + 1) i, List.getElem?_cons_succ]
    congr 2
    omega
theorem borF_len (bs : Bg) : ∀ (ρ : Env) (k : Nat), (borF bs k ρ).length = ρ.length
  | [], _ => rfl
  | s :: r, k => congrArg (· + 1) (borF_len bs r (k + 1))
theorem rd_cases (bs : Bg) (i : Nat) (s : Sl) : rdSl bs i s = s ∨ ∃ d, s = .pin ∧ getB bs i = some (.reg d) ∧ rdSl bs i s = .val d := by
  cases s with
  | pin =>
    cases h : getB bs i with
    | none => left; unfold rdSl; rw [h]
    | some c =>
      cases c with
      | reg d => right; exact ⟨d, rfl, rfl, by unfold rdSl; rw [h]⟩
      | _ => left; unfold rdSl; rw [h]
  | _ => left; rfl
theorem bor_mut {bs : Bg} {ρ : Env} {i : Nat} {t : Sl} (e : (bor bs ρ)[i]? = some t) (m : t.mut = true) : ρ[i]? = some t := by
  unfold bor at e
  rw [borF_get] at e
  cases h : ρ[i]? with
  | none => rw [h] at e; cases e
  | some s =>
    rw [h] at e
    injection e with e
    rcases rd_cases bs (0 + i) s with q | ⟨d, q1, q2, q3⟩
    · rw [q] at e; rw [e]
    · rw [q3] at e; rw [← e] at m; cases m
section
variable {K : PySem.W.Frag} {mg : Str → Option Value} {G0 H0 G H G' H' : Hp} {P : Nat → Option Addr} {ρ ρ' : Env} {bs : Bg} {σ σ' : L2.St} {pi : Pi} {F : Ft}
def IsReg (bs : Bg) (F : Ft) (a : Addr) : Prop := ∃ i d, getB bs i = some (.reg d) ∧ F i a
open Classical in
noncomputable def withR (G H : Hp) (bs : Bg) (F : Ft) : Hp := fun a => if IsReg bs F a then H a else G a
theorem withR_in {a : Addr} (h : IsReg bs F a) : withR G H bs F a = H a := by unfold withR; rw [if_pos h]
theorem withR_out {a : Addr} (h : ¬ IsReg bs F a) : withR G H bs F a = G a := by unfold withR; rw [if_neg h]
theorem withR_G (b : Bok K mg H0 G H P pi F bs) : Same G (withR G H bs F) := fun a o e => by
  rw [withR_out]
  · exact e
  · rintro ⟨i, d, _, f⟩
    rw [b.off i a f] at e
    cases e
theorem withR_H (s : Same G H) : Same (withR G H bs F) H := fun a o e => by
  by_cases c : IsReg bs F a
  · rw [withR_in c] at e; exact e
  · rw [withR_out c] at e; exact s _ _ e
theorem rel_bor (r : Rel K ⟨G0, H0, pi⟩ G H ρ σ) (b : Bok K mg H0 G H P pi F bs) (ap : ∀ i a, F i a → Apart ρ σ a) : Rel K ⟨withR G H bs F, restH H ρ σ, pi⟩ (withR G H bs F) H (bor bs ρ) σ := by
  have ri := rel_in r
  have off : ∀ {j : Nat} {t : Sl} {p : Addr}, ρ[j]? = some t → t.mut = true → σ[j]? = some (some (.ref p)) → withR G H bs F p = G p := fun {j t p} e m hs => withR_out (by
    rintro ⟨i, d, _, f⟩
    exact ap i p f j t e m hs)
  refine ⟨⟨Same.refl _, fun a o e => (rest_of e).2, withR_H r.ex, fun _ _ _ n => n⟩, ?_, fun i s e => ?_, fun i j s t p hij ea eb ms mt => r.dis i j s t p hij (bor_mut ea ms) (bor_mut eb mt) ms mt⟩
  · show (borF bs 0 ρ).length = _
    rw [borF_len, r.len]
  · have e' := e
    unfold bor at e'
    rw [borF_get, Nat.zero_add] at e'
    cases h : ρ[i]? with
    | none => rw [h] at e'; cases e'
    | some s0 =>
      rw [h] at e'
      injection e' with e'
      rcases rd_cases bs i s0 with q | ⟨d, q1, q2, q3⟩
      · rw [q] at e'
        subst e'
        have hs := ri.sl i _ h
        cases s0 with
        | emp => exact hs
        | val d => obtain ⟨v, h1, h2⟩ := hs; exact ⟨v, h1, h2.mono (withR_G b)⟩
        | own xs => obtain ⟨p, vs, e0, h1, h2, h3, h4⟩ := hs; exact ⟨p, vs, e0, h1, (off h rfl e0).trans h2, h3, h4.mono (withR_G b)⟩
        | hold xs => obtain ⟨p, vs, ep, e0, h1, h2, h3, h4⟩ := hs; exact ⟨p, vs, ep, e0, h1, (off h rfl e0).trans h2, h3, h4.mono (withR_G b)⟩
        | dct xs => obtain ⟨p, vs, e0, h1, h2, h3, h4⟩ := hs; exact ⟨p, vs, e0, h1, (off h rfl e0).trans h2, h3, h4.mono (withR_G b)⟩
        | pin => exact hs
        | exn a => exact hs
      · rw [q3] at e'
        subst e' q1
        obtain ⟨p, hp1, hp2⟩ := ri.sl i _ h
        obtain ⟨p', hp3, hp4⟩ := b.ok i _ q2
        have hpe : pi i = some (p, []) := hp1
        rw [hpe] at hp3
        cases hp3
        refine ⟨.ref p, hp2, Rep.mono (fun a o ea => ?_) hp4⟩
        obtain ⟨f1, f2⟩ := rst_of ea
        rw [withR_in ⟨i, d, q2, f1⟩]
        exact f2
theorem gw_out (b : Bok K mg H0 G H P pi F bs) (g : Gw (withR G H bs F) H G' H') (s : Same G H) : Gw G H G H' := ⟨Same.refl _, g.2.1, fun _ _ e => g.2.1 _ _ (s _ _ e), fun _ _ _ n => n⟩
end
section
variable {X : Cx} {E : EX} {st : Stmt} {sts rest : List Stmt} {k : Nat} {e : Expr} {pos : Pos} {f g : XM}
/-- what is told by a test may be read of data of one's own -/
def xIf (t : Env → R Bool) (f g : XM) : XM := fun ρ bs => match t (bor bs ρ) with
  | .ok true => f ρ bs
  | .ok false => g ρ bs
  | .exc c => .exc c bs
  | .bad => .bad
theorem xs_if {c : Expr} {a b : List Stmt} {t : Env → R Bool} (hc : JT X E c t) (ha : XSs X E a f) (hb : XSs X E b g) : XS X E (.If c a b pos) (xIf t f g) := ps_imp (ps_if hc ha hb) fun D σ H ⟨G0, H0, P, G, ρ, bs, ⟨pi, F, r, b, ap⟩, o⟩ => by
  refine ⟨_, withR G H bs F, bor bs ρ, rel_bor r b ap, ?_⟩
  have rx : ∀ G' H', Gw (withR G H bs F) H G' H' → RelX X.K X.mg G0 H0 P G H' ρ bs σ := fun G' H' g => RelX.gw ⟨pi, F, r, b, ap⟩ (gw_out b g r.ex)
  unfold xIf at o
  cases ht : t (bor bs ρ) with
  | ok k =>
    rw [ht] at o
    cases k with
    | true => exact fun G' H' g => ⟨G0, H0, P, G, ρ, bs, rx G' H' g, o⟩
    | false => exact fun G' H' g => ⟨G0, H0, P, G, ρ, bs, rx G' H' g, o⟩
  | exc c => rw [ht] at o; exact fun G' H' g => o G H' (rx G' H' g).hp
  | bad => rw [ht] at o; exact o.elim
/-! ### loops -/
def loopX (h : D → XM) : List D → XM
  | [], ρ, bs => .nx ρ bs
  | d :: ds, ρ, bs => match h d ρ bs with
    | .nx ρ' bs' => loopX h ds ρ' bs'
    | .ct ρ' bs' => loopX h ds ρ' bs'
    | .bk ρ' bs' => .nx ρ' bs'
    | r => r
def bodyX (t : D → Env → R Env) (fb : XM) : D → XM := fun d ρ bs => match t d ρ with
  | .ok ρ' => fb ρ' bs
  | _ => .bad
def xFor (fi : Env → R (List D)) (t : D → Env → R Env) (fb : XM) : XM := fun ρ bs => match fi ρ with
  | .ok ds => loopX (bodyX t fb) ds ρ bs
  | .exc c => .exc c bs
  | .bad => .bad
theorem xs_for {tg it : Expr} {body : List Stmt} {fi : Env → R (List D)} {t : D → Env → R Env} {ws : List Nat} {fb : XM} (C : Cxt X E k) (S : Cxs X E) (hi : JI0 X E tg it fi) (hg : JG X tg t ws) (hb : XSs X E body fb)
    (hs : ∀ x, foldedSetIterable it X.env x = pure x := by intro _; rfl) : XS X E (.For tg it body [] pos) (xFor fi t fb) := ps_imp (ps_for S.own C.calm hi hg hb hs) fun Dn σ H ⟨G0, H0, P, G, ρ, bs, rx, o⟩ => by
  obtain ⟨pi, F, r, b, ap⟩ := rx.ex
  refine ⟨⟨G0, H0, pi⟩, G, ρ, r, ?_⟩
  unfold xFor at o
  cases hf : fi ρ with
  | bad => rw [hf] at o; exact o.elim
  | exc c => rw [hf] at o; exact fun G' H' g => o G' H' (rx.gw g).hp
  | ok ds =>
  rw [hf] at o
  intro G1 H1 g1 J hJ
  have o1 := finX.mono g1.1 o
  refine ⟨fun i m σ H2 => m = ds.length - i ∧ i ≤ ds.length ∧ ∃ G2 ρ2 bs2, RelX X.K X.mg G0 H0 P G2 H2 ρ2 bs2 σ ∧ Same G1 G2 ∧ finX X.K X.mg E G0 H0 P Dn G2 (loopX (bodyX t fb) (ds.drop i) ρ2 bs2), ⟨_, rfl, Nat.zero_le _, G1, ρ, bs, rx.gw g1, Same.refl _, o1⟩, ?_⟩
  rintro i m σ2 H2 ⟨rfl, hi, G2, ρ2, bs2, rl2, s2, o2⟩
  obtain ⟨q1, q2⟩ := hJ i G2 H2 s2 rl2.same True.intro
  by_cases hlt : i < ds.length
  · have hd : ds[i]? = some ds[i] := List.getElem?_eq_getElem hlt
    obtain ⟨hgo, hy⟩ := q1 _ hd
    rw [List.drop_eq_getElem_cons hlt] at o2
    refine .inr ⟨hgo, fun σ' H' => i + 1 ≤ ds.length ∧ ∃ G2 ρ2 bs2, RelX X.K X.mg G0 H0 P G2 H' ρ2 bs2 σ' ∧ Same G1 G2 ∧ finX X.K X.mg E G0 H0 P Dn G2 (loopX (bodyX t fb) (ds.drop (i + 1)) ρ2 bs2), fun σ' H' n => ⟨ds.length - (i + 1), by omega, rfl, n.1, n.2⟩, fun x H3 hyl => ?_⟩
    obtain ⟨G3, g3, rx3⟩ := hy x H3 hyl
    have rl3 := rl2.gw g3
    have o3 := finX.mono g3.1 o2
    obtain ⟨pi3, F3, r3, b3, ap3⟩ := rl3.ex
    unfold loopX bodyX at o3
    cases ht : t ds[i] ρ2 with
    | exc c => rw [ht] at o3; exact o3.elim
    | bad => rw [ht] at o3; exact o3.elim
    | ok ρ' =>
      rw [ht] at o3
      refine ⟨⟨G3, restH H3 ρ2 σ2, pi3⟩, G3, ρ2, ds[i], ρ', rel_in r3, rx3, ht, fun σ' rl' _ => ⟨G0, H0, P, G3, ρ', bs2, ⟨pi3, F3, rel_back r3 rl', bok_back b3 ap3 rl'.gw0, apart_back b3 ap3 rl'⟩, ?_⟩⟩
      cases hf : fb ρ' bs2 with
      | nx ρ4 bs4 =>
        simp only [hf] at o3
        exact fun σ4 G4 H4 rl4 s4 => ⟨hlt, G4, ρ4, bs4, rl4, (s2.trans g3.1).trans s4, finX.mono s4 o3⟩
      | ct ρ4 bs4 =>
        simp only [hf] at o3
        exact fun σ4 G4 H4 rl4 s4 => ⟨hlt, G4, ρ4, bs4, rl4, (s2.trans g3.1).trans s4, finX.mono s4 o3⟩
      | bk ρ4 bs4 => simp only [hf] at o3; exact o3
      | rt d bs4 => simp only [hf] at o3; exact o3
      | exc c bs4 => simp only [hf] at o3; exact o3
      | bad => simp only [hf] at o3; exact o3
  · have e : i = ds.length := by omega
    subst e
    rw [List.drop_length] at o2
    exact .inl ⟨q2 (Nat.le_refl _), o2 σ2 G2 H2 rl2 (Same.refl _)⟩
end
end Mp

set_option Elab.async false
set_option linter.all false
set_option maxRecDepth 100000
/-! Xa2: data of one's own made by a call, changed. -/
namespace Mp
open PySem L2
def isAtom : D → Bool
  | .none => true
  | .bool _ => true
  | .int _ => true
  | .str _ => true
  | _ => false
def isBox : D → Bool
  | .list _ => true
  | .tuple _ => true
  | _ => false
theorem rep_atom {K : PySem.W.Frag} {G G' : Hp} {v : V} {d : D} (h : Rep K G v d) (a : isAtom d = true) : Rep K G' v d := by
  cases d with
  | none => cases h; exact .non
  | bool b => cases h; exact .bl b
  | int i => cases h; exact .int i
  | str x => cases h; exact .str x
  | _ => cases a
theorem rep_atoms {K : PySem.W.Frag} {G G' : Hp} : ∀ {vs : List V} {ds : List D}, RepL K G vs ds → ds.all isAtom = true → RepL K G' vs ds
  | _, _, .nil, _ => .nil
  | _, _, .cons h t, a => by
    rw [List.all_cons, Bool.and_eq_true] at a
    exact .cons (rep_atom h a.1) (rep_atoms t a.2)
theorem rep_box {K : PySem.W.Frag} {G : Hp} {v : V} {d : D} (h : Rep K G v d) (b : isBox d = true) : ∃ p, v = .ref p := by
  cases d with
  | list ds => cases h; exact ⟨_, rfl⟩
  | tuple ds => cases h; exact ⟨_, rfl⟩
  | _ => cases b
def mayPin (bs : Bg) (ρ : Env) (i : Nat) : Bool := (match ρ[i]? with
  | some (.hold _) => false
  | none => false
  | _ => true) && match getB bs i with
  | some c => !c.isObj
  | none => true
section
variable {K : PySem.W.Frag} {mg : Str → Option Value} {G0 H0 G H G' H' : Hp} {P : Nat → Option Addr} {ρ ρ' : Env} {bs : Bg} {σ σ' : L2.St} {pi : Pi} {F : Ft}
def setPi (pi : Pi) (i : Nat) (p : Addr) : Pi := fun j => if j = i then some (p, []) else pi j
def setF (F : Ft) (i : Nat) (f : Addr → Prop) : Ft := fun j => if j = i then f else F j
theorem setPi_in {pi : Pi} {i : Nat} {p : Addr} : setPi pi i p i = some (p, []) := if_pos rfl
theorem setPi_out {pi : Pi} {i j : Nat} {p : Addr} (h : j ≠ i) : setPi pi i p j = pi j := if_neg h
theorem setF_in {F : Ft} {i : Nat} {f : Addr → Prop} : setF F i f i = f := if_pos rfl
theorem setF_out {F : Ft} {i j : Nat} {f : Addr → Prop} (h : j ≠ i) : setF F i f j = F j := if_neg h
theorem rel_pin (r : Rel K ⟨G0, H0, pi⟩ G H ρ σ) (i : Nat) (p : Addr) : Rel K ⟨G0, H0, setPi pi i p⟩ G H (ρ.set i .pin) (σ.set i (some (.ref p))) := by
  refine ⟨r.gw0, by simpa using r.len, fun j s e => ?_, fun a b s t q hab ea eb ms mt pa pb => ?_⟩
  · by_cases hj : i = j
    · subst hj
      have hi : i < ρ.length := by
        have := (List.getElem?_eq_some_iff.mp e).1
        simpa using this
      rw [List.getElem?_set_self hi] at e
      cases e
      exact ⟨p, setPi_in, by rw [List.getElem?_set_self (by rw [← r.len]; exact hi)]⟩
    · rw [List.getElem?_set_ne hj] at e ⊢
      have hs := r.sl j s e
      have hp : setPi pi i p j = pi j := setPi_out (Ne.symm hj)
      cases s with
      | hold xs => obtain ⟨q, vs, e0, h⟩ := hs; exact ⟨q, vs, hp.trans e0, h⟩
      | pin => obtain ⟨q, e0, h⟩ := hs; exact ⟨q, hp.trans e0, h⟩
      | emp => exact hs
      | val d => exact hs
      | own xs => exact hs
      | dct xs => exact hs
      | exn a => exact hs
  · have h1 : i ≠ a := by
      rintro rfl
      have hi : i < ρ.length := by
        have := (List.getElem?_eq_some_iff.mp ea).1
        simpa using this
      rw [List.getElem?_set_self hi] at ea
      cases ea
      cases ms
    have h2 : i ≠ b := by
      rintro rfl
      have hi : i < ρ.length := by
        have := (List.getElem?_eq_some_iff.mp eb).1
        simpa using this
      rw [List.getElem?_set_self hi] at eb
      cases eb
      cases mt
    rw [List.getElem?_set_ne h1] at ea pa
    rw [List.getElem?_set_ne h2] at eb pb
    exact r.dis a b s t q hab ea eb ms mt pa pb
theorem apart_pin {i : Nat} {p a : Addr} (h : Apart ρ σ a) : Apart (ρ.set i .pin) (σ.set i (some (.ref p))) a := fun j t e m hs => by
  by_cases hj : i = j
  · subst hj
    have hi : i < ρ.length := by
      have := (List.getElem?_eq_some_iff.mp e).1
      simpa using this
    rw [List.getElem?_set_self hi] at e
    cases e
    cases m
  · rw [List.getElem?_set_ne hj] at e hs
    exact h j t e m hs
/-- a new object of one's own comes to a slot -/
theorem relX_new (r : Rel K ⟨G0, H0, pi⟩ G H ρ σ) (b : Bok K mg H0 G H P pi F bs) (ap : ∀ i a, F i a → Apart ρ σ a) {H' : Hp} (s : Same H H') {i : Nat} {p : Addr} {f : Addr → Prop} {c : Ct} (hm : mayPin bs ρ i = true) (hf : ∀ a, f a → H a = none ∧ ∃ o, H' a = some o) (hc : CtOk K mg G H' p f c) : RelX K mg G0 H0 P G H' (ρ.set i .pin) (setB bs i c) (σ.set i (some (.ref p))) := by
  have g : Gw G H G H' := ⟨Same.refl _, s, fun _ _ e => s _ _ (r.ex _ _ e), fun _ _ _ n => n⟩
  have r2 := r.gw g
  have b2 := b.gw g
  refine ⟨setPi pi i p, setF F i f, rel_pin r2 i p, ⟨fun j c' e => ?_, fun j a h => ?_, fun j a h => ?_, fun j a h => ?_, fun j k a hjk h1 h2 => ?_, fun j q e => ?_⟩, fun j a h => ?_⟩
  · rw [getB_set] at e
    by_cases hj : j = i
    · rw [if_pos hj] at e
      cases e
      subst hj
      rw [setF_in]
      exact ⟨p, setPi_in, hc⟩
    · rw [if_neg hj] at e
      rw [setF_out hj, setPi_out hj]
      exact b2.ok j c' e
  · by_cases hj : j = i
    · subst hj; rw [setF_in] at h; exact (hf a h).2
    · rw [setF_out hj] at h; exact b2.dom j a h
  · by_cases hj : j = i
    · subst hj; rw [setF_in] at h; exact r.ex.free (hf a h).1
    · rw [setF_out hj] at h; exact b2.off j a h
  · by_cases hj : j = i
    · subst hj; rw [setF_in] at h; exact r.gw0.2.1.free (hf a h).1
    · rw [setF_out hj] at h; exact b2.off0 j a h
  · by_cases hj : j = i
    · subst hj
      rw [setF_in] at h1
      rw [setF_out (Ne.symm hjk)] at h2
      obtain ⟨o, ho⟩ := b.dom k a h2
      rw [(hf a h1).1] at ho
      cases ho
    · rw [setF_out hj] at h1
      by_cases hk : k = i
      · subst hk
        rw [setF_in] at h2
        obtain ⟨o, ho⟩ := b.dom j a h1
        rw [(hf a h2).1] at ho
        cases ho
      · rw [setF_out hk] at h2
        exact b.dis j k a hjk h1 h2
  · obtain ⟨h1, c', h2, h3⟩ := b.par j q e
    have hj : j ≠ i := by
      rintro rfl
      unfold mayPin at hm
      rw [h2] at hm
      simp [h3] at hm
    rw [setPi_out hj, getB_set, if_neg hj]
    exact ⟨h1, c', h2, h3⟩
  · by_cases hj : j = i
    · subst hj
      rw [setF_in] at h
      refine apart_pin fun j' t e m hs => ?_
      obtain ⟨q, u, e1, e2, _, _⟩ := r.mutAt e m
      rw [hs] at e1
      cases e1
      rw [(hf a h).1] at e2
      cases e2
    · rw [setF_out hj] at h
      exact apart_pin (ap j a h)
/-- .. changes in place -/
theorem relX_mut (r : Rel K ⟨G0, H0, pi⟩ G H ρ σ) (b : Bok K mg H0 G H P pi F bs) (ap : ∀ i a, F i a → Apart ρ σ a) {i : Nat} {p q : Addr} {o : HO} {c0 c1 : Ct} (h0 : getB bs i = some c0) (hp : pi i = some (p, [])) (hq : F i q) (hi : c1.isObj = c0.isObj) (hc : CtOk K mg G (upd H q o) p (F i) c1) : RelX K mg G0 H0 P G (upd H q o) ρ (setB bs i c1) σ := by
  have on : ∀ j, j ≠ i → OnF (F j) H (upd H q o) := fun j hj a u f e => by
    have : a ≠ q := by rintro rfl; exact b.dis j i a hj f hq
    rw [upd_ne this]
    exact e
  refine ⟨pi, F, r.other (b.off i q hq) (b.off0 i q hq) (ap i q hq), ⟨fun j c' e => ?_, fun j a h => ?_, b.off, b.off0, b.dis, fun j q' e => ?_⟩, ap⟩
  · rw [getB_set] at e
    by_cases hj : j = i
    · rw [if_pos hj] at e
      cases e
      subst hj
      exact ⟨p, hp, hc⟩
    · rw [if_neg hj] at e
      obtain ⟨p', h1, h2⟩ := b.ok j c' e
      exact ⟨p', h1, h2.mono (Same.refl _) (on j hj)⟩
  · by_cases ha : a = q
    · subst ha; exact ⟨o, upd_same⟩
    · rw [upd_ne ha]; exact b.dom j a h
  · obtain ⟨h1, c', h2, h3⟩ := b.par j q' e
    refine ⟨h1, ?_⟩
    rw [getB_set]
    by_cases hj : j = i
    · subst hj
      rw [h0] at h2
      cases h2
      exact ⟨c1, if_pos rfl, hi.trans h3⟩
    · exact ⟨c', by rw [if_neg hj]; exact h2, h3⟩
theorem pin_at (r : Rel K ⟨G0, H0, pi⟩ G H ρ σ) (b : Bok K mg H0 G H P pi F bs) {i : Nat} {c : Ct} (e : ρ[i]? = some .pin) (h : getB bs i = some c) : ∃ p, pi i = some (p, []) ∧ σ[i]? = some (some (.ref p)) ∧ CtOk K mg G H p (F i) c := by
  obtain ⟨p, h1, h2⟩ := r.sl i _ e
  obtain ⟨p', h3, h4⟩ := b.ok i c h
  have h1' : pi i = some (p, []) := h1
  rw [h1'] at h3
  cases h3
  exact ⟨p, h1', h2, h4⟩
theorem sqT_upd {F : Addr → Prop} {p q : Addr} {xs ys : List V} {o : HO} (h : SqT K (rst H F) p xs) (hq : H q = some (.lst ys)) : SqT K (rst (upd H q o) F) p xs := by
  rcases h with h | h
  · left
    rcases h with h | ⟨u, h⟩
    · obtain ⟨h1, h2⟩ := rst_of h
      have hne : p ≠ q := L2.ne_of h2 hq (by intro z; cases z)
      left
      rw [rst_in h1, upd_ne hne]
      exact h2
    · obtain ⟨h1, h2⟩ := rst_of h
      have hne : p ≠ q := L2.ne_of h2 hq (by intro z; cases z)
      right
      refine ⟨u, ?_⟩
      rw [rst_in h1, upd_ne hne]
      exact h2
  · exact .inr h
end
/-- x = f(..): f is told texts, numbers, truths alone: what it tells is one's own -/
def xReg (i n : Nat) (g : List D → R D) (fa : Env → R (List D)) : XM := fun ρ bs => match fa ρ with
  | .ok ds => if ds.length = n ∧ ds.all isAtom = true then (match g ds with
    | .ok d => if isBox d = true ∧ mayPin bs ρ i = true then .nx (ρ.set i .pin) (setB bs i (.reg d)) else .bad
    | .exc c => .exc c bs
    | .bad => .bad) else .bad
  | .exc c => .exc c bs
  | .bad => .bad
section
variable {X : Cx} {E : EX} {st : Stmt} {k n : Nat} {e : Expr} {es : List Expr} {pos cpos p : Pos} {f g : XM}
theorem xs_reg {i : Nat} {x y : Str} {pos' : Pos} {g : List D → R D} {fa : Env → R (List D)} (C : Cxt X E k) (F : Has X.prog X.w X.K X.mg X.base k x n g) (hg : Gl X x) (ha : JAE X E (e :: es) fa) (hi : X.N[i]? = some y) (hx : Loc X.env.scope y)
    (hdb : (x == ("__debug__" : Str)) = false := by decide) (he : starEach (e :: es) X.env = (false, eval e X.env) :: starEach es X.env := by rfl) (hpl : (backTo cpos (starEach es X.env)).any (·.1) = false := by rfl) (hs : swapsWith (.Call (.Name x p) (e :: es) [] cpos) (some (.Name y pos')) pos.line X.env = pure false := by rfl) (hf : X.fn y = true ∨ X.env.scope.names.lookup y = some .local := by first | exact .inl rfl | exact .inr rfl | assumption) :
    XS X E (.Assign [.Name y pos'] (.Call (.Name x p) (e :: es) [] cpos) pos) (xReg i n g fa) := by
  obtain ⟨fd, fdd, ps, h1, h2, h3, h4⟩ := F.ex
  obtain ⟨EE, hp, hE⟩ := C.pass
  refine ps_imp (ps_set C.nd hi hx (pe_call h2 C.room hg h1 h3 h4 .nil hp ha hdb he hpl) hs hf) fun D σ H ⟨G0, H0, P, G, ρ, bs, rx, o⟩ => ?_
  obtain ⟨pi, F, r, b, ap⟩ := rx.ex
  refine ⟨⟨G0, H0, pi⟩, G, ρ, r, ?_⟩
  unfold xReg at o
  cases hfa : fa ρ with
  | bad => rw [hfa] at o; exact o.elim
  | exc c => rw [hfa] at o; exact fun G' H' g => o G' H' (rx.gw g).hp
  | ok ds =>
  rw [hfa] at o
  intro G1 H1 g1 vs rvs
  rw [List.append_nil]
  dsimp only at o
  split at o
  · rename_i hc
    refine ⟨by rw [rvs.length]; exact hc.1, (fun _ => none), ds, (fun a u q => by cases q), rep_atoms rvs hc.2, ?_⟩
    cases hgd : g ds with
    | bad => rw [hgd] at o; exact o.elim
    | exc c =>
      rw [hgd] at o
      intro G' H' g'
      refine hE c H' (o G1 H' (rx.gw ?_).hp)
      exact g1.trans ⟨Same.refl _, g'.2.1, fun _ _ q => g'.2.1 _ _ (g1.2.2.1 _ _ q), fun _ _ _ n => n⟩
    | ok d =>
      rw [hgd] at o
      intro G' H' g' v rv
      dsimp only at o
      split at o
      · rename_i hd
        obtain ⟨q, rfl⟩ := rep_box rv hd.1
        have new : ∀ a, (∃ u, G' a = some u) → H1 a = none ∧ ∃ u, H' a = some u := fun a ⟨u, hu⟩ => by
          refine ⟨?_, u, g'.2.2.1 _ _ hu⟩
          cases h : H1 a with
          | none => rfl
          | some w => rw [g'.2.2.2 a w h rfl] at hu; cases hu
        refine o _ G1 H' (relX_new (r.gw g1) (b.gw g1) ap g'.2.1 hd.2 (f := fun a => ∃ u, G' a = some u) new (Rep.mono (fun a u hu => ?_) rv)) g1.1
        rw [rst_in ⟨u, hu⟩]
        exact g'.2.2.1 _ _ hu
      · exact o.elim
  · exact o.elim
/-- x[0].append(c) -/
def xApp0 (i : Nat) : XM := fun ρ bs => match ρ[i]? with
  | some .pin => (match getB bs i with
    | some (.reg (.tuple [.list xs, .list ys])) => if xs.length < LIM then .nx ρ (setB bs i (.two (xs.length + ys.length + 1))) else .bad
    | _ => .bad)
  | _ => .bad
theorem xs_app0 {i : Nat} {x : Str} {v : V} {px ps apos p0 : Pos} {j : Nat} (hx : PE X (.Name x px) (tVar i)) (he : PE X e (tC v))
    (hbase : attributeBase (.Subscript (.Name x px) (.Constant (.int 0) j p0) ps) "append" X.env (eval (.Subscript (.Name x px) (.Constant (.int 0) j p0) ps) X.env) = eval (.Subscript (.Name x px) (.Constant (.int 0) j p0) ps) X.env := by rfl)
    (hfew : ((backTo cpos (starEach [e] X.env)).all (fun x => !x.1) && (backToKw cpos (keywordEach [] X.env)).all (fun x => x.1.isSome)
      && decide ([e].length + ([] : List Keyword).length + (if ([] : List Keyword).isEmpty then 0 else 1) < 30)) = true := by rfl)
    (hline : (apos.endLine == cpos.line) = true := by rfl) (hs : starEach [e] X.env = (false, eval e X.env) :: starEach [] X.env := by rfl) (hplain : (backTo cpos (starEach [] X.env)).any (·.1) = false := by rfl)
    (hsw : swapsWith (.Call (.Attribute (.Subscript (.Name x px) (.Constant (.int 0) j p0) ps) "append" apos) [e] [] cpos) none pos.line X.env = pure false := by rfl) :
    XS X E (.Expr (.Call (.Attribute (.Subscript (.Name x px) (.Constant (.int 0) j p0) ps) "append" apos) [e] [] cpos) pos) (xApp0 i) :=
  ps_imp (ps_expr (pe_bm PySem.F.plainAttrs_list PySem.F.slot_list_append PySem.F.type_list_append mt_append (pe_ix ix_tup hx pe_int (fun _ _ => rfl)) (pa_cons he pa_nil hs) hbase hfew hline hs hplain) hsw) fun D σ H ⟨G0, H0, P, G, ρ, bs, rx, o⟩ => by
  obtain ⟨pi, F, r, b, ap⟩ := rx.ex
  unfold xApp0 at o
  split at o
  · rename_i e0
    split at o
    · rename_i xs ys hb
      split at o
      · rename_i hl
        obtain ⟨p, hp, hσ, hc⟩ := pin_at r b e0 hb
        cases hc with
        | tup h1 h2 =>
          cases h2 with
          | @cons v0 vs0 _ _ r0 t0 =>
          cases t0 with
          | @cons v1 vs1 _ _ r1 t1 =>
          cases t1
          cases r0 with
          | @lst q0 ws0 _ k0 m0 =>
          cases r1 with
          | @lst q1 ws1 _ k1 m1 =>
          obtain ⟨f0, e0'⟩ := rst_of k0
          obtain ⟨f1, e1'⟩ := rst_of k1
          have l0 := m0.length
          have l1 := m1.length
          have s1 : SqT X.K H p [.ref q0, .ref q1] := same_seqT (rst_same H (F i)) h1
          refine ⟨.ref p, hσ, p, [.ref q0, .ref q1], 0, .ref q0, rfl, rfl, s1, rfl, .inl ⟨rfl, ws0, SqL.of e0'⟩, q0, ws0, v, rfl, rfl, e0', by rw [l0]; exact lim_lt hl, ?_⟩
          refine o σ G _ (relX_mut r b ap hb hp f0 rfl ?_) (Same.refl _)
          by_cases hq : q1 = q0
          · subst hq
            rw [e0'] at e1'
            cases e1'
            exact ⟨q1, q1, _, _, sqT_upd h1 e0', f0, f0, upd_same, upd_same, by simp; omega, by simp; omega⟩
          · exact ⟨q0, q1, _, _, sqT_upd h1 e0', f0, f1, upd_same, (by rw [upd_ne hq]; exact e1'), by simp; omega, by omega⟩
      · exact o.elim
    · exact o.elim
  · exact o.elim
/-- x[1].reverse(), x[1].clear() -/
def xTwo (i : Nat) : XM := fun ρ bs => match ρ[i]? with
  | some .pin => (match getB bs i with
    | some (.two n) => .nx ρ (setB bs i (.two n))
    | _ => .bad)
  | _ => .bad
theorem xs_rev1 {i : Nat} {x : Str} {px ps apos p0 : Pos} {j : Nat} (hx : PE X (.Name x px) (tVar i))
    (hbase : attributeBase (.Subscript (.Name x px) (.Constant (.int 1) j p0) ps) "reverse" X.env (eval (.Subscript (.Name x px) (.Constant (.int 1) j p0) ps) X.env) = eval (.Subscript (.Name x px) (.Constant (.int 1) j p0) ps) X.env := by rfl)
    (hline : (apos.endLine == cpos.line) = true := by rfl)
    (hsw : swapsWith (.Call (.Attribute (.Subscript (.Name x px) (.Constant (.int 1) j p0) ps) "reverse" apos) [] [] cpos) none pos.line X.env = pure false := by rfl) :
    XS X E (.Expr (.Call (.Attribute (.Subscript (.Name x px) (.Constant (.int 1) j p0) ps) "reverse" apos) [] [] cpos) pos) (xTwo i) :=
  ps_imp (ps_expr (pe_bm0 PySem.F.plainAttrs_list PySem.F.slot_list_reverse PySem.F.type_list_reverse mt_reverse (pe_ix ix_tup hx pe_int (fun _ _ => rfl)) hbase hline) hsw) fun D σ H ⟨G0, H0, P, G, ρ, bs, rx, o⟩ => by
  obtain ⟨pi, F, r, b, ap⟩ := rx.ex
  unfold xTwo at o
  split at o
  · rename_i e0
    split at o
    · rename_i n hb
      obtain ⟨p, hp, hσ, q0, q1, xs, ys, h1, f0, f1, e0', e1', l0, l1⟩ := pin_at r b e0 hb
      have s1 : SqT X.K H p [.ref q0, .ref q1] := same_seqT (rst_same H (F i)) h1
      refine ⟨.ref p, hσ, p, [.ref q0, .ref q1], 1, .ref q1, rfl, rfl, s1, rfl, .inl ⟨rfl, ys, SqL.of e1'⟩, q1, ys, rfl, rfl, e1', ?_⟩
      refine o σ G _ (relX_mut r b ap hb hp f1 rfl ?_) (Same.refl _)
      by_cases hq : q0 = q1
      · subst hq
        exact ⟨q0, q0, _, _, sqT_upd h1 e1', f0, f0, upd_same, upd_same, by simp; omega, by simp; omega⟩
      · exact ⟨q0, q1, _, _, sqT_upd h1 e1', f0, f1, (by rw [upd_ne hq]; exact e0'), upd_same, by omega, by simp; omega⟩
    · exact o.elim
  · exact o.elim
theorem xs_clear1 {i : Nat} {x : Str} {px ps apos p0 : Pos} {j : Nat} (hx : PE X (.Name x px) (tVar i))
    (hbase : attributeBase (.Subscript (.Name x px) (.Constant (.int 1) j p0) ps) "clear" X.env (eval (.Subscript (.Name x px) (.Constant (.int 1) j p0) ps) X.env) = eval (.Subscript (.Name x px) (.Constant (.int 1) j p0) ps) X.env := by rfl)
    (hline : (apos.endLine == cpos.line) = true := by rfl)
    (hsw : swapsWith (.Call (.Attribute (.Subscript (.Name x px) (.Constant (.int 1) j p0) ps) "clear" apos) [] [] cpos) none pos.line X.env = pure false := by rfl) :
    XS X E (.Expr (.Call (.Attribute (.Subscript (.Name x px) (.Constant (.int 1) j p0) ps) "clear" apos) [] [] cpos) pos) (xTwo i) :=
  ps_imp (ps_expr (pe_bm0 PySem.F.plainAttrs_list PySem.F.slot_list_clear PySem.F.type_list_clear mt_clear (pe_ix ix_tup hx pe_int (fun _ _ => rfl)) hbase hline) hsw) fun D σ H ⟨G0, H0, P, G, ρ, bs, rx, o⟩ => by
  obtain ⟨pi, F, r, b, ap⟩ := rx.ex
  unfold xTwo at o
  split at o
  · rename_i e0
    split at o
    · rename_i n hb
      obtain ⟨p, hp, hσ, q0, q1, xs, ys, h1, f0, f1, e0', e1', l0, l1⟩ := pin_at r b e0 hb
      have s1 : SqT X.K H p [.ref q0, .ref q1] := same_seqT (rst_same H (F i)) h1
      refine ⟨.ref p, hσ, p, [.ref q0, .ref q1], 1, .ref q1, rfl, rfl, s1, rfl, .inl ⟨rfl, ys, SqL.of e1'⟩, q1, ys, rfl, rfl, e1', ?_⟩
      refine o σ G _ (relX_mut r b ap hb hp f1 rfl ?_) (Same.refl _)
      by_cases hq : q0 = q1
      · subst hq
        exact ⟨q0, q0, _, _, sqT_upd h1 e1', f0, f0, upd_same, upd_same, by simp, by simp⟩
      · exact ⟨q0, q1, _, _, sqT_upd h1 e1', f0, f1, (by rw [upd_ne hq]; exact e0'), upd_same, by omega, by simp⟩
    · exact o.elim
  · exact o.elim
/-- x.append(c) -/
def xAppR (i : Nat) : XM := fun ρ bs => match ρ[i]? with
  | some .pin => (match getB bs i with
    | some (.reg (.list xs)) => if xs.length < LIM then .nx ρ (setB bs i .junk) else .bad
    | _ => .bad)
  | _ => .bad
theorem xs_appR {i : Nat} {x : Str} {v : V} {px apos : Pos} (hx : PE X (.Name x px) (tVar i)) (he : PE X e (tC v)) (hbase : attributeBase (.Name x px) "append" X.env (eval (.Name x px) X.env) = eval (.Name x px) X.env := by rfl)
    (hfew : ((backTo cpos (starEach [e] X.env)).all (fun x => !x.1) && (backToKw cpos (keywordEach [] X.env)).all (fun x => x.1.isSome)
      && decide ([e].length + ([] : List Keyword).length + (if ([] : List Keyword).isEmpty then 0 else 1) < 30)) = true := by rfl)
    (hline : (apos.endLine == cpos.line) = true := by rfl) (hs : starEach [e] X.env = (false, eval e X.env) :: starEach [] X.env := by rfl) (hplain : (backTo cpos (starEach [] X.env)).any (·.1) = false := by rfl)
    (hsw : swapsWith (.Call (.Attribute (.Name x px) "append" apos) [e] [] cpos) none pos.line X.env = pure false := by rfl) :
    XS X E (.Expr (.Call (.Attribute (.Name x px) "append" apos) [e] [] cpos) pos) (xAppR i) :=
  ps_imp (ps_expr (pe_bm PySem.F.plainAttrs_list PySem.F.slot_list_append PySem.F.type_list_append mt_append hx (pa_cons he pa_nil hs) hbase hfew hline hs hplain) hsw) fun D σ H ⟨G0, H0, P, G, ρ, bs, rx, o⟩ => by
  obtain ⟨pi, F, r, b, ap⟩ := rx.ex
  unfold xAppR at o
  split at o
  · rename_i e0
    split at o
    · rename_i xs hb
      split at o
      · rename_i hl
        obtain ⟨p, hp, hσ, hc⟩ := pin_at r b e0 hb
        cases hc with
        | @lst _ ws _ k0 m0 =>
          obtain ⟨f0, e0'⟩ := rst_of k0
          have l0 := m0.length
          refine ⟨.ref p, hσ, .inl ⟨rfl, ws, SqL.of e0'⟩, p, ws, v, rfl, rfl, e0', by rw [l0]; exact lim_lt hl, ?_⟩
          exact o σ G _ (relX_mut r b ap hb hp f0 rfl True.intro) (Same.refl _)
      · exact o.elim
    · exact o.elim
  · exact o.elim
end
end Mp

set_option Elab.async false
set_option linter.all false
set_option maxRecDepth 100000
/-! Xa3: defs whose bodies hold such. -/
namespace Mp
open PySem PySem.Spec PyProof.Rows L2
def runX (n : Nat) (f : XM) (ds : List D) : R D := match f (startS n ds) [] with
  | .rt d _ => .ok d
  | .nx _ _ => .ok .none
  | .exc c _ => .exc c
  | _ => .bad
theorem relX_start {K : PySem.W.Frag} {mg : Str → Option Value} {G H : Hp} {N : List Str} {vs : List V} {ds : List D} (s : Same G H) (r : RepL K G vs ds) : RelX K mg G H (fun _ => none) G H (startS N.length ds) [] (L2.start N vs) :=
  ⟨fun _ => none, fun _ _ => False, rel_start s r, ⟨(fun i c (e : getB [] i = some c) => by cases e), (fun _ _ f => f.elim), (fun _ _ f => f.elim), (fun _ _ f => f.elim), (fun _ _ _ _ f => f.elim), (fun _ _ e => by cases e)⟩, fun _ _ f => f.elim⟩
theorem HpX.gw0 {K : PySem.W.Frag} {mg : Str → Option Value} {G0 H0 G H : Hp} {P : Nat → Option Addr} {bs : Bg} (h : HpX K mg G0 H0 P G H bs) : Gw G0 H0 G H := by
  obtain ⟨pi, F, h1, _⟩ := h
  exact h1
section
variable {P : Program} {w : World} {K : PySem.W.Frag} {mg : Str → Option Value} {base : Heap}
theorem runX_end {EE : XK} {G H : Hp} {Q : VK} {f : XM} {n : Nat} {ds : List D} (o : Out (exk mg EE) G H (runX n f ds) fun d G' H' => ∀ v, Rep K G' v d → Q v H') : finX K mg (exk mg EE) G H (fun _ => none) { nx := fun _ H' => Q .non H', rt := Q } G (f (startS n ds) []) := by
  unfold runX at o
  cases hf : f (startS n ds) [] with
  | nx ρ bs => rw [hf] at o; exact fun σ' G' H' rl _ => o G' H' rl.hp.gw0 _ .non
  | rt d bs => rw [hf] at o; exact fun v G' H' g rv => o G' H' g.gw0 v rv
  | bk ρ bs => rw [hf] at o; exact o.elim
  | ct ρ bs => rw [hf] at o; exact o.elim
  | exc c bs => rw [hf] at o; exact fun G' H' g => o G' H' g.gw0
  | bad => rw [hf] at o; exact o.elim
theorem fn_fdX {x : Str} {st : Stmt} {N ps : List Str} {k : Nat} {fb : XM} {f : Addr} {fd : FuncData} (F : FnP K x st f fd) (S : FnScope N ps (defScope st))
    (body : ∀ (f : Addr) (cdv : Value) (A : Around) (outer : List PySem.Env) (s : Shared) (H : Hp) (EE : XK), Cxt (cxD P w K mg base N x st f cdv A outer s H EE) (exk mg EE) k → Cxs (cxD P w K mg base N x st f cdv A outer s H EE) (exk mg EE) →
      XSs (cxD P w K mg base N x st f cdv A outer s H EE) (exk mg EE) (defBody st) fb) : FnOk P w K mg base (L2.CX P w) (k + 1) f fd ps (spD K mg ps.length (runX N.length fb)) := by
  refine F.ok S (fun vs H Q E h => h.1) (fun cdv A outer s H vs Q EE hr h => ?_)
  obtain ⟨hl, G, ds, s', r, o⟩ := h
  exact ⟨_, body f cdv A outer s H EE (cxt_of S.nd hr) cxs_of, G, H, _, G, startS N.length ds, [], relX_start s' r, runX_end o⟩
theorem has_fdX {x : Str} {st : Stmt} {N ps : List Str} {k : Nat} {fb : XM} (Z : DefAt K mg x st ps) (S : FnScope N ps (defScope st))
    (body : ∀ (f : Addr) (cdv : Value) (A : Around) (outer : List PySem.Env) (s : Shared) (H : Hp) (EE : XK), Cxt (cxD P w K mg base N x st f cdv A outer s H EE) (exk mg EE) k → Cxs (cxD P w K mg base N x st f cdv A outer s H EE) (exk mg EE) →
      XSs (cxD P w K mg base N x st f cdv A outer s H EE) (exk mg EE) (defBody st) fb) : Has P w K mg base (k + 1) x ps.length (runX N.length fb) := by
  obtain ⟨f, fd, F, hm, hb⟩ := Z.ex
  exact ⟨f, fd, ps, hm, fn_fdX F S body, F.kp, hb⟩
end
end Mp

set_option Elab.async false
set_option linter.all false
set_option maxRecDepth 100000
set_option maxHeartbeats 0
/-! M of K72: the meanings of its own (printed by gen2.py). -/
namespace K72
open PySem PySem.Spec PyProof.Rows L2 Mp K73
def m_show_row : Mp.Env → SR := sSeq (sIf (toT (e2 eqD (eVar 0) (eL (lLst (aNil))))) (sRet (eC (.str "-"))) (sNx)) (sRet (eM "str" joinD (eC (.str " ")) (aCons (eVar 0) (aNil))))
def f_show_row : List D → R D := runD 1 m_show_row
def m_show_net : Mp.Env → SR := sSeq (sIf (toT (e2 eqD (eVar 0) (eL (lLst (aNil))))) (sRet (eC (.str "-"))) (sNx)) (sRet (eM "str" joinD (eC (.str ", ")) (aCons (eL (lLc [1] (tName 1) (tYesE) (eM "str" joinD (eC (.str " ")) (aCons (eVar 1) (aNil))) (iL (eVar 0)))) (aNil))))
def f_show_net : List D → R D := runD 2 m_show_net
def m_copy : Mp.Env → SR := sRet (eTup (aCons (eL (eB (cl1 listD) (aCons (e2 idxD (eVar 0) (eC (.int 0))) (aNil)))) (aCons (eL (lLc [1] (tName 1) (tYesE) (eL (eB (cl1 listD) (aCons (eVar 1) (aNil)))) (iL (e2 idxD (eVar 0) (eC (.int 1)))))) (aNil))))
def f_copy : List D → R D := runD 2 m_copy
def m_same_table : Mp.Env → SR := sSeq (sIf (tO (tN (toT (eIsi "tuple" (eVar 0)))) (tO (toT (e2 neD (eB (c1 lenD) (aCons (eVar 0) (aNil))) (eC (.int 2)))) (tN (toT (eIsi "list" (e2 idxD (eVar 0) (eC (.int 0)))))))) (sRet (eC (.bool false))) (sNx)) (sRet (eA (eIsi "list" (e2 idxD (eVar 0) (eC (.int 1)))) (eA (eB (c1 allD) (aCons (eL (lLc [2] (tName 2) (tYesE) (eIsi "list" (eVar 2)) (iL (e2 idxD (eVar 0) (eC (.int 1)))))) (aNil))) (e2 eqD (eVar 0) (eVar 1)))))
def f_same_table : List D → R D := runD 3 m_same_table
def m_same_net : Mp.Env → SR := sSeq (sIf (tO (tN (toT (eIsi "list" (eVar 0)))) (tN (toT (eB (c1 allD) (aCons (eL (lLc [2] (tName 2) (tYesE) (eIsi "tuple" (eVar 2)) (iL (eVar 0)))) (aNil)))))) (sRet (eC (.bool false))) (sNx)) (sRet (e2 eqD (eVar 0) (eVar 1)))
def f_same_net : List D → R D := runD 3 m_same_net
def m_written : Mp.Env → SR := sSeq (sIf (toT (e2 eqD (eVar 0) (eL (lLst (aNil))))) (sRet (eC (.str "-"))) (sNx)) (sSeq (sSet 1 (e2 idxD (eVar 0) (eC (.int 0)))) (sSeq (sFor (iL (eL (eS slL (eVar 0) (oSo (eC (.int 1))) (oNo)))) (tName 2) (sSet 1 (e2 addD (e2 addD (eVar 1) (eC (.str " "))) (eVar 2)))) (sRet (eVar 1))))
def f_written : List D → R D := runD 3 m_written
def m_net_written : Mp.Env → SR := sSeq (sIf (toT (e2 eqD (eVar 0) (eL (lLst (aNil))))) (sRet (eC (.str "-"))) (sNx)) (sSeq (sSet 1 (eC (.str ""))) (sSeq (sFor (iL (eVar 0)) (tTupT 3 (tsCons (tName 2) (tsCons (tName 3) (tsCons (tName 4) (tsNil))))) (sSet 1 (e2 addD (e2 addD (e2 addD (e2 addD (e2 addD (e2 addD (eVar 1) (eC (.str ", "))) (eVar 2)) (eC (.str " "))) (eVar 3)) (eC (.str " "))) (eVar 4)))) (sRet (eS slS (eVar 1) (oSo (eC (.int 2))) (oNo)))))
def f_net_written : List D → R D := runD 5 m_net_written
def m_show_table : Mp.Env → SR := sRet (eM "str" joinD (eC (.str " / ")) (aCons (eL (lLc [1] (tName 1) (tYesE) (eCall 1 f_show_row (aCons (eVar 1) (aNil))) (iL (eL (l2 addL (eL (lLst (aCons (e2 idxD (eVar 0) (eC (.int 0))) (aNil)))) (e2 idxD (eVar 0) (eC (.int 1)))))))) (aNil)))
def f_show_table : List D → R D := runD 2 m_show_table
def m_table_written : Mp.Env → SR := sSeq (sSet 1 (eCall 1 f_written (aCons (e2 idxD (eVar 0) (eC (.int 0))) (aNil)))) (sSeq (sFor (iL (e2 idxD (eVar 0) (eC (.int 1)))) (tName 2) (sSet 1 (e2 addD (e2 addD (eVar 1) (eC (.str " / "))) (eCall 1 f_written (aCons (eVar 2) (aNil)))))) (sRet (eVar 1)))
def f_table_written : List D → R D := runD 3 m_table_written
def m_law : XM := xSeq (xL (sSet 1 (eCall 2 f_table (aCons (eVar 0) (aCons (eC (.int 1)) (aNil)))))) (xSeq (xL (sSet 2 (eL (eCall 2 f_net (aCons (eVar 0) (aCons (eC (.int 10)) (aNil))))))) (xSeq (xL (sSet 3 (eL (lLst (aCons (eCall 1 f_copy (aCons (eVar 1) (aNil))) (aCons (eL (eB (cl1 listD) (aCons (eVar 2) (aNil)))) (aNil))))))) (xSeq (xL (sIf (tO (toT (e2 neD (eCall 1 f_show_table (aCons (e2 idxD (eVar 3) (eC (.int 0))) (aNil))) (eCall 1 f_table_written (aCons (eVar 1) (aNil))))) (toT (e2 neD (eCall 1 f_show_net (aCons (e2 idxD (eVar 3) (eC (.int 1))) (aNil))) (eCall 1 f_net_written (aCons (eVar 2) (aNil)))))) (sRet (eC (.bool false))) (sNx))) (xSeq (xL (sFor (iL (e2 idxD (e2 idxD (eVar 3) (eC (.int 0))) (eC (.int 1)))) (tName 4) (sIf (toT (e2 neD (eCall 1 f_show_row (aCons (eVar 4) (aNil))) (eCall 1 f_written (aCons (eVar 4) (aNil))))) (sRet (eC (.bool false))) (sNx)))) (xSeq (xFor (iR1 (aCons (eC (.int 2)) (aNil))) (tName 5) (xSeq (xReg 6 1 f_read_table (aCons (eCall 1 f_table_written (aCons (eVar 1) (aNil))) (aNil))) (xSeq (xReg 7 1 f_read_net (aCons (eCall 1 f_net_written (aCons (eVar 2) (aNil))) (aNil))) (xSeq (xIf (tO (tN (toT (eCall 2 f_same_table (aCons (eVar 6) (aCons (eVar 1) (aNil)))))) (tN (toT (eCall 2 f_same_net (aCons (eVar 7) (aCons (eVar 2) (aNil))))))) (xL (sRet (eC (.bool false)))) (xNx)) (xSeq (xApp0 6) (xSeq (xTwo 6) (xAppR 7))))))) (xL (sRet (e2 eqD (eVar 3) (eL (lLst (aCons (eVar 1) (aCons (eVar 2) (aNil)))))))))))))
def f_law : List D → R D := runX 8 m_law
end K72

set_option Elab.async false
set_option linter.all false
set_option maxRecDepth 100000
set_option maxHeartbeats 0
/-! K72: the walks (printed by gen2.py). -/
namespace K72
open PySem PySem.Spec PyProof.Rows L2 Mp K73
def top (i : Nat) : Stmt := PySem.Challenge.pw_roundsalone_k72_texts_written.main.body.getD i (.Pass ⟨0, 0, 0, 0⟩)
abbrev st_places_of : Stmt := top 5
abbrev st_mask_of : Stmt := top 6
abbrev st_lead_of : Stmt := top 7
abbrev st_reduced : Stmt := top 8
abbrev st_steps_of : Stmt := top 9
abbrev st_is_name : Stmt := top 13
abbrev st_is_row : Stmt := top 14
abbrev st_keeps_bounds : Stmt := top 19
abbrev st_are_rows_of : Stmt := top 20
abbrev st_is_table : Stmt := top 21
abbrev st_is_tie : Stmt := top 23
abbrev st_are_ties : Stmt := top 24
abbrev st_is_bounded : Stmt := top 25
abbrev st_is_net : Stmt := top 26
abbrev st_points : Stmt := top 27
abbrev st_heaps_of : Stmt := top 28
abbrev st_pieces : Stmt := top 29
abbrev st_show_row : Stmt := top 31
abbrev st_show_table : Stmt := top 32
abbrev st_show_net : Stmt := top 33
abbrev st_look : Stmt := top 34
abbrev st_read_row : Stmt := top 35
abbrev st_read_table : Stmt := top 36
abbrev st_read_tie : Stmt := top 37
abbrev st_read_net : Stmt := top 38
abbrev st_cell_at : Stmt := top 40
abbrev st_big : Stmt := top 41
abbrev st_names : Stmt := top 42
abbrev st_ends : Stmt := top 43
abbrev st_net : Stmt := top 44
abbrev st__law_reduced : Stmt := top 45
abbrev st_even : Stmt := top 46
abbrev st_crossing : Stmt := top 47
abbrev st_small : Stmt := top 48
abbrev st_with_more : Stmt := top 49
abbrev st_row : Stmt := top 50
abbrev st_free : Stmt := top 51
abbrev st__law_steps_of : Stmt := top 52
abbrev st_table : Stmt := top 53
abbrev st_copy : Stmt := top 54
abbrev st_same_table : Stmt := top 55
abbrev st_same_net : Stmt := top 56
abbrev st_written : Stmt := top 57
abbrev st_table_written : Stmt := top 58
abbrev st_net_written : Stmt := top 59
abbrev st_law : Stmt := top 60
structure Fs (K : PySem.W.Frag) (mg : Str → Option Value) : Prop where
  b_abs : mg "abs" = none
  b_all : mg "all" = none
  c_MOST_NAMES : Con K mg "MOST_NAMES" (.int 12)
  c_MOST_ROWS : Con K mg "MOST_ROWS" (.int 16)
  c_MOST_SIGNS : Con K mg "MOST_SIGNS" (.int 6)
  c_MOST_STEPS : Con K mg "MOST_STEPS" (.int 8)
  c_SIGNS : Con K mg "SIGNS" (.str "abcdefghijklmnopqrstuvwxyz0123456789")
  e_NoText : Err K mg "NoText"
  e_TooMany : Err K mg "TooMany"
  b_enumerate : mg "enumerate" = none
  b_isinstance : mg "isinstance" = none
  b_len : mg "len" = none
  b_list : mg "list" = none
  b_min : mg "min" = none
  b_range : mg "range" = none
  b_set : mg "set" = none
  b_sorted : mg "sorted" = none
  b_str : mg "str" = none
  b_sum : mg "sum" = none
  b_tuple : mg "tuple" = none
  b_zip : mg "zip" = none
  d_places_of : DefAt K mg "places_of" st_places_of ["names"]
  d_mask_of : DefAt K mg "mask_of" st_mask_of ["bits", "row"]
  d_lead_of : DefAt K mg "lead_of" st_lead_of ["number"]
  d_reduced : DefAt K mg "reduced" st_reduced ["numbers"]
  d_steps_of : DefAt K mg "steps_of" st_steps_of ["table"]
  d_is_name : DefAt K mg "is_name" st_is_name ["thing"]
  d_is_row : DefAt K mg "is_row" st_is_row ["thing"]
  d_keeps_bounds : DefAt K mg "keeps_bounds" st_keeps_bounds ["many", "found"]
  d_are_rows_of : DefAt K mg "are_rows_of" st_are_rows_of ["thing", "names"]
  d_is_table : DefAt K mg "is_table" st_is_table ["thing"]
  d_is_tie : DefAt K mg "is_tie" st_is_tie ["thing"]
  d_are_ties : DefAt K mg "are_ties" st_are_ties ["thing"]
  d_is_bounded : DefAt K mg "is_bounded" st_is_bounded ["net"]
  d_is_net : DefAt K mg "is_net" st_is_net ["thing"]
  d_points : DefAt K mg "points" st_points ["net"]
  d_heaps_of : DefAt K mg "heaps_of" st_heaps_of ["net", "names"]
  d_pieces : DefAt K mg "pieces" st_pieces ["net"]
  d_show_row : DefAt K mg "show_row" st_show_row ["row"]
  d_show_table : DefAt K mg "show_table" st_show_table ["table"]
  d_show_net : DefAt K mg "show_net" st_show_net ["net"]
  d_look : DefAt K mg "look" st_look ["right"]
  d_read_row : DefAt K mg "read_row" st_read_row ["text"]
  d_read_table : DefAt K mg "read_table" st_read_table ["text"]
  d_read_tie : DefAt K mg "read_tie" st_read_tie ["text"]
  d_read_net : DefAt K mg "read_net" st_read_net ["text"]
  d_cell_at : DefAt K mg "_law_cell_at" st_cell_at ["_law_script", "_law_k"]
  d_big : DefAt K mg "_law_big" st_big ["_law_script", "_law_k"]
  d_names : DefAt K mg "_law_names" st_names ["_law_big_here", "_law_many"]
  d_ends : DefAt K mg "_law_ends" st_ends ["_law_big_here", "_law_many", "_law_spread"]
  d_net : DefAt K mg "_law_net" st_net ["_law_script", "_law_at"]
  d__law_reduced : DefAt K mg "_law_reduced" st__law_reduced ["_law_numbers"]
  d_even : DefAt K mg "_law_even" st_even ["_law_net_here"]
  d_crossing : DefAt K mg "_law_crossing" st_crossing ["_law_numbers", "_law_many"]
  d_small : DefAt K mg "_law_small" st_small ["_law_kind"]
  d_with_more : DefAt K mg "_law_with_more" st_with_more ["_law_base", "_law_many", "_law_big_here", "_law_most"]
  d_row : DefAt K mg "_law_row" st_row ["_law_names_here", "_law_number"]
  d_free : DefAt K mg "_law_free" st_free ["_law_big_here", "_law_many"]
  d__law_steps_of : DefAt K mg "_law_steps_of" st__law_steps_of ["_law_script", "_law_at"]
  d_table : DefAt K mg "_law_table" st_table ["_law_script", "_law_at"]
  d_copy : DefAt K mg "_law_copy" st_copy ["_law_table_here"]
  d_same_table : DefAt K mg "_law_same_table" st_same_table ["_law_found", "_law_due"]
  d_same_net : DefAt K mg "_law_same_net" st_same_net ["_law_found", "_law_due"]
  d_written : DefAt K mg "_law_written" st_written ["_law_row_here"]
  d_table_written : DefAt K mg "_law_table_written" st_table_written ["_law_table_here"]
  d_net_written : DefAt K mg "_law_net_written" st_net_written ["_law_net_here"]
  d_law : DefAt K mg "law" st_law ["_law_script"]
section
variable {P : Program} {w : World} {K : PySem.W.Frag} {mg : Str → Option Value} {base : Heap}
/-! places_of -/
abbrev N_places_of : List Str := ["names", "bits", "place", "name"]
theorem sc_places_of : FnScope N_places_of ["names"] (defScope st_places_of) := ⟨rfl, rfl, rfl, by decide +kernel, rfl, by decide +kernel, by decide +kernel⟩
theorem h_places_of (Z : Fs K mg) : Has P w K mg base 1 "places_of" 1 f_places_of := has_fd Z.d_places_of sc_places_of fun f cdv A outer s H EE C S => jss_cons (js_dnew C.nd rfl (by first | exact .inl rfl | exact .inr rfl)) (jss_cons (js_for C S (ji0_enum rfl Z.b_enumerate (jae_cons (je_var (pv 0)) (jae_nil))) (jg_tup C.calm (jgs_cons (jg_name (pg_name C.nd rfl (by first | exact .inl rfl | exact .inr rfl))) (jgs_cons (jg_name (pg_name C.nd rfl (by first | exact .inl rfl | exact .inr rfl))) (jgs_nil)))) (jss_one (js_dput C (pv 1) (.ofE (je_var (pv 3))) (je_bin p_shl (.ofE (je_int)) (.ofE (je_var (pv 2))))))) (jss_frzD 1 (jss_one (js_ret (je_var (pv 1))))))
/-! mask_of -/
abbrev N_mask_of : List Str := ["bits", "row", "number", "name"]
theorem sc_mask_of : FnScope N_mask_of ["bits", "row"] (defScope st_mask_of) := ⟨rfl, rfl, rfl, by decide +kernel, rfl, by decide +kernel, by decide +kernel⟩
theorem h_mask_of (Z : Fs K mg) : Has P w K mg base 1 "mask_of" 2 f_mask_of := has_fd Z.d_mask_of sc_mask_of fun f cdv A outer s H EE C S => jss_cons (js_set C.nd rfl (by first | exact .inl rfl | exact .inr rfl) (je_int)) (jss_cons (js_for C S (ji0_list (je_var (pv 1))) (jg_name (pg_name C.nd rfl (by first | exact .inl rfl | exact .inr rfl))) (jss_one (js_set C.nd rfl (by first | exact .inl rfl | exact .inr rfl) (je_bin p_or (.ofE (je_var (pv 2))) (.ofE (je_dget C (.ofE (je_var (pv 0))) (.ofE (je_var (pv 3))) (fun _ _ => rfl))))))) (jss_one (js_ret (je_var (pv 2)))))
/-! lead_of -/
abbrev N_lead_of : List Str := ["number"]
theorem sc_lead_of : FnScope N_lead_of ["number"] (defScope st_lead_of) := ⟨rfl, rfl, rfl, by decide +kernel, rfl, by decide +kernel, by decide +kernel⟩
theorem h_lead_of (Z : Fs K mg) : Has P w K mg base 1 "lead_of" 1 f_lead_of := has_fd Z.d_lead_of sc_lead_of fun f cdv A outer s H EE C S => jss_one (js_ret (je_bin p_and (.ofE (je_var (pv 0))) (.ofE (jp_neg (.ofE (je_var (pv 0)))))))
/-! is_name -/
abbrev N_is_name : List Str := ["thing", "sign"]
theorem sc_is_name : FnScope N_is_name ["thing"] (defScope st_is_name) := ⟨rfl, rfl, rfl, by decide +kernel, rfl, by decide +kernel, by decide +kernel⟩
theorem h_is_name (Z : Fs K mg) : Has P w K mg base 1 "is_name" 1 f_is_name := has_fd Z.d_is_name sc_is_name fun f cdv A outer s H EE C S => jss_cons (js_if (jt_w (jw_or (jt_not (jt_val (je_isi rfl Z.b_isinstance (.ofE (je_var (pv 0))) rfl Z.b_str bt_str))) (jw_or1 (jt_not (jt_chain (p_le) (p_le) (.ofE (je_int)) (.ofE (je_callB k_len rfl Z.b_len bt_len (ja_cons (.ofE (je_var (pv 0))) (ja_nil)))) (.ofE (je_glob Z.c_MOST_SIGNS rfl))))))) (jss_one (js_ret (je_bl))) (jss_nil)) (jss_one (js_ret (je_callB (k_all C) rfl Z.b_all bt_all (ja_cons (.ofF (jf_lcC [("sign", 1)] C (.of0 (ji0_str (je_var (pv 0)))) (show BlkOk N_is_name (defScope st_is_name) _ _ from ⟨rfl, by decide +kernel, by decide +kernel, by decide +kernel, by decide +kernel⟩) (fun s H Ca cl fp C => jg_name (pg_name C.nd rfl (by first | exact .inl rfl | exact .inr rfl))) (fun s H Ca cl fp C => jts_nil) (fun s H Ca cl fp C => je_cmp (o_in C) (.ofE (je_var (pv 1))) (.ofE (je_glob Z.c_SIGNS rfl)) rfl) (by decide))) (ja_nil)))))
/-! keeps_bounds -/
abbrev N_keeps_bounds : List Str := ["many", "found"]
theorem sc_keeps_bounds : FnScope N_keeps_bounds ["many", "found"] (defScope st_keeps_bounds) := ⟨rfl, rfl, rfl, by decide +kernel, rfl, by decide +kernel, by decide +kernel⟩
theorem h_keeps_bounds (Z : Fs K mg) : Has P w K mg base 1 "keeps_bounds" 2 f_keeps_bounds := has_fd Z.d_keeps_bounds sc_keeps_bounds fun f cdv A outer s H EE C S => jss_one (js_ret (je_and (je_cmp (p_le) (.ofE (je_var (pv 0))) (.ofE (je_glob Z.c_MOST_NAMES rfl)) rfl) (je_and (je_cmp (p_le) (.ofE (je_callB k_len rfl Z.b_len bt_len (ja_cons (.ofE (je_var (pv 1))) (ja_nil)))) (.ofE (je_glob Z.c_MOST_STEPS rfl)) rfl) (je_one (je_cmp (p_le) (.ofE (je_bin p_sub (.ofE (je_var (pv 0))) (.ofE (je_callB k_len rfl Z.b_len bt_len (ja_cons (.ofE (je_var (pv 1))) (ja_nil)))))) (.ofE (je_glob Z.c_MOST_STEPS rfl)) rfl)))))
/-! points -/
abbrev N_points : List Str := ["net", "tie"]
theorem sc_points : FnScope N_points ["net"] (defScope st_points) := ⟨rfl, rfl, rfl, by decide +kernel, rfl, by decide +kernel, by decide +kernel⟩
theorem h_points (Z : Fs K mg) : HasL P w K mg base 1 "points" 1 f_points := has_fdL Z.d_points sc_points fun f cdv A outer s H EE C S => jss_one (js_retL (jf_sortset C rfl Z.b_sorted rfl Z.b_set (.ofF (jf_bin o_addL (.ofF (jf_lcC [("tie", 1)] C (ji_list (.ofE (je_var (pv 0)))) (show BlkOk N_points (defScope st_points) _ _ from ⟨rfl, by decide +kernel, by decide +kernel, by decide +kernel, by decide +kernel⟩) (fun s H Ca cl fp C => jg_name (pg_name C.nd rfl (by first | exact .inl rfl | exact .inr rfl))) (fun s H Ca cl fp C => jts_nil) (fun s H Ca cl fp C => je_ix x_idx (.ofE (je_var (pv 1))) (.ofE (je_int)) (fun _ _ => rfl)) (by decide))) (.ofF (jf_lcC [("tie", 1)] C (ji_list (.ofE (je_var (pv 0)))) (show BlkOk N_points (defScope st_points) _ _ from ⟨rfl, by decide +kernel, by decide +kernel, by decide +kernel, by decide +kernel⟩) (fun s H Ca cl fp C => jg_name (pg_name C.nd rfl (by first | exact .inl rfl | exact .inr rfl))) (fun s H Ca cl fp C => jts_nil) (fun s H Ca cl fp C => je_ix x_idx (.ofE (je_var (pv 1))) (.ofE (je_int)) (fun _ _ => rfl)) (by decide)))))))
/-! heaps_of -/
abbrev N_heaps_of : List Str := ["net", "names", "heaps", "name", "one", "other", "joined", "others", "heap"]
theorem sc_heaps_of : FnScope N_heaps_of ["net", "names"] (defScope st_heaps_of) := ⟨rfl, rfl, rfl, by decide +kernel, rfl, by decide +kernel, by decide +kernel⟩
theorem h_heaps_of (Z : Fs K mg) : Has P w K mg base 1 "heaps_of" 2 f_heaps_of := has_fd Z.d_heaps_of sc_heaps_of fun f cdv A outer s H EE C S => jss_cons (js_set C.nd rfl (by first | exact .inl rfl | exact .inr rfl) (JE.ofF (jf_lst (jae_nil)))) (jss_cons (js_for C S (ji0_list (je_var (pv 0))) (jg_tup C.calm (jgs_cons (jg_name (pg_name C.nd rfl (by first | exact .inl rfl | exact .inr rfl))) (jgs_cons (jg_name (pg_name C.nd rfl (by first | exact .inl rfl | exact .inr rfl))) (jgs_cons (jg_name (pg_name C.nd rfl (by first | exact .inl rfl | exact .inr rfl))) (jgs_nil))))) (jss_one (js_if (jt_cmp (o_in C) (.ofE (je_var (pv 3))) (.ofE (je_var (pv 1))) rfl) (jss_cons (js_set C.nd rfl (by first | exact .inl rfl | exact .inr rfl) (JE.ofF (jf_lst (jae_cons (JE.ofF (jf_lst (jae_cons (je_var (pv 4)) (jae_cons (je_var (pv 5)) (jae_nil))))) (jae_cons (JE.ofF (jf_lst (jae_cons (je_var (pv 3)) (jae_nil)))) (jae_nil)))))) (jss_cons (js_setL C.nd rfl (by first | exact .inl rfl | exact .inr rfl) (jf_lst (jae_nil))) (jss_cons (js_for C S (ji0_list (je_var (pv 2))) (jg_name (pg_name C.nd rfl (by first | exact .inl rfl | exact .inr rfl))) (jss_one (js_if (jt_w (jw_or (jt_cmp (o_in C) (.ofE (je_var (pv 4))) (.ofE (je_ix x_idx (.ofE (je_var (pv 8))) (.ofE (je_int)) (fun _ _ => rfl))) rfl) (jw_or1 (jt_cmp (o_in C) (.ofE (je_var (pv 5))) (.ofE (je_ix x_idx (.ofE (je_var (pv 8))) (.ofE (je_int)) (fun _ _ => rfl))) rfl)))) (jss_one (js_set C.nd rfl (by first | exact .inl rfl | exact .inr rfl) (JE.ofF (jf_lst (jae_cons (JE.ofF (jf_bin o_addL (.ofE (je_ix x_idx (.ofE (je_var (pv 6))) (.ofE (je_int)) (fun _ _ => rfl))) (.ofE (je_ix x_idx (.ofE (je_var (pv 8))) (.ofE (je_int)) (fun _ _ => rfl))))) (jae_cons (JE.ofF (jf_bin o_addL (.ofE (je_ix x_idx (.ofE (je_var (pv 8))) (.ofE (je_int)) (fun _ _ => rfl))) (.ofE (je_ix x_idx (.ofE (je_var (pv 6))) (.ofE (je_int)) (fun _ _ => rfl))))) (jae_nil))))))) (jss_one (js_app (pv 7) (je_var (pv 8))))))) (jss_one (js_set C.nd rfl (by first | exact .inl rfl | exact .inr rfl) (JE.ofF (jf_bin o_addL (jb_var (pv 7)) (.ofF (jf_lst (jae_cons (je_var (pv 6)) (jae_nil))))))))))) (jss_nil)))) (jss_one (js_ret (je_var (pv 2)))))
/-! show_row -/
abbrev N_show_row : List Str := ["row"]
theorem sc_show_row : FnScope N_show_row ["row"] (defScope st_show_row) := ⟨rfl, rfl, rfl, by decide +kernel, rfl, by decide +kernel, by decide +kernel⟩
theorem h_show_row (Z : Fs K mg) : Has P w K mg base 1 "show_row" 1 f_show_row := has_fd Z.d_show_row sc_show_row fun f cdv A outer s H EE C S => jss_cons (js_if (jt_cmp (o_eq C) (.ofE (je_var (pv 0))) (.ofF (jf_lst (jae_nil))) rfl) (jss_one (js_ret (je_str))) (jss_nil)) (jss_one (js_ret (je_meth m_join PySem.F.plainAttrs_str PySem.F.slot_str_join PySem.F.type_str_join (.ofE (je_str)) (ja_cons (.ofE (je_var (pv 0))) (ja_nil)))))
/-! show_net -/
abbrev N_show_net : List Str := ["net", "tie"]
theorem sc_show_net : FnScope N_show_net ["net"] (defScope st_show_net) := ⟨rfl, rfl, rfl, by decide +kernel, rfl, by decide +kernel, by decide +kernel⟩
theorem h_show_net (Z : Fs K mg) : Has P w K mg base 1 "show_net" 1 f_show_net := has_fd Z.d_show_net sc_show_net fun f cdv A outer s H EE C S => jss_cons (js_if (jt_cmp (o_eq C) (.ofE (je_var (pv 0))) (.ofF (jf_lst (jae_nil))) rfl) (jss_one (js_ret (je_str))) (jss_nil)) (jss_one (js_ret (je_meth m_join PySem.F.plainAttrs_str PySem.F.slot_str_join PySem.F.type_str_join (.ofE (je_str)) (ja_cons (.ofF (jf_lcC [("tie", 1)] C (ji_list (.ofE (je_var (pv 0)))) (show BlkOk N_show_net (defScope st_show_net) _ _ from ⟨rfl, by decide +kernel, by decide +kernel, by decide +kernel, by decide +kernel⟩) (fun s H Ca cl fp C => jg_name (pg_name C.nd rfl (by first | exact .inl rfl | exact .inr rfl))) (fun s H Ca cl fp C => jts_nil) (fun s H Ca cl fp C => je_meth m_join PySem.F.plainAttrs_str PySem.F.slot_str_join PySem.F.type_str_join (.ofE (je_str)) (ja_cons (.ofE (je_var (pv 1))) (ja_nil))) (by decide))) (ja_nil)))))
/-! look -/
abbrev N_look : List Str := ["right"]
theorem sc_look : FnScope N_look ["right"] (defScope st_look) := ⟨rfl, rfl, rfl, by decide +kernel, rfl, by decide +kernel, by decide +kernel⟩
theorem h_look (Z : Fs K mg) : Has P w K mg base 1 "look" 1 f_look := has_fd Z.d_look sc_look fun f cdv A outer s H EE C S => jss_one (js_if (jt_not (jt_val (je_var (pv 0)))) (jss_one (js_raise C S Z.e_NoText rfl)) (jss_nil))
/-! _law_cell_at -/
abbrev N_cell_at : List Str := ["_law_script", "_law_k"]
theorem sc_cell_at : FnScope N_cell_at ["_law_script", "_law_k"] (defScope st_cell_at) := ⟨rfl, rfl, rfl, by decide +kernel, rfl, by decide +kernel, by decide +kernel⟩
theorem h_cell_at (Z : Fs K mg) : Has P w K mg base 1 "_law_cell_at" 2 f_cell_at := has_fd Z.d_cell_at sc_cell_at fun f cdv A outer s H EE C S => jss_cons (js_if (jt_cmp (p_lt) (.ofE (je_var (pv 1))) (.ofE (je_callB k_len rfl Z.b_len bt_len (ja_cons (.ofE (je_var (pv 0))) (ja_nil)))) rfl) (jss_one (js_ret (je_ix x_idx (.ofE (je_var (pv 0))) (.ofE (je_var (pv 1))) (fun _ _ => rfl)))) (jss_nil)) (jss_one (js_ret (je_int)))
/-! _law_names -/
abbrev N_names : List Str := ["_law_big_here", "_law_many", "_law_signs", "_law_word", "_law_k", "_law_spot", "_law_first", "_law_head", "_law_tail"]
theorem sc_names : FnScope N_names ["_law_big_here", "_law_many"] (defScope st_names) := ⟨rfl, rfl, rfl, by decide +kernel, rfl, by decide +kernel, by decide +kernel⟩
theorem h_names (Z : Fs K mg) : HasL P w K mg base 1 "_law_names" 2 f_names := has_fdL Z.d_names sc_names fun f cdv A outer s H EE C S => jss_cons (js_set C.nd rfl (by first | exact .inl rfl | exact .inr rfl) (je_str)) (jss_cons (js_set C.nd rfl (by first | exact .inl rfl | exact .inr rfl) (je_str)) (jss_cons (js_for C S (ji0_range1 rfl Z.b_range (ja_cons (.ofE (je_bin o_add (.ofE (je_int)) (.ofE (je_bin p_mod (.ofE (je_var (pv 0))) (.ofE (je_int)))))) (ja_nil))) (jg_name (pg_name C.nd rfl (by first | exact .inl rfl | exact .inr rfl))) (jss_cons (js_set C.nd rfl (by first | exact .inl rfl | exact .inr rfl) (je_bin o_add (.ofE (je_var (pv 3))) (.ofE (je_ix x_idx (.ofE (je_var (pv 2))) (.ofE (je_bin p_mod (.ofE (je_bin p_div (.ofE (je_var (pv 0))) (.ofE (je_int)))) (.ofE (je_int)))) (fun _ _ => rfl))))) (jss_one (js_set C.nd rfl (by first | exact .inl rfl | exact .inr rfl) (je_bin p_div (.ofE (je_var (pv 0))) (.ofE (je_int))))))) (jss_cons (js_set C.nd rfl (by first | exact .inl rfl | exact .inr rfl) (je_bin p_mod (.ofE (je_bin p_div (.ofE (je_var (pv 0))) (.ofE (je_int)))) (.ofE (je_callB k_len rfl Z.b_len bt_len (ja_cons (.ofE (je_var (pv 3))) (ja_nil)))))) (jss_cons (js_set C.nd rfl (by first | exact .inl rfl | exact .inr rfl) (je_bin p_mod (.ofE (je_bin p_div (.ofE (je_var (pv 0))) (.ofE (je_int)))) (.ofE (je_int)))) (jss_cons (js_asg (je_tup (jae_cons (je_sl x_slS (.ofE (je_var (pv 3))) (jo_none) (jo_some (je_var (pv 5)))) (jae_cons (je_sl x_slS (.ofE (je_var (pv 3))) (jo_some (je_bin o_add (.ofE (je_var (pv 5))) (.ofE (je_int)))) (jo_none)) (jae_nil)))) (jg_tup C.calm (jgs_cons (jg_name (pg_name C.nd rfl (by first | exact .inl rfl | exact .inr rfl))) (jgs_cons (jg_name (pg_name C.nd rfl (by first | exact .inl rfl | exact .inr rfl))) (jgs_nil))))) (jss_one (js_retL (jf_lcC [("_law_k", 4)] C (.of0 (ji0_range1 rfl Z.b_range (ja_cons (.ofE (je_var (pv 1))) (ja_nil)))) (show BlkOk N_names (defScope st_names) _ _ from ⟨rfl, by decide +kernel, by decide +kernel, by decide +kernel, by decide +kernel⟩) (fun s H Ca cl fp C => jg_name (pg_name C.nd rfl (by first | exact .inl rfl | exact .inr rfl))) (fun s H Ca cl fp C => jts_nil) (fun s H Ca cl fp C => je_bin o_add (.ofE (je_bin o_add (.ofE (je_var (pv 7))) (.ofE (je_ix x_idx (.ofE (je_var (pv 2))) (.ofE (je_bin p_mod (.ofE (je_bin o_add (.ofE (je_var (pv 6))) (.ofE (je_bin o_mul (.ofE (je_int)) (.ofE (je_var (pv 4))))))) (.ofE (je_int)))) (fun _ _ => rfl))))) (.ofE (je_var (pv 8)))) (by decide)))))))))
/-! _law_ends -/
abbrev N_ends : List Str := ["_law_big_here", "_law_many", "_law_spread", "_law_heaps", "_law_found", "_law_high", "_law_k", "_law_one", "_law_other", "_law_gone", "_law_heap"]
theorem sc_ends : FnScope N_ends ["_law_big_here", "_law_many", "_law_spread"] (defScope st_ends) := ⟨rfl, rfl, rfl, by decide +kernel, rfl, by decide +kernel, by decide +kernel⟩
theorem h_ends (Z : Fs K mg) : HasL P w K mg base 1 "_law_ends" 3 f_ends := has_fdL Z.d_ends sc_ends fun f cdv A outer s H EE C S => jss_cons (js_set C.nd rfl (by first | exact .inl rfl | exact .inr rfl) (JE.ofF (jf_listR1 C rfl Z.b_list rfl Z.b_range (.ofE (je_var (pv 2)))))) (jss_cons (js_setL C.nd rfl (by first | exact .inl rfl | exact .inr rfl) (jf_lst (jae_nil))) (jss_cons (js_set C.nd rfl (by first | exact .inl rfl | exact .inr rfl) (je_int)) (jss_cons (js_for C S (ji0_range1 rfl Z.b_range (ja_cons (.ofE (je_var (pv 1))) (ja_nil))) (jg_name (pg_name C.nd rfl (by first | exact .inl rfl | exact .inr rfl))) (jss_cons (js_asg (je_tup (jae_cons (je_bin p_mod (.ofE (je_var (pv 0))) (.ofE (je_var (pv 2)))) (jae_cons (je_bin p_mod (.ofE (je_bin p_div (.ofE (je_var (pv 0))) (.ofE (je_var (pv 2))))) (.ofE (je_var (pv 2)))) (jae_nil)))) (jg_tup C.calm (jgs_cons (jg_name (pg_name C.nd rfl (by first | exact .inl rfl | exact .inr rfl))) (jgs_cons (jg_name (pg_name C.nd rfl (by first | exact .inl rfl | exact .inr rfl))) (jgs_nil))))) (jss_cons (js_set C.nd rfl (by first | exact .inl rfl | exact .inr rfl) (je_bin p_div (.ofE (je_bin p_div (.ofE (je_var (pv 0))) (.ofE (je_var (pv 2))))) (.ofE (je_var (pv 2))))) (jss_one (js_if (jt_w (jw_and (jt_cmp (o_eq C) (.ofE (je_ix x_idx (.ofE (je_var (pv 3))) (.ofE (je_var (pv 7))) (fun _ _ => rfl))) (.ofE (je_ix x_idx (.ofE (je_var (pv 3))) (.ofE (je_var (pv 8))) (fun _ _ => rfl))) rfl) (jw_and1 (jt_cmp (p_lt) (.ofE (je_bin p_sub (.ofE (je_callB k_len rfl Z.b_len bt_len (ja_cons (jb_var (pv 4)) (ja_nil)))) (.ofE (je_var (pv 5))))) (.ofE (je_int)) rfl)))) (jss_one (js_app (pv 4) (je_tup (jae_cons (je_var (pv 7)) (jae_cons (je_var (pv 8)) (jae_nil)))))) (jss_one (js_if (jt_w (jw_and (jt_cmp (o_ne C) (.ofE (je_ix x_idx (.ofE (je_var (pv 3))) (.ofE (je_var (pv 7))) (fun _ _ => rfl))) (.ofE (je_ix x_idx (.ofE (je_var (pv 3))) (.ofE (je_var (pv 8))) (fun _ _ => rfl))) rfl) (jw_and1 (jt_cmp (p_lt) (.ofE (je_var (pv 5))) (.ofE (je_int)) rfl)))) (jss_cons (js_app (pv 4) (je_tup (jae_cons (je_var (pv 7)) (jae_cons (je_var (pv 8)) (jae_nil))))) (jss_cons (js_aug C.nd rfl (by first | exact .inl rfl | exact .inr rfl) (je_int) ip_add) (jss_cons (js_set C.nd rfl (by first | exact .inl rfl | exact .inr rfl) (je_ix x_idx (.ofE (je_var (pv 3))) (.ofE (je_var (pv 8))) (fun _ _ => rfl))) (jss_one (js_set C.nd rfl (by first | exact .inl rfl | exact .inr rfl) (JE.ofF (jf_lcC [("_law_heap", 10)] C (ji_list (.ofE (je_var (pv 3)))) (show BlkOk N_ends (defScope st_ends) _ _ from ⟨rfl, by decide +kernel, by decide +kernel, by decide +kernel, by decide +kernel⟩) (fun s H Ca cl fp C => jg_name (pg_name C.nd rfl (by first | exact .inl rfl | exact .inr rfl))) (fun s H Ca cl fp C => jts_nil) (fun s H Ca cl fp C => je_if (jt_cmp (o_eq C) (.ofE (je_var (pv 10))) (.ofE (je_var (pv 9))) rfl) (je_ix x_idx (.ofE (je_var (pv 3))) (.ofE (je_var (pv 7))) (fun _ _ => rfl)) (je_var (pv 10))) (by decide)))))))) (jss_nil)))))))) (jss_one (js_retO (pv 4))))))
/-! _law_reduced -/
abbrev N__law_reduced : List Str := ["_law_numbers", "_law_rows", "_law_number", "_law_row_here", "_law_lead"]
theorem sc__law_reduced : FnScope N__law_reduced ["_law_numbers"] (defScope st__law_reduced) := ⟨rfl, rfl, rfl, by decide +kernel, rfl, by decide +kernel, by decide +kernel⟩
theorem h__law_reduced (Z : Fs K mg) : Has P w K mg base 1 "_law_reduced" 1 f__law_reduced := has_fd Z.d__law_reduced sc__law_reduced fun f cdv A outer s H EE C S => jss_cons (js_set C.nd rfl (by first | exact .inl rfl | exact .inr rfl) (JE.ofF (jf_lst (jae_nil)))) (jss_cons (js_for C S (ji0_list (je_var (pv 0))) (jg_name (pg_name C.nd rfl (by first | exact .inl rfl | exact .inr rfl))) (jss_cons (js_for C S (ji0_list (je_var (pv 1))) (jg_name (pg_name C.nd rfl (by first | exact .inl rfl | exact .inr rfl))) (jss_one (js_if (jt_cmp (o_ne C) (.ofE (je_bin p_and (.ofE (je_bin p_and (.ofE (je_var (pv 2))) (.ofE (je_var (pv 3))))) (.ofE (jp_neg (.ofE (je_var (pv 3))))))) (.ofE (je_int)) rfl) (jss_one (js_set C.nd rfl (by first | exact .inl rfl | exact .inr rfl) (je_bin p_xor (.ofE (je_var (pv 2))) (.ofE (je_var (pv 3)))))) (jss_nil)))) (jss_one (js_if (jt_cmp (o_ne C) (.ofE (je_var (pv 2))) (.ofE (je_int)) rfl) (jss_cons (js_set C.nd rfl (by first | exact .inl rfl | exact .inr rfl) (je_bin p_and (.ofE (je_var (pv 2))) (.ofE (jp_neg (.ofE (je_var (pv 2))))))) (jss_one (js_set C.nd rfl (by first | exact .inl rfl | exact .inr rfl) (JE.ofF (jf_bin o_addL (.ofF (jf_lcC [("_law_row_here", 3)] C (ji_list (.ofE (je_var (pv 1)))) (show BlkOk N__law_reduced (defScope st__law_reduced) _ _ from ⟨rfl, by decide +kernel, by decide +kernel, by decide +kernel, by decide +kernel⟩) (fun s H Ca cl fp C => jg_name (pg_name C.nd rfl (by first | exact .inl rfl | exact .inr rfl))) (fun s H Ca cl fp C => jts_nil) (fun s H Ca cl fp C => je_if (jt_cmp (o_ne C) (.ofE (je_bin p_and (.ofE (je_var (pv 3))) (.ofE (je_var (pv 4))))) (.ofE (je_int)) rfl) (je_bin p_xor (.ofE (je_var (pv 3))) (.ofE (je_var (pv 2)))) (je_var (pv 3))) (by decide))) (.ofF (jf_lst (jae_cons (je_var (pv 2)) (jae_nil))))))))) (jss_nil))))) (jss_one (js_ret (je_var (pv 1)))))
/-! _law_even -/
abbrev N_even : List Str := ["_law_net_here", "_law_knots", "_law_kept", "_law_found", "_law_place", "_law_tie", "_law_ends_here", "_law_mine", "_law_far", "_law_more"]
theorem sc_even : FnScope N_even ["_law_net_here"] (defScope st_even) := ⟨rfl, rfl, rfl, by decide +kernel, rfl, by decide +kernel, by decide +kernel⟩
theorem h_even (Z : Fs K mg) : HasL P w K mg base 1 "_law_even" 1 f_even := has_fdL Z.d_even sc_even fun f cdv A outer s H EE C S => jss_cons (js_set C.nd rfl (by first | exact .inl rfl | exact .inr rfl) (JE.ofF (jf_sortset C rfl Z.b_sorted rfl Z.b_set (.ofF (jf_bin o_addL (.ofF (jf_lcC [("_law_tie", 5)] C (ji_list (.ofE (je_var (pv 0)))) (show BlkOk N_even (defScope st_even) _ _ from ⟨rfl, by decide +kernel, by decide +kernel, by decide +kernel, by decide +kernel⟩) (fun s H Ca cl fp C => jg_name (pg_name C.nd rfl (by first | exact .inl rfl | exact .inr rfl))) (fun s H Ca cl fp C => jts_nil) (fun s H Ca cl fp C => je_ix x_idx (.ofE (je_var (pv 5))) (.ofE (je_int)) (fun _ _ => rfl)) (by decide))) (.ofF (jf_lcC [("_law_tie", 5)] C (ji_list (.ofE (je_var (pv 0)))) (show BlkOk N_even (defScope st_even) _ _ from ⟨rfl, by decide +kernel, by decide +kernel, by decide +kernel, by decide +kernel⟩) (fun s H Ca cl fp C => jg_name (pg_name C.nd rfl (by first | exact .inl rfl | exact .inr rfl))) (fun s H Ca cl fp C => jts_nil) (fun s H Ca cl fp C => je_ix x_idx (.ofE (je_var (pv 5))) (.ofE (je_int)) (fun _ _ => rfl)) (by decide)))))))) (jss_cons (js_setL C.nd rfl (by first | exact .inl rfl | exact .inr rfl) (jf_lst (jae_nil))) (jss_cons (js_setL C.nd rfl (by first | exact .inl rfl | exact .inr rfl) (jf_lst (jae_nil))) (jss_cons (js_for C S (ji0_enum rfl Z.b_enumerate (jae_cons (je_var (pv 0)) (jae_nil))) (jg_tup C.calm (jgs_cons (jg_name (pg_name C.nd rfl (by first | exact .inl rfl | exact .inr rfl))) (jgs_cons (jg_name (pg_name C.nd rfl (by first | exact .inl rfl | exact .inr rfl))) (jgs_nil)))) (jss_cons (js_set C.nd rfl (by first | exact .inl rfl | exact .inr rfl) (je_bin p_xor (.ofE (je_bin p_shl (.ofE (je_int)) (.ofE (je_meth (m_index C) PySem.F.plainAttrs_list PySem.F.slot_list_index PySem.F.type_list_index (.ofE (je_var (pv 1))) (ja_cons (.ofE (je_ix x_idx (.ofE (je_var (pv 5))) (.ofE (je_int)) (fun _ _ => rfl))) (ja_nil)))))) (.ofE (je_bin p_shl (.ofE (je_int)) (.ofE (je_meth (m_index C) PySem.F.plainAttrs_list PySem.F.slot_list_index PySem.F.type_list_index (.ofE (je_var (pv 1))) (ja_cons (.ofE (je_ix x_idx (.ofE (je_var (pv 5))) (.ofE (je_int)) (fun _ _ => rfl))) (ja_nil)))))))) (jss_cons (js_set C.nd rfl (by first | exact .inl rfl | exact .inr rfl) (je_bin p_shl (.ofE (je_int)) (.ofE (je_var (pv 4))))) (jss_cons (js_forH C S (pv 2) (jg_tup C.calm (jgs_cons (jg_name (pg_name C.nd rfl (by first | exact .inl rfl | exact .inr rfl))) (jgs_cons (jg_name (pg_name C.nd rfl (by first | exact .inl rfl | exact .inr rfl))) (jgs_nil)))) (jss_one (js_if (jt_cmp (o_ne C) (.ofE (je_bin p_and (.ofE (je_bin p_and (.ofE (je_var (pv 6))) (.ofE (je_var (pv 8))))) (.ofE (jp_neg (.ofE (je_var (pv 8))))))) (.ofE (je_int)) rfl) (jss_cons (js_set C.nd rfl (by first | exact .inl rfl | exact .inr rfl) (je_bin p_xor (.ofE (je_var (pv 6))) (.ofE (je_var (pv 8))))) (jss_one (js_set C.nd rfl (by first | exact .inl rfl | exact .inr rfl) (je_bin p_xor (.ofE (je_var (pv 7))) (.ofE (je_var (pv 9))))))) (jss_nil)))) (jss_one (js_if (jt_cmp (o_eq C) (.ofE (je_var (pv 6))) (.ofE (je_int)) rfl) (jss_one (js_app (pv 3) (je_var (pv 7)))) (jss_one (js_app (pv 2) (je_tup (jae_cons (je_var (pv 6)) (jae_cons (je_var (pv 7)) (jae_nil)))))))))))) (jss_one (js_retO (pv 3))))))
/-! _law_with_more -/
abbrev N_with_more : List Str := ["_law_base", "_law_many", "_law_big_here", "_law_most", "_law_way", "_law_mate", "_law_step"]
theorem sc_with_more : FnScope N_with_more ["_law_base", "_law_many", "_law_big_here", "_law_most"] (defScope st_with_more) := ⟨rfl, rfl, rfl, by decide +kernel, rfl, by decide +kernel, by decide +kernel⟩
theorem h_with_more (Z : Fs K mg) : Has P w K mg base 1 "_law_with_more" 4 f_with_more := has_fd Z.d_with_more sc_with_more fun f cdv A outer s H EE C S => jss_cons (js_while fu_with_more_0 S (jt_cmp (p_lt) (.ofE (je_var (pv 1))) (.ofE (je_var (pv 3))) rfl) (jss_cons (js_set C.nd rfl (by first | exact .inl rfl | exact .inr rfl) (je_bin p_mod (.ofE (je_var (pv 2))) (.ofE (je_int)))) (jss_cons (js_set C.nd rfl (by first | exact .inl rfl | exact .inr rfl) (je_bin p_mod (.ofE (je_bin p_div (.ofE (je_var (pv 2))) (.ofE (je_int)))) (.ofE (je_var (pv 1))))) (jss_cons (js_set C.nd rfl (by first | exact .inl rfl | exact .inr rfl) (je_bin p_div (.ofE (je_bin p_div (.ofE (je_var (pv 2))) (.ofE (je_int)))) (.ofE (je_var (pv 1))))) (jss_cons (js_if (jt_w (jw_and (jt_cmp (o_eq C) (.ofE (je_var (pv 4))) (.ofE (je_int)) rfl) (jw_and1 (jt_cmp (p_lt) (.ofE (je_callB k_len rfl Z.b_len bt_len (ja_cons (.ofE (je_var (pv 0))) (ja_nil)))) (.ofE (je_int)) rfl)))) (jss_one (js_set C.nd rfl (by first | exact .inl rfl | exact .inr rfl) (JE.ofF (jf_bin o_addL (.ofE (je_var (pv 0))) (.ofF (jf_lst (jae_cons (je_bin p_shl (.ofE (je_int)) (.ofE (je_var (pv 1)))) (jae_nil)))))))) (jss_one (js_if (jt_w (jw_and (jt_cmp (o_eq C) (.ofE (je_var (pv 4))) (.ofE (je_int)) rfl) (jw_and1 (jt_cmp (p_lt) (.ofE (je_callB k_len rfl Z.b_len bt_len (ja_cons (.ofE (je_var (pv 0))) (ja_nil)))) (.ofE (je_int)) rfl)))) (jss_one (js_set C.nd rfl (by first | exact .inl rfl | exact .inr rfl) (JE.ofF (jf_bin o_addL (.ofE (je_var (pv 0))) (.ofF (jf_lst (jae_cons (je_bin p_or (.ofE (je_bin p_shl (.ofE (je_int)) (.ofE (je_var (pv 1))))) (.ofE (je_bin p_shl (.ofE (je_int)) (.ofE (je_var (pv 5)))))) (jae_nil)))))))) (jss_one (js_if (jt_cmp (o_eq C) (.ofE (je_var (pv 4))) (.ofE (je_int)) rfl) (jss_one (js_lcC [("_law_step", 6)] C rfl rfl (sw_true rfl rfl rfl rfl) (ji_list (.ofE (je_var (pv 0)))) (show BlkOk N_with_more (defScope st_with_more) _ _ from ⟨rfl, by decide +kernel, by decide +kernel, by decide +kernel, by decide +kernel⟩) (fun s H Ca cl fp C => jg_name (pg_name C.nd rfl (by first | exact .inl rfl | exact .inr rfl))) (fun s H Ca cl fp C => jts_nil) (fun s H Ca cl fp C => je_bin p_or (.ofE (je_var (pv 6))) (.ofE (je_bin p_shl (.ofE (je_bin p_and (.ofE (je_bin p_shr (.ofE (je_var (pv 6))) (.ofE (je_var (pv 5))))) (.ofE (je_int)))) (.ofE (je_var (pv 1)))))) (by decide))) (jss_nil)))))) (jss_one (js_aug C.nd rfl (by first | exact .inl rfl | exact .inr rfl) (je_int) ip_add))))))) (jss_one (js_ret (je_var (pv 0))))
/-! _law_row -/
abbrev N_row : List Str := ["_law_names_here", "_law_number", "_law_k", "_law_name"]
theorem sc_row : FnScope N_row ["_law_names_here", "_law_number"] (defScope st_row) := ⟨rfl, rfl, rfl, by decide +kernel, rfl, by decide +kernel, by decide +kernel⟩
theorem h_row (Z : Fs K mg) : HasL P w K mg base 1 "_law_row" 2 f_row := has_fdL Z.d_row sc_row fun f cdv A outer s H EE C S => jss_one (js_retL (jf_lcC [("_law_k", 2), ("_law_name", 3)] C (ji_enum rfl Z.b_enumerate (ja_cons (.ofE (je_var (pv 0))) (ja_nil))) (show BlkOk N_row (defScope st_row) _ _ from ⟨rfl, by decide +kernel, by decide +kernel, by decide +kernel, by decide +kernel⟩) (fun s H Ca cl fp C => jg_tup C.calm (jgs_cons (jg_name (pg_name C.nd rfl (by first | exact .inl rfl | exact .inr rfl))) (jgs_cons (jg_name (pg_name C.nd rfl (by first | exact .inl rfl | exact .inr rfl))) (jgs_nil)))) (fun s H Ca cl fp C => jts_one (jt_cmp (o_eq C) (.ofE (je_bin p_and (.ofE (je_bin p_shr (.ofE (je_var (pv 1))) (.ofE (je_var (pv 2))))) (.ofE (je_int)))) (.ofE (je_int)) rfl)) (fun s H Ca cl fp C => je_var (pv 3)) (by decide)))
/-! _law_free -/
abbrev N_free : List Str := ["_law_big_here", "_law_many", "_law_found", "_law_k"]
theorem sc_free : FnScope N_free ["_law_big_here", "_law_many"] (defScope st_free) := ⟨rfl, rfl, rfl, by decide +kernel, rfl, by decide +kernel, by decide +kernel⟩
theorem h_free (Z : Fs K mg) : HasL P w K mg base 1 "_law_free" 2 f_free := has_fdL Z.d_free sc_free fun f cdv A outer s H EE C S => jss_cons (js_setL C.nd rfl (by first | exact .inl rfl | exact .inr rfl) (jf_lst (jae_nil))) (jss_cons (js_for C S (ji0_range1 rfl Z.b_range (ja_cons (.ofE (je_bin p_mod (.ofE (je_var (pv 0))) (.ofE (je_int)))) (ja_nil))) (jg_name (pg_name C.nd rfl (by first | exact .inl rfl | exact .inr rfl))) (jss_cons (js_app (pv 2) (je_bin p_mod (.ofE (je_bin p_div (.ofE (je_var (pv 0))) (.ofE (je_int)))) (.ofE (je_bin p_shl (.ofE (je_int)) (.ofE (je_var (pv 1))))))) (jss_one (js_set C.nd rfl (by first | exact .inl rfl | exact .inr rfl) (je_bin p_shr (.ofE (je_bin p_div (.ofE (je_var (pv 0))) (.ofE (je_int)))) (.ofE (je_var (pv 1)))))))) (jss_one (js_retO (pv 2))))
/-! _law_copy -/
abbrev N_copy : List Str := ["_law_table_here", "_law_row_here"]
theorem sc_copy : FnScope N_copy ["_law_table_here"] (defScope st_copy) := ⟨rfl, rfl, rfl, by decide +kernel, rfl, by decide +kernel, by decide +kernel⟩
theorem h_copy (Z : Fs K mg) : Has P w K mg base 1 "_law_copy" 1 f_copy := has_fd Z.d_copy sc_copy fun f cdv A outer s H EE C S => jss_one (js_ret (je_tup (jae_cons (JE.ofF (jf_callTy k_list rfl Z.b_list bt_list (ja_cons (.ofE (je_ix x_idx (.ofE (je_var (pv 0))) (.ofE (je_int)) (fun _ _ => rfl))) (ja_nil)))) (jae_cons (JE.ofF (jf_lcC [("_law_row_here", 1)] C (ji_list (.ofE (je_ix x_idx (.ofE (je_var (pv 0))) (.ofE (je_int)) (fun _ _ => rfl)))) (show BlkOk N_copy (defScope st_copy) _ _ from ⟨rfl, by decide +kernel, by decide +kernel, by decide +kernel, by decide +kernel⟩) (fun s H Ca cl fp C => jg_name (pg_name C.nd rfl (by first | exact .inl rfl | exact .inr rfl))) (fun s H Ca cl fp C => jts_nil) (fun s H Ca cl fp C => JE.ofF (jf_callTy k_list rfl Z.b_list bt_list (ja_cons (.ofE (je_var (pv 1))) (ja_nil)))) (by decide))) (jae_nil)))))
/-! _law_same_table -/
abbrev N_same_table : List Str := ["_law_found", "_law_due", "_law_row_here"]
theorem sc_same_table : FnScope N_same_table ["_law_found", "_law_due"] (defScope st_same_table) := ⟨rfl, rfl, rfl, by decide +kernel, rfl, by decide +kernel, by decide +kernel⟩
theorem h_same_table (Z : Fs K mg) : Has P w K mg base 1 "_law_same_table" 2 f_same_table := has_fd Z.d_same_table sc_same_table fun f cdv A outer s H EE C S => jss_cons (js_if (jt_w (jw_or (jt_not (jt_val (je_isi rfl Z.b_isinstance (.ofE (je_var (pv 0))) rfl Z.b_tuple bt_tuple))) (jw_or (jt_cmp (o_ne C) (.ofE (je_callB k_len rfl Z.b_len bt_len (ja_cons (.ofE (je_var (pv 0))) (ja_nil)))) (.ofE (je_int)) rfl) (jw_or1 (jt_not (jt_val (je_isi rfl Z.b_isinstance (.ofE (je_ix x_idx (.ofE (je_var (pv 0))) (.ofE (je_int)) (fun _ _ => rfl))) rfl Z.b_list bt_list))))))) (jss_one (js_ret (je_bl))) (jss_nil)) (jss_one (js_ret (je_and (je_isi rfl Z.b_isinstance (.ofE (je_ix x_idx (.ofE (je_var (pv 0))) (.ofE (je_int)) (fun _ _ => rfl))) rfl Z.b_list bt_list) (je_and (je_callB (k_all C) rfl Z.b_all bt_all (ja_cons (.ofF (jf_lcC [("_law_row_here", 2)] C (ji_list (.ofE (je_ix x_idx (.ofE (je_var (pv 0))) (.ofE (je_int)) (fun _ _ => rfl)))) (show BlkOk N_same_table (defScope st_same_table) _ _ from ⟨rfl, by decide +kernel, by decide +kernel, by decide +kernel, by decide +kernel⟩) (fun s H Ca cl fp C => jg_name (pg_name C.nd rfl (by first | exact .inl rfl | exact .inr rfl))) (fun s H Ca cl fp C => jts_nil) (fun s H Ca cl fp C => je_isi rfl Z.b_isinstance (.ofE (je_var (pv 2))) rfl Z.b_list bt_list) (by decide))) (ja_nil))) (je_one (je_cmp (o_eq C) (.ofE (je_var (pv 0))) (.ofE (je_var (pv 1))) rfl))))))
/-! _law_same_net -/
abbrev N_same_net : List Str := ["_law_found", "_law_due", "_law_tie"]
theorem sc_same_net : FnScope N_same_net ["_law_found", "_law_due"] (defScope st_same_net) := ⟨rfl, rfl, rfl, by decide +kernel, rfl, by decide +kernel, by decide +kernel⟩
theorem h_same_net (Z : Fs K mg) : Has P w K mg base 1 "_law_same_net" 2 f_same_net := has_fd Z.d_same_net sc_same_net fun f cdv A outer s H EE C S => jss_cons (js_if (jt_w (jw_or (jt_not (jt_val (je_isi rfl Z.b_isinstance (.ofE (je_var (pv 0))) rfl Z.b_list bt_list))) (jw_or1 (jt_not (jt_val (je_callB (k_all C) rfl Z.b_all bt_all (ja_cons (.ofF (jf_lcC [("_law_tie", 2)] C (ji_list (.ofE (je_var (pv 0)))) (show BlkOk N_same_net (defScope st_same_net) _ _ from ⟨rfl, by decide +kernel, by decide +kernel, by decide +kernel, by decide +kernel⟩) (fun s H Ca cl fp C => jg_name (pg_name C.nd rfl (by first | exact .inl rfl | exact .inr rfl))) (fun s H Ca cl fp C => jts_nil) (fun s H Ca cl fp C => je_isi rfl Z.b_isinstance (.ofE (je_var (pv 2))) rfl Z.b_tuple bt_tuple) (by decide))) (ja_nil)))))))) (jss_one (js_ret (je_bl))) (jss_nil)) (jss_one (js_ret (je_cmp (o_eq C) (.ofE (je_var (pv 0))) (.ofE (je_var (pv 1))) rfl)))
/-! _law_written -/
abbrev N_written : List Str := ["_law_row_here", "_law_text", "_law_name"]
theorem sc_written : FnScope N_written ["_law_row_here"] (defScope st_written) := ⟨rfl, rfl, rfl, by decide +kernel, rfl, by decide +kernel, by decide +kernel⟩
theorem h_written (Z : Fs K mg) : Has P w K mg base 1 "_law_written" 1 f_written := has_fd Z.d_written sc_written fun f cdv A outer s H EE C S => jss_cons (js_if (jt_cmp (o_eq C) (.ofE (je_var (pv 0))) (.ofF (jf_lst (jae_nil))) rfl) (jss_one (js_ret (je_str))) (jss_nil)) (jss_cons (js_set C.nd rfl (by first | exact .inl rfl | exact .inr rfl) (je_ix x_idx (.ofE (je_var (pv 0))) (.ofE (je_int)) (fun _ _ => rfl))) (jss_cons (js_for C S (ji0_list (JE.ofF (jf_sl x_slL (.ofE (je_var (pv 0))) (jo_some (je_int)) (jo_none)))) (jg_name (pg_name C.nd rfl (by first | exact .inl rfl | exact .inr rfl))) (jss_one (js_set C.nd rfl (by first | exact .inl rfl | exact .inr rfl) (je_bin o_add (.ofE (je_bin o_add (.ofE (je_var (pv 1))) (.ofE (je_str)))) (.ofE (je_var (pv 2))))))) (jss_one (js_ret (je_var (pv 1))))))
/-! _law_net_written -/
abbrev N_net_written : List Str := ["_law_net_here", "_law_text", "_law_tie", "_law_one", "_law_other"]
theorem sc_net_written : FnScope N_net_written ["_law_net_here"] (defScope st_net_written) := ⟨rfl, rfl, rfl, by decide +kernel, rfl, by decide +kernel, by decide +kernel⟩
theorem h_net_written (Z : Fs K mg) : Has P w K mg base 1 "_law_net_written" 1 f_net_written := has_fd Z.d_net_written sc_net_written fun f cdv A outer s H EE C S => jss_cons (js_if (jt_cmp (o_eq C) (.ofE (je_var (pv 0))) (.ofF (jf_lst (jae_nil))) rfl) (jss_one (js_ret (je_str))) (jss_nil)) (jss_cons (js_set C.nd rfl (by first | exact .inl rfl | exact .inr rfl) (je_str)) (jss_cons (js_for C S (ji0_list (je_var (pv 0))) (jg_tup C.calm (jgs_cons (jg_name (pg_name C.nd rfl (by first | exact .inl rfl | exact .inr rfl))) (jgs_cons (jg_name (pg_name C.nd rfl (by first | exact .inl rfl | exact .inr rfl))) (jgs_cons (jg_name (pg_name C.nd rfl (by first | exact .inl rfl | exact .inr rfl))) (jgs_nil))))) (jss_one (js_set C.nd rfl (by first | exact .inl rfl | exact .inr rfl) (je_bin o_add (.ofE (je_bin o_add (.ofE (je_bin o_add (.ofE (je_bin o_add (.ofE (je_bin o_add (.ofE (je_bin o_add (.ofE (je_var (pv 1))) (.ofE (je_str)))) (.ofE (je_var (pv 2))))) (.ofE (je_str)))) (.ofE (je_var (pv 3))))) (.ofE (je_str)))) (.ofE (je_var (pv 4))))))) (jss_one (js_ret (je_sl x_slS (.ofE (je_var (pv 1))) (jo_some (je_int)) (jo_none))))))
/-! is_row -/
abbrev N_is_row : List Str := ["thing", "one", "k"]
theorem sc_is_row : FnScope N_is_row ["thing"] (defScope st_is_row) := ⟨rfl, rfl, rfl, by decide +kernel, rfl, by decide +kernel, by decide +kernel⟩
theorem h_is_row (Z : Fs K mg) : Has P w K mg base 2 "is_row" 1 f_is_row := has_fd Z.d_is_row sc_is_row fun f cdv A outer s H EE C S => jss_cons (js_if (jt_w (jw_or (jt_not (jt_val (je_isi rfl Z.b_isinstance (.ofE (je_var (pv 0))) rfl Z.b_list bt_list))) (jw_or1 (jt_not (jt_val (je_callB (k_all C) rfl Z.b_all bt_all (ja_cons (.ofF (jf_lcC [("one", 1)] C (ji_list (.ofE (je_var (pv 0)))) (show BlkOk N_is_row (defScope st_is_row) _ _ from ⟨rfl, by decide +kernel, by decide +kernel, by decide +kernel, by decide +kernel⟩) (fun s H Ca cl fp C => jg_name (pg_name C.nd rfl (by first | exact .inl rfl | exact .inr rfl))) (fun s H Ca cl fp C => jts_nil) (fun s H Ca cl fp C => je_call C ((h_is_name Z).mono (by decide)) rfl (jae_cons (je_var (pv 1)) (jae_nil))) (by decide))) (ja_nil)))))))) (jss_one (js_ret (je_bl))) (jss_nil)) (jss_one (js_ret (je_callB (k_all C) rfl Z.b_all bt_all (ja_cons (.ofF (jf_lcC [("k", 2)] C (.of0 (ji0_range1 rfl Z.b_range (ja_cons (.ofE (je_bin p_sub (.ofE (je_callB k_len rfl Z.b_len bt_len (ja_cons (.ofE (je_var (pv 0))) (ja_nil)))) (.ofE (je_int)))) (ja_nil)))) (show BlkOk N_is_row (defScope st_is_row) _ _ from ⟨rfl, by decide +kernel, by decide +kernel, by decide +kernel, by decide +kernel⟩) (fun s H Ca cl fp C => jg_name (pg_name C.nd rfl (by first | exact .inl rfl | exact .inr rfl))) (fun s H Ca cl fp C => jts_nil) (fun s H Ca cl fp C => je_cmp (p_lt) (.ofE (je_ix x_idx (.ofE (je_var (pv 0))) (.ofE (je_var (pv 2))) (fun _ _ => rfl))) (.ofE (je_ix x_idx (.ofE (je_var (pv 0))) (.ofE (je_bin o_add (.ofE (je_var (pv 2))) (.ofE (je_int)))) (fun _ _ => rfl))) rfl) (by decide))) (ja_nil)))))
/-! is_tie -/
abbrev N_is_tie : List Str := ["thing", "part"]
theorem sc_is_tie : FnScope N_is_tie ["thing"] (defScope st_is_tie) := ⟨rfl, rfl, rfl, by decide +kernel, rfl, by decide +kernel, by decide +kernel⟩
theorem h_is_tie (Z : Fs K mg) : Has P w K mg base 2 "is_tie" 1 f_is_tie := has_fd Z.d_is_tie sc_is_tie fun f cdv A outer s H EE C S => jss_cons (js_if (jt_w (jw_or (jt_not (jt_val (je_isi rfl Z.b_isinstance (.ofE (je_var (pv 0))) rfl Z.b_tuple bt_tuple))) (jw_or1 (jt_cmp (o_ne C) (.ofE (je_callB k_len rfl Z.b_len bt_len (ja_cons (.ofE (je_var (pv 0))) (ja_nil)))) (.ofE (je_int)) rfl)))) (jss_one (js_ret (je_bl))) (jss_nil)) (jss_one (js_ret (je_and (je_callB (k_all C) rfl Z.b_all bt_all (ja_cons (.ofF (jf_lcC [("part", 1)] C (.of0 (ji0_tup (je_var (pv 0)))) (show BlkOk N_is_tie (defScope st_is_tie) _ _ from ⟨rfl, by decide +kernel, by decide +kernel, by decide +kernel, by decide +kernel⟩) (fun s H Ca cl fp C => jg_name (pg_name C.nd rfl (by first | exact .inl rfl | exact .inr rfl))) (fun s H Ca cl fp C => jts_nil) (fun s H Ca cl fp C => je_call C ((h_is_name Z).mono (by decide)) rfl (jae_cons (je_var (pv 1)) (jae_nil))) (by decide))) (ja_nil))) (je_one (je_cmp (p_le) (.ofE (je_ix x_idx (.ofE (je_var (pv 0))) (.ofE (je_int)) (fun _ _ => rfl))) (.ofE (je_ix x_idx (.ofE (je_var (pv 0))) (.ofE (je_int)) (fun _ _ => rfl))) rfl)))))
/-! pieces -/
abbrev N_pieces : List Str := ["net", "names", "tie", "heap"]
theorem sc_pieces : FnScope N_pieces ["net"] (defScope st_pieces) := ⟨rfl, rfl, rfl, by decide +kernel, rfl, by decide +kernel, by decide +kernel⟩
theorem h_pieces (Z : Fs K mg) : HasL P w K mg base 2 "pieces" 1 f_pieces := has_fdL Z.d_pieces sc_pieces fun f cdv A outer s H EE C S => jss_cons (js_lcC [("tie", 2)] C rfl rfl (sw_true rfl rfl rfl rfl) (ji_list (.ofE (je_var (pv 0)))) (show BlkOk N_pieces (defScope st_pieces) _ _ from ⟨rfl, by decide +kernel, by decide +kernel, by decide +kernel, by decide +kernel⟩) (fun s H Ca cl fp C => jg_name (pg_name C.nd rfl (by first | exact .inl rfl | exact .inr rfl))) (fun s H Ca cl fp C => jts_nil) (fun s H Ca cl fp C => je_ix x_idx (.ofE (je_var (pv 2))) (.ofE (je_int)) (fun _ _ => rfl)) (by decide)) (jss_one (js_retL (jf_callB (k_sorted C) rfl Z.b_sorted bt_sorted (ja_cons (.ofF (jf_lcC [("heap", 3)] C (ji_list (.ofE (je_call C ((h_heaps_of Z).mono (by decide)) rfl (jae_cons (je_var (pv 0)) (jae_cons (je_var (pv 1)) (jae_nil)))))) (show BlkOk N_pieces (defScope st_pieces) _ _ from ⟨rfl, by decide +kernel, by decide +kernel, by decide +kernel, by decide +kernel⟩) (fun s H Ca cl fp C => jg_name (pg_name C.nd rfl (by first | exact .inl rfl | exact .inr rfl))) (fun s H Ca cl fp C => jts_nil) (fun s H Ca cl fp C => JE.ofF (jf_callB (k_sorted C) rfl Z.b_sorted bt_sorted (ja_cons (.ofE (je_ix x_idx (.ofE (je_var (pv 3))) (.ofE (je_int)) (fun _ _ => rfl))) (ja_nil)))) (by decide))) (ja_nil)))))
/-! show_table -/
abbrev N_show_table : List Str := ["table", "row"]
theorem sc_show_table : FnScope N_show_table ["table"] (defScope st_show_table) := ⟨rfl, rfl, rfl, by decide +kernel, rfl, by decide +kernel, by decide +kernel⟩
theorem h_show_table (Z : Fs K mg) : Has P w K mg base 2 "show_table" 1 f_show_table := has_fd Z.d_show_table sc_show_table fun f cdv A outer s H EE C S => jss_one (js_ret (je_meth m_join PySem.F.plainAttrs_str PySem.F.slot_str_join PySem.F.type_str_join (.ofE (je_str)) (ja_cons (.ofF (jf_lcC [("row", 1)] C (ji_list (.ofF (jf_bin o_addL (.ofF (jf_lst (jae_cons (je_ix x_idx (.ofE (je_var (pv 0))) (.ofE (je_int)) (fun _ _ => rfl)) (jae_nil)))) (.ofE (je_ix x_idx (.ofE (je_var (pv 0))) (.ofE (je_int)) (fun _ _ => rfl)))))) (show BlkOk N_show_table (defScope st_show_table) _ _ from ⟨rfl, by decide +kernel, by decide +kernel, by decide +kernel, by decide +kernel⟩) (fun s H Ca cl fp C => jg_name (pg_name C.nd rfl (by first | exact .inl rfl | exact .inr rfl))) (fun s H Ca cl fp C => jts_nil) (fun s H Ca cl fp C => je_call C ((h_show_row Z).mono (by decide)) rfl (jae_cons (je_var (pv 1)) (jae_nil))) (by decide))) (ja_nil))))
/-! read_tie -/
abbrev N_read_tie : List Str := ["text", "words"]
theorem sc_read_tie : FnScope N_read_tie ["text"] (defScope st_read_tie) := ⟨rfl, rfl, rfl, by decide +kernel, rfl, by decide +kernel, by decide +kernel⟩
theorem h_read_tie (Z : Fs K mg) : Has P w K mg base 2 "read_tie" 1 f_read_tie := has_fd Z.d_read_tie sc_read_tie fun f cdv A outer s H EE C S => jss_cons (js_set C.nd rfl (by first | exact .inl rfl | exact .inr rfl) (JE.ofF (jf_meth m_split PySem.F.plainAttrs_str PySem.F.slot_str_split PySem.F.type_str_split (.ofE (je_var (pv 0))) (ja_cons (.ofE (je_str)) (ja_nil))))) (jss_cons (js_expr (je_call C ((h_look Z).mono (by decide)) rfl (jae_cons (je_cmp (o_eq C) (.ofE (je_callB k_len rfl Z.b_len bt_len (ja_cons (.ofE (je_var (pv 1))) (ja_nil)))) (.ofE (je_int)) rfl) (jae_nil)))) (jss_one (js_ret (je_tup (jae_cons (je_ix x_idx (.ofE (je_var (pv 1))) (.ofE (je_int)) (fun _ _ => rfl)) (jae_cons (je_ix x_idx (.ofE (je_var (pv 1))) (.ofE (je_int)) (fun _ _ => rfl)) (jae_cons (je_ix x_idx (.ofE (je_var (pv 1))) (.ofE (je_int)) (fun _ _ => rfl)) (jae_nil))))))))
/-! _law_big -/
abbrev N_big : List Str := ["_law_script", "_law_k", "_law_x", "_law_total", "_law_j"]
theorem sc_big : FnScope N_big ["_law_script", "_law_k"] (defScope st_big) := ⟨rfl, rfl, rfl, by decide +kernel, rfl, by decide +kernel, by decide +kernel⟩
theorem h_big (Z : Fs K mg) : Has P w K mg base 2 "_law_big" 2 f_big := has_fd Z.d_big sc_big fun f cdv A outer s H EE C S => jss_cons (js_if (jt_cmp (p_ge) (.ofE (je_callB k_abs rfl Z.b_abs bt_abs (ja_cons (.ofE (je_call C ((h_cell_at Z).mono (by decide)) rfl (jae_cons (je_var (pv 0)) (jae_cons (je_var (pv 1)) (jae_nil))))) (ja_nil)))) (.ofE (je_bin p_pow (.ofE (je_int)) (.ofE (je_int)))) rfl) (jss_one (js_ret (je_bin p_sub (.ofE (je_callB k_abs rfl Z.b_abs bt_abs (ja_cons (.ofE (je_call C ((h_cell_at Z).mono (by decide)) rfl (jae_cons (je_var (pv 0)) (jae_cons (je_var (pv 1)) (jae_nil))))) (ja_nil)))) (.ofE (je_bin p_pow (.ofE (je_int)) (.ofE (je_int))))))) (jss_nil)) (jss_cons (js_set C.nd rfl (by first | exact .inl rfl | exact .inr rfl) (je_bin o_add (.ofE (je_bin o_add (.ofE (je_bin o_add (.ofE (je_bin p_mod (.ofE (je_call C ((h_cell_at Z).mono (by decide)) rfl (jae_cons (je_var (pv 0)) (jae_cons (je_int) (jae_nil))))) (.ofE (je_int)))) (.ofE (je_bin o_mul (.ofE (je_int)) (.ofE (je_var (pv 1))))))) (.ofE (je_bin o_mul (.ofE (je_int)) (.ofE (je_call C ((h_cell_at Z).mono (by decide)) rfl (jae_cons (je_var (pv 0)) (jae_cons (je_var (pv 1)) (jae_nil))))))))) (.ofE (je_int)))) (jss_cons (js_set C.nd rfl (by first | exact .inl rfl | exact .inr rfl) (je_bin o_add (.ofE (je_bin p_mod (.ofE (je_var (pv 2))) (.ofE (je_int)))) (.ofE (je_int)))) (jss_cons (js_set C.nd rfl (by first | exact .inl rfl | exact .inr rfl) (je_int)) (jss_cons (js_for C S (ji0_range1 rfl Z.b_range (ja_cons (.ofE (je_int)) (ja_nil))) (jg_name (pg_name C.nd rfl (by first | exact .inl rfl | exact .inr rfl))) (jss_cons (js_set C.nd rfl (by first | exact .inl rfl | exact .inr rfl) (je_bin p_mod (.ofE (je_bin o_add (.ofE (je_bin o_add (.ofE (je_bin o_add (.ofE (je_bin o_mul (.ofE (je_var (pv 2))) (.ofE (je_int)))) (.ofE (je_bin p_div (.ofE (je_var (pv 2))) (.ofE (je_int)))))) (.ofE (je_bin o_mul (.ofE (je_bin o_mul (.ofE (je_int)) (.ofE (je_var (pv 4))))) (.ofE (je_var (pv 4))))))) (.ofE (je_var (pv 1))))) (.ofE (je_int)))) (jss_one (js_set C.nd rfl (by first | exact .inl rfl | exact .inr rfl) (je_bin o_add (.ofE (je_bin o_mul (.ofE (je_var (pv 3))) (.ofE (je_int)))) (.ofE (je_bin p_mod (.ofE (je_bin o_mul (.ofE (je_var (pv 2))) (.ofE (je_int)))) (.ofE (je_int))))))))) (jss_one (js_ret (je_var (pv 3))))))))
/-! _law_crossing -/
abbrev N_crossing : List Str := ["_law_numbers", "_law_many", "_law_rows", "_law_fronts", "_law_found", "_law_place", "_law_row_here"]
theorem sc_crossing : FnScope N_crossing ["_law_numbers", "_law_many"] (defScope st_crossing) := ⟨rfl, rfl, rfl, by decide +kernel, rfl, by decide +kernel, by decide +kernel⟩
theorem h_crossing (Z : Fs K mg) : HasL P w K mg base 2 "_law_crossing" 2 f_crossing := has_fdL Z.d_crossing sc_crossing fun f cdv A outer s H EE C S => jss_cons (js_set C.nd rfl (by first | exact .inl rfl | exact .inr rfl) (je_call C ((h__law_reduced Z).mono (by decide)) rfl (jae_cons (je_var (pv 0)) (jae_nil)))) (jss_cons (js_set C.nd rfl (by first | exact .inl rfl | exact .inr rfl) (je_callB (k_sum C) rfl Z.b_sum bt_sum (ja_cons (.ofF (jf_lcC [("_law_row_here", 6)] C (ji_list (.ofE (je_var (pv 2)))) (show BlkOk N_crossing (defScope st_crossing) _ _ from ⟨rfl, by decide +kernel, by decide +kernel, by decide +kernel, by decide +kernel⟩) (fun s H Ca cl fp C => jg_name (pg_name C.nd rfl (by first | exact .inl rfl | exact .inr rfl))) (fun s H Ca cl fp C => jts_nil) (fun s H Ca cl fp C => je_bin p_and (.ofE (je_var (pv 6))) (.ofE (jp_neg (.ofE (je_var (pv 6)))))) (by decide))) (ja_nil)))) (jss_cons (js_setL C.nd rfl (by first | exact .inl rfl | exact .inr rfl) (jf_lst (jae_nil))) (jss_cons (js_for C S (ji0_range1 rfl Z.b_range (ja_cons (.ofE (je_var (pv 1))) (ja_nil))) (jg_name (pg_name C.nd rfl (by first | exact .inl rfl | exact .inr rfl))) (jss_one (js_if (jt_cmp (o_eq C) (.ofE (je_bin p_and (.ofE (je_bin p_shr (.ofE (je_var (pv 3))) (.ofE (je_var (pv 5))))) (.ofE (je_int)))) (.ofE (je_int)) rfl) (jss_one (js_app (pv 4) (je_bin o_add (.ofE (je_bin p_shl (.ofE (je_int)) (.ofE (je_var (pv 5))))) (.ofE (je_callB (k_sum C) rfl Z.b_sum bt_sum (ja_cons (.ofF (jf_lcC [("_law_row_here", 6)] C (ji_list (.ofE (je_var (pv 2)))) (show BlkOk N_crossing (defScope st_crossing) _ _ from ⟨rfl, by decide +kernel, by decide +kernel, by decide +kernel, by decide +kernel⟩) (fun s H Ca cl fp C => jg_name (pg_name C.nd rfl (by first | exact .inl rfl | exact .inr rfl))) (fun s H Ca cl fp C => jts_one (jt_cmp (o_eq C) (.ofE (je_bin p_and (.ofE (je_bin p_shr (.ofE (je_var (pv 6))) (.ofE (je_var (pv 5))))) (.ofE (je_int)))) (.ofE (je_int)) rfl)) (fun s H Ca cl fp C => je_bin p_and (.ofE (je_var (pv 6))) (.ofE (jp_neg (.ofE (je_var (pv 6)))))) (by decide))) (ja_nil))))))) (jss_nil)))) (jss_one (js_retO (pv 4))))))
/-! _law_table_written -/
abbrev N_table_written : List Str := ["_law_table_here", "_law_text", "_law_row_here"]
theorem sc_table_written : FnScope N_table_written ["_law_table_here"] (defScope st_table_written) := ⟨rfl, rfl, rfl, by decide +kernel, rfl, by decide +kernel, by decide +kernel⟩
theorem h_table_written (Z : Fs K mg) : Has P w K mg base 2 "_law_table_written" 1 f_table_written := has_fd Z.d_table_written sc_table_written fun f cdv A outer s H EE C S => jss_cons (js_set C.nd rfl (by first | exact .inl rfl | exact .inr rfl) (je_call C ((h_written Z).mono (by decide)) rfl (jae_cons (je_ix x_idx (.ofE (je_var (pv 0))) (.ofE (je_int)) (fun _ _ => rfl)) (jae_nil)))) (jss_cons (js_for C S (ji0_list (je_ix x_idx (.ofE (je_var (pv 0))) (.ofE (je_int)) (fun _ _ => rfl))) (jg_name (pg_name C.nd rfl (by first | exact .inl rfl | exact .inr rfl))) (jss_one (js_set C.nd rfl (by first | exact .inl rfl | exact .inr rfl) (je_bin o_add (.ofE (je_bin o_add (.ofE (je_var (pv 1))) (.ofE (je_str)))) (.ofE (je_call C ((h_written Z).mono (by decide)) rfl (jae_cons (je_var (pv 2)) (jae_nil)))))))) (jss_one (js_ret (je_var (pv 1)))))
/-! reduced -/
abbrev N_reduced : List Str := ["numbers", "rows", "number", "row", "lead"]
theorem sc_reduced : FnScope N_reduced ["numbers"] (defScope st_reduced) := ⟨rfl, rfl, rfl, by decide +kernel, rfl, by decide +kernel, by decide +kernel⟩
theorem h_reduced (Z : Fs K mg) : HasL P w K mg base 3 "reduced" 1 f_reduced := has_fdL Z.d_reduced sc_reduced fun f cdv A outer s H EE C S => jss_cons (js_setL C.nd rfl (by first | exact .inl rfl | exact .inr rfl) (jf_lst (jae_nil))) (jss_cons (js_for C S (ji0_list (je_var (pv 0))) (jg_name (pg_name C.nd rfl (by first | exact .inl rfl | exact .inr rfl))) (jss_cons (js_forH C S (pv 1) (jg_name (pg_name C.nd rfl (by first | exact .inl rfl | exact .inr rfl))) (jss_one (js_if (jt_cmp (o_ne C) (.ofE (je_bin p_and (.ofE (je_var (pv 2))) (.ofE (je_call C ((h_lead_of Z).mono (by decide)) rfl (jae_cons (je_var (pv 3)) (jae_nil)))))) (.ofE (je_int)) rfl) (jss_one (js_set C.nd rfl (by first | exact .inl rfl | exact .inr rfl) (je_bin p_xor (.ofE (je_var (pv 2))) (.ofE (je_var (pv 3)))))) (jss_nil)))) (jss_one (js_if (jt_cmp (o_ne C) (.ofE (je_var (pv 2))) (.ofE (je_int)) rfl) (jss_cons (js_set C.nd rfl (by first | exact .inl rfl | exact .inr rfl) (je_call C ((h_lead_of Z).mono (by decide)) rfl (jae_cons (je_var (pv 2)) (jae_nil)))) (jss_cons (js_lcLC [("row", 3)] C rfl rfl (sw_true rfl rfl rfl rfl) (ji_list (jb_var (pv 1))) (show BlkOk N_reduced (defScope st_reduced) _ _ from ⟨rfl, by decide +kernel, by decide +kernel, by decide +kernel, by decide +kernel⟩) (fun s H Ca cl fp C => jg_name (pg_name C.nd rfl (by first | exact .inl rfl | exact .inr rfl))) (fun s H Ca cl fp C => jts_nil) (fun s H Ca cl fp C => je_if (jt_cmp (o_ne C) (.ofE (je_bin p_and (.ofE (je_var (pv 3))) (.ofE (je_var (pv 4))))) (.ofE (je_int)) rfl) (je_bin p_xor (.ofE (je_var (pv 3))) (.ofE (je_var (pv 2)))) (je_var (pv 3))) (by decide)) (jss_one (js_app (pv 1) (je_var (pv 2)))))) (jss_nil))))) (jss_one (js_retL (jf_sortK C (h_lead_of Z) (by decide) rfl rfl Z.b_sorted (jb_var (pv 1))))))
/-! are_rows_of -/
abbrev N_are_rows_of : List Str := ["thing", "names", "row", "name"]
theorem sc_are_rows_of : FnScope N_are_rows_of ["thing", "names"] (defScope st_are_rows_of) := ⟨rfl, rfl, rfl, by decide +kernel, rfl, by decide +kernel, by decide +kernel⟩
theorem h_are_rows_of (Z : Fs K mg) : Has P w K mg base 3 "are_rows_of" 2 f_are_rows_of := has_fd Z.d_are_rows_of sc_are_rows_of fun f cdv A outer s H EE C S => jss_cons (js_if (jt_w (jw_or (jt_not (jt_val (je_isi rfl Z.b_isinstance (.ofE (je_var (pv 0))) rfl Z.b_list bt_list))) (jw_or (jt_cmp (p_gt) (.ofE (je_callB k_len rfl Z.b_len bt_len (ja_cons (.ofE (je_var (pv 0))) (ja_nil)))) (.ofE (je_glob Z.c_MOST_ROWS rfl)) rfl) (jw_or1 (jt_not (jt_val (je_callB (k_all C) rfl Z.b_all bt_all (ja_cons (.ofF (jf_lcC [("row", 2)] C (ji_list (.ofE (je_var (pv 0)))) (show BlkOk N_are_rows_of (defScope st_are_rows_of) _ _ from ⟨rfl, by decide +kernel, by decide +kernel, by decide +kernel, by decide +kernel⟩) (fun s H Ca cl fp C => jg_name (pg_name C.nd rfl (by first | exact .inl rfl | exact .inr rfl))) (fun s H Ca cl fp C => jts_nil) (fun s H Ca cl fp C => je_call C ((h_is_row Z).mono (by decide)) rfl (jae_cons (je_var (pv 2)) (jae_nil))) (by decide))) (ja_nil))))))))) (jss_one (js_ret (je_bl))) (jss_nil)) (jss_cons (js_for C S (ji0_list (je_var (pv 0))) (jg_name (pg_name C.nd rfl (by first | exact .inl rfl | exact .inr rfl))) (jss_one (js_if (jt_not (jt_val (je_callB (k_all C) rfl Z.b_all bt_all (ja_cons (.ofF (jf_lcC [("name", 3)] C (ji_list (.ofE (je_var (pv 2)))) (show BlkOk N_are_rows_of (defScope st_are_rows_of) _ _ from ⟨rfl, by decide +kernel, by decide +kernel, by decide +kernel, by decide +kernel⟩) (fun s H Ca cl fp C => jg_name (pg_name C.nd rfl (by first | exact .inl rfl | exact .inr rfl))) (fun s H Ca cl fp C => jts_nil) (fun s H Ca cl fp C => je_cmp (o_in C) (.ofE (je_var (pv 3))) (.ofE (je_var (pv 1))) rfl) (by decide))) (ja_nil))))) (jss_one (js_ret (je_bl))) (jss_nil)))) (jss_one (js_ret (je_bl))))
/-! are_ties -/
abbrev N_are_ties : List Str := ["thing", "tie", "place"]
theorem sc_are_ties : FnScope N_are_ties ["thing"] (defScope st_are_ties) := ⟨rfl, rfl, rfl, by decide +kernel, rfl, by decide +kernel, by decide +kernel⟩
theorem h_are_ties (Z : Fs K mg) : Has P w K mg base 3 "are_ties" 1 f_are_ties := has_fd Z.d_are_ties sc_are_ties fun f cdv A outer s H EE C S => jss_cons (js_if (jt_w (jw_or (jt_not (jt_val (je_isi rfl Z.b_isinstance (.ofE (je_var (pv 0))) rfl Z.b_list bt_list))) (jw_or1 (jt_not (jt_val (je_callB (k_all C) rfl Z.b_all bt_all (ja_cons (.ofF (jf_lcC [("tie", 1)] C (ji_list (.ofE (je_var (pv 0)))) (show BlkOk N_are_ties (defScope st_are_ties) _ _ from ⟨rfl, by decide +kernel, by decide +kernel, by decide +kernel, by decide +kernel⟩) (fun s H Ca cl fp C => jg_name (pg_name C.nd rfl (by first | exact .inl rfl | exact .inr rfl))) (fun s H Ca cl fp C => jts_nil) (fun s H Ca cl fp C => je_call C ((h_is_tie Z).mono (by decide)) rfl (jae_cons (je_var (pv 1)) (jae_nil))) (by decide))) (ja_nil)))))))) (jss_one (js_ret (je_bl))) (jss_nil)) (jss_one (js_ret (je_callB (k_all C) rfl Z.b_all bt_all (ja_cons (.ofF (jf_lcC [("place", 2)] C (.of0 (ji0_range1 rfl Z.b_range (ja_cons (.ofE (je_bin p_sub (.ofE (je_callB k_len rfl Z.b_len bt_len (ja_cons (.ofE (je_var (pv 0))) (ja_nil)))) (.ofE (je_int)))) (ja_nil)))) (show BlkOk N_are_ties (defScope st_are_ties) _ _ from ⟨rfl, by decide +kernel, by decide +kernel, by decide +kernel, by decide +kernel⟩) (fun s H Ca cl fp C => jg_name (pg_name C.nd rfl (by first | exact .inl rfl | exact .inr rfl))) (fun s H Ca cl fp C => jts_nil) (fun s H Ca cl fp C => je_cmp (p_lt) (.ofE (je_ix x_idx (.ofE (je_ix x_idx (.ofE (je_var (pv 0))) (.ofE (je_var (pv 2))) (fun _ _ => rfl))) (.ofE (je_int)) (fun _ _ => rfl))) (.ofE (je_ix x_idx (.ofE (je_ix x_idx (.ofE (je_var (pv 0))) (.ofE (je_bin o_add (.ofE (je_var (pv 2))) (.ofE (je_int)))) (fun _ _ => rfl))) (.ofE (je_int)) (fun _ _ => rfl))) rfl) (by decide))) (ja_nil)))))
/-! is_bounded -/
abbrev N_is_bounded : List Str := ["net", "high"]
theorem sc_is_bounded : FnScope N_is_bounded ["net"] (defScope st_is_bounded) := ⟨rfl, rfl, rfl, by decide +kernel, rfl, by decide +kernel, by decide +kernel⟩
theorem h_is_bounded (Z : Fs K mg) : Has P w K mg base 3 "is_bounded" 1 f_is_bounded := has_fd Z.d_is_bounded sc_is_bounded fun f cdv A outer s H EE C S => jss_cons (js_if (jt_cmp (p_gt) (.ofE (je_callB k_len rfl Z.b_len bt_len (ja_cons (.ofE (je_var (pv 0))) (ja_nil)))) (.ofE (je_glob Z.c_MOST_NAMES rfl)) rfl) (jss_one (js_ret (je_bl))) (jss_nil)) (jss_cons (js_set C.nd rfl (by first | exact .inl rfl | exact .inr rfl) (je_bin p_sub (.ofE (je_callB k_len rfl Z.b_len bt_len (ja_cons (.ofF (jf_call C ((h_points Z).mono (by decide)) rfl (jae_cons (je_var (pv 0)) (jae_nil)))) (ja_nil)))) (.ofE (je_callB k_len rfl Z.b_len bt_len (ja_cons (.ofF (jf_call C ((h_pieces Z).mono (by decide)) rfl (jae_cons (je_var (pv 0)) (jae_nil)))) (ja_nil)))))) (jss_one (js_ret (je_and (je_cmp (p_le) (.ofE (je_var (pv 1))) (.ofE (je_glob Z.c_MOST_STEPS rfl)) rfl) (je_one (je_cmp (p_le) (.ofE (je_bin p_sub (.ofE (je_callB k_len rfl Z.b_len bt_len (ja_cons (.ofE (je_var (pv 0))) (ja_nil)))) (.ofE (je_var (pv 1))))) (.ofE (je_glob Z.c_MOST_STEPS rfl)) rfl))))))
/-! read_row -/
abbrev N_read_row : List Str := ["text", "row"]
theorem sc_read_row : FnScope N_read_row ["text"] (defScope st_read_row) := ⟨rfl, rfl, rfl, by decide +kernel, rfl, by decide +kernel, by decide +kernel⟩
theorem h_read_row (Z : Fs K mg) : Has P w K mg base 3 "read_row" 1 f_read_row := has_fd Z.d_read_row sc_read_row fun f cdv A outer s H EE C S => jss_cons (js_if (jt_cmp (o_eq C) (.ofE (je_var (pv 0))) (.ofE (je_str)) rfl) (jss_one (js_ret (JE.ofF (jf_lst (jae_nil))))) (jss_nil)) (jss_cons (js_set C.nd rfl (by first | exact .inl rfl | exact .inr rfl) (JE.ofF (jf_meth m_split PySem.F.plainAttrs_str PySem.F.slot_str_split PySem.F.type_str_split (.ofE (je_var (pv 0))) (ja_cons (.ofE (je_str)) (ja_nil))))) (jss_cons (js_expr (je_call C ((h_look Z).mono (by decide)) rfl (jae_cons (je_call C ((h_is_row Z).mono (by decide)) rfl (jae_cons (je_var (pv 1)) (jae_nil))) (jae_nil)))) (jss_one (js_ret (je_var (pv 1))))))
/-! _law_net -/
abbrev N_net : List Str := ["_law_script", "_law_at", "_law_head", "_law_ends_here", "_law_ties", "_law_knots", "_law_net_here", "_law_tie", "_law_two"]
theorem sc_net : FnScope N_net ["_law_script", "_law_at"] (defScope st_net) := ⟨rfl, rfl, rfl, by decide +kernel, rfl, by decide +kernel, by decide +kernel⟩
theorem h_net (Z : Fs K mg) : HasL P w K mg base 3 "_law_net" 2 f_net := has_fdL Z.d_net sc_net fun f cdv A outer s H EE C S => jss_cons (js_set C.nd rfl (by first | exact .inl rfl | exact .inr rfl) (je_call C ((h_big Z).mono (by decide)) rfl (jae_cons (je_var (pv 0)) (jae_cons (je_var (pv 1)) (jae_nil))))) (jss_cons (js_set C.nd rfl (by first | exact .inl rfl | exact .inr rfl) (JE.ofF (jf_call C ((h_ends Z).mono (by decide)) rfl (jae_cons (je_call C ((h_big Z).mono (by decide)) rfl (jae_cons (je_var (pv 0)) (jae_cons (je_bin o_add (.ofE (je_var (pv 1))) (.ofE (je_int))) (jae_nil)))) (jae_cons (je_bin p_mod (.ofE (je_bin p_div (.ofE (je_var (pv 2))) (.ofE (je_int)))) (.ofE (je_int))) (jae_cons (je_ix x_idx (.ofF (jf_lst (jae_cons (je_int) (jae_cons (je_int) (jae_cons (je_int) (jae_cons (je_int) (jae_cons (je_int) (jae_cons (je_int) (jae_cons (je_int) (jae_cons (je_int) (jae_nil))))))))))) (.ofE (je_bin p_mod (.ofE (je_var (pv 2))) (.ofE (je_int)))) (fun _ _ => rfl)) (jae_nil))))))) (jss_cons (js_set C.nd rfl (by first | exact .inl rfl | exact .inr rfl) (JE.ofF (jf_call C ((h_names Z).mono (by decide)) rfl (jae_cons (je_bin p_div (.ofE (je_var (pv 2))) (.ofE (je_int))) (jae_cons (je_callB k_len rfl Z.b_len bt_len (ja_cons (.ofE (je_var (pv 3))) (ja_nil))) (jae_nil)))))) (jss_cons (js_set C.nd rfl (by first | exact .inl rfl | exact .inr rfl) (JE.ofF (jf_call C ((h_names Z).mono (by decide)) rfl (jae_cons (je_call C ((h_big Z).mono (by decide)) rfl (jae_cons (je_var (pv 0)) (jae_cons (je_bin o_add (.ofE (je_var (pv 1))) (.ofE (je_int))) (jae_nil)))) (jae_cons (je_int) (jae_nil)))))) (jss_cons (js_setL C.nd rfl (by first | exact .inl rfl | exact .inr rfl) (jf_lst (jae_nil))) (jss_cons (js_for C S (ji0_zip rfl Z.b_zip (jae_cons (je_var (pv 4)) (jae_cons (je_var (pv 3)) (jae_nil)))) (jg_tup C.calm (jgs_cons (jg_name (pg_name C.nd rfl (by first | exact .inl rfl | exact .inr rfl))) (jgs_cons (jg_name (pg_name C.nd rfl (by first | exact .inl rfl | exact .inr rfl))) (jgs_nil)))) (jss_one (js_app (pv 6) (je_bin o_add (.ofE (je_tup (jae_cons (je_var (pv 7)) (jae_nil)))) (.ofE (je_callTy k_tuple rfl Z.b_tuple bt_tuple (ja_cons (.ofF (jf_callB (k_sorted C) rfl Z.b_sorted bt_sorted (ja_cons (.ofF (jf_lst (jae_cons (je_ix x_idx (.ofE (je_var (pv 5))) (.ofE (je_ix x_idx (.ofE (je_var (pv 8))) (.ofE (je_int)) (fun _ _ => rfl))) (fun _ _ => rfl)) (jae_cons (je_ix x_idx (.ofE (je_var (pv 5))) (.ofE (je_ix x_idx (.ofE (je_var (pv 8))) (.ofE (je_int)) (fun _ _ => rfl))) (fun _ _ => rfl)) (jae_nil))))) (ja_nil)))) (ja_nil)))))))) (jss_one (js_retL (jf_callB (k_sorted C) rfl Z.b_sorted bt_sorted (ja_cons (jb_var (pv 6)) (ja_nil))))))))))
/-! _law_small -/
abbrev N_small : List Str := ["_law_kind", "_law_base", "_law_pairs", "_law_one", "_law_lights", "_law_point", "_law_other", "_law_pair", "_law_k"]
theorem sc_small : FnScope N_small ["_law_kind"] (defScope st_small) := ⟨rfl, rfl, rfl, by decide +kernel, rfl, by decide +kernel, by decide +kernel⟩
theorem h_small (Z : Fs K mg) : Has P w K mg base 3 "_law_small" 1 f_small := has_fd Z.d_small sc_small fun f cdv A outer s H EE C S => jss_cons (js_if (jt_cmp (p_lt) (.ofE (je_var (pv 0))) (.ofE (je_int)) rfl) (jss_cons (js_set C.nd rfl (by first | exact .inl rfl | exact .inr rfl) (JE.ofF (jf_lst (jae_cons (je_int) (jae_cons (je_int) (jae_cons (je_int) (jae_cons (je_int) (jae_nil)))))))) (jss_one (js_ret (je_tup (jae_cons (je_int) (jae_cons (je_ix x_idx (.ofF (jf_lst (jae_cons (je_var (pv 1)) (jae_cons (JE.ofF (jf_call C ((h_crossing Z).mono (by decide)) rfl (jae_cons (je_var (pv 1)) (jae_cons (je_int) (jae_nil))))) (jae_nil))))) (.ofE (je_var (pv 0))) (fun _ _ => rfl)) (jae_nil))))))) (jss_nil)) (jss_cons (js_set C.nd rfl (by first | exact .inl rfl | exact .inr rfl) (JE.ofF (jf_lst (jae_nil)))) (jss_cons (js_for C S (ji0_range1 rfl Z.b_range (ja_cons (.ofE (je_int)) (ja_nil))) (jg_name (pg_name C.nd rfl (by first | exact .inl rfl | exact .inr rfl))) (jss_one (js_set C.nd rfl (by first | exact .inl rfl | exact .inr rfl) (JE.ofF (jf_bin o_addL (.ofE (je_var (pv 2))) (.ofF (jf_lcC [("_law_other", 6)] C (.of0 (ji0_range1 rfl Z.b_range (ja_cons (.ofE (je_int)) (ja_nil)))) (show BlkOk N_small (defScope st_small) _ _ from ⟨rfl, by decide +kernel, by decide +kernel, by decide +kernel, by decide +kernel⟩) (fun s H Ca cl fp C => jg_name (pg_name C.nd rfl (by first | exact .inl rfl | exact .inr rfl))) (fun s H Ca cl fp C => jts_nil) (fun s H Ca cl fp C => je_tup (jae_cons (je_var (pv 3)) (jae_cons (je_var (pv 6)) (jae_nil)))) (by decide)))))))) (jss_cons (js_if (jt_cmp (o_eq C) (.ofE (je_var (pv 0))) (.ofE (je_int)) rfl) (jss_one (js_lcC [("_law_pair", 7)] C rfl rfl (sw_true rfl rfl rfl rfl) (ji_list (.ofE (je_var (pv 2)))) (show BlkOk N_small (defScope st_small) _ _ from ⟨rfl, by decide +kernel, by decide +kernel, by decide +kernel, by decide +kernel⟩) (fun s H Ca cl fp C => jg_name (pg_name C.nd rfl (by first | exact .inl rfl | exact .inr rfl))) (fun s H Ca cl fp C => jts_one (jt_chain (p_lt) (p_lt) (.ofE (je_ix x_idx (.ofE (je_var (pv 7))) (.ofE (je_int)) (fun _ _ => rfl))) (.ofE (je_ix x_idx (.ofE (je_var (pv 7))) (.ofE (je_int)) (fun _ _ => rfl))) (.ofE (je_int)))) (fun s H Ca cl fp C => je_var (pv 7)) (by decide))) (jss_one (js_lcC [("_law_pair", 7)] C rfl rfl (sw_true rfl rfl rfl rfl) (ji_list (.ofE (je_var (pv 2)))) (show BlkOk N_small (defScope st_small) _ _ from ⟨rfl, by decide +kernel, by decide +kernel, by decide +kernel, by decide +kernel⟩) (fun s H Ca cl fp C => jg_name (pg_name C.nd rfl (by first | exact .inl rfl | exact .inr rfl))) (fun s H Ca cl fp C => jts_one (jt_chain (p_lt) (p_le) (.ofE (je_ix x_idx (.ofE (je_var (pv 7))) (.ofE (je_int)) (fun _ _ => rfl))) (.ofE (je_int)) (.ofE (je_ix x_idx (.ofE (je_var (pv 7))) (.ofE (je_int)) (fun _ _ => rfl))))) (fun s H Ca cl fp C => je_var (pv 7)) (by decide)))) (jss_cons (js_setL C.nd rfl (by first | exact .inl rfl | exact .inr rfl) (jf_lst (jae_nil))) (jss_cons (js_for C S (ji0_range1 rfl Z.b_range (ja_cons (.ofE (je_int)) (ja_nil))) (jg_name (pg_name C.nd rfl (by first | exact .inl rfl | exact .inr rfl))) (jss_one (js_app (pv 4) (je_callB (k_sum C) rfl Z.b_sum bt_sum (ja_cons (.ofF (jf_lcC [("_law_k", 8), ("_law_pair", 7)] C (ji_enum rfl Z.b_enumerate (ja_cons (.ofE (je_var (pv 2))) (ja_nil))) (show BlkOk N_small (defScope st_small) _ _ from ⟨rfl, by decide +kernel, by decide +kernel, by decide +kernel, by decide +kernel⟩) (fun s H Ca cl fp C => jg_tup C.calm (jgs_cons (jg_name (pg_name C.nd rfl (by first | exact .inl rfl | exact .inr rfl))) (jgs_cons (jg_name (pg_name C.nd rfl (by first | exact .inl rfl | exact .inr rfl))) (jgs_nil)))) (fun s H Ca cl fp C => jts_one (jt_cmp (o_in C) (.ofE (je_var (pv 5))) (.ofE (je_var (pv 7))) rfl)) (fun s H Ca cl fp C => je_bin p_shl (.ofE (je_int)) (.ofE (je_var (pv 8)))) (by decide))) (ja_nil)))))) (jss_frz 4 (jss_one (js_ret (je_tup (jae_cons (je_callB k_len rfl Z.b_len bt_len (ja_cons (.ofE (je_var (pv 2))) (ja_nil))) (jae_cons (je_call C ((h__law_reduced Z).mono (by decide)) rfl (jae_cons (je_var (pv 4)) (jae_nil))) (jae_nil))))))))))))
/-! steps_of -/
abbrev N_steps_of : List Str := ["table", "bits", "row"]
theorem sc_steps_of : FnScope N_steps_of ["table"] (defScope st_steps_of) := ⟨rfl, rfl, rfl, by decide +kernel, rfl, by decide +kernel, by decide +kernel⟩
theorem h_steps_of (Z : Fs K mg) : HasL P w K mg base 4 "steps_of" 1 f_steps_of := has_fdL Z.d_steps_of sc_steps_of fun f cdv A outer s H EE C S => jss_cons (js_set C.nd rfl (by first | exact .inl rfl | exact .inr rfl) (je_call C ((h_places_of Z).mono (by decide)) rfl (jae_cons (je_ix x_idx (.ofE (je_var (pv 0))) (.ofE (je_int)) (fun _ _ => rfl)) (jae_nil)))) (jss_one (js_retL (jf_call C ((h_reduced Z).mono (by decide)) rfl (jae_cons (JE.ofF (jf_lcC [("row", 2)] C (ji_list (.ofE (je_ix x_idx (.ofE (je_var (pv 0))) (.ofE (je_int)) (fun _ _ => rfl)))) (show BlkOk N_steps_of (defScope st_steps_of) _ _ from ⟨rfl, by decide +kernel, by decide +kernel, by decide +kernel, by decide +kernel⟩) (fun s H Ca cl fp C => jg_name (pg_name C.nd rfl (by first | exact .inl rfl | exact .inr rfl))) (fun s H Ca cl fp C => jts_nil) (fun s H Ca cl fp C => je_call C ((h_mask_of Z).mono (by decide)) rfl (jae_cons (je_var (pv 1)) (jae_cons (je_var (pv 2)) (jae_nil)))) (by decide))) (jae_nil)))))
/-! is_net -/
abbrev N_is_net : List Str := ["thing"]
theorem sc_is_net : FnScope N_is_net ["thing"] (defScope st_is_net) := ⟨rfl, rfl, rfl, by decide +kernel, rfl, by decide +kernel, by decide +kernel⟩
theorem h_is_net (Z : Fs K mg) : Has P w K mg base 4 "is_net" 1 f_is_net := has_fd Z.d_is_net sc_is_net fun f cdv A outer s H EE C S => jss_one (js_ret (je_and (je_call C ((h_are_ties Z).mono (by decide)) rfl (jae_cons (je_var (pv 0)) (jae_nil))) (je_one (je_call C ((h_is_bounded Z).mono (by decide)) rfl (jae_cons (je_var (pv 0)) (jae_nil))))))
/-! _law_steps_of -/
abbrev N__law_steps_of : List Str := ["_law_script", "_law_at", "_law_big_here", "_law_net_here", "_law_many", "_law_base", "_law_most", "_law_step"]
theorem sc__law_steps_of : FnScope N__law_steps_of ["_law_script", "_law_at"] (defScope st__law_steps_of) := ⟨rfl, rfl, rfl, by decide +kernel, rfl, by decide +kernel, by decide +kernel⟩
theorem h__law_steps_of (Z : Fs K mg) : Has P w K mg base 4 "_law_steps_of" 2 f__law_steps_of := has_fd Z.d__law_steps_of sc__law_steps_of fun f cdv A outer s H EE C S => jss_cons (js_set C.nd rfl (by first | exact .inl rfl | exact .inr rfl) (je_call C ((h_big Z).mono (by decide)) rfl (jae_cons (je_var (pv 0)) (jae_cons (je_bin o_add (.ofE (je_var (pv 1))) (.ofE (je_int))) (jae_nil))))) (jss_cons (js_set C.nd rfl (by first | exact .inl rfl | exact .inr rfl) (JE.ofF (jf_call C ((h_net Z).mono (by decide)) rfl (jae_cons (je_var (pv 0)) (jae_cons (je_var (pv 1)) (jae_nil)))))) (jss_cons (js_asg (je_tup (jae_cons (je_callB k_len rfl Z.b_len bt_len (ja_cons (.ofE (je_var (pv 3))) (ja_nil))) (jae_cons (JE.ofF (jf_call C ((h_even Z).mono (by decide)) rfl (jae_cons (je_var (pv 3)) (jae_nil)))) (jae_nil)))) (jg_tup C.calm (jgs_cons (jg_name (pg_name C.nd rfl (by first | exact .inl rfl | exact .inr rfl))) (jgs_cons (jg_name (pg_name C.nd rfl (by first | exact .inl rfl | exact .inr rfl))) (jgs_nil))))) (jss_cons (js_if (jt_cmp (p_lt) (.ofE (je_bin p_mod (.ofE (je_var (pv 2))) (.ofE (je_int)))) (.ofE (je_int)) rfl) (jss_one (js_set C.nd rfl (by first | exact .inl rfl | exact .inr rfl) (JE.ofF (jf_bin o_addL (.ofE (je_var (pv 5))) (.ofF (jf_sl x_slL (.ofF (jf_call C ((h_free Z).mono (by decide)) rfl (jae_cons (je_bin p_div (.ofE (je_var (pv 2))) (.ofE (je_int))) (jae_cons (je_var (pv 4)) (jae_nil))))) (jo_none) (jo_some (je_bin o_add (.ofE (je_int)) (.ofE (je_bin p_mod (.ofE (je_var (pv 2))) (.ofE (je_int)))))))))))) (jss_nil)) (jss_cons (js_if (jt_cmp (o_eq C) (.ofE (je_bin p_mod (.ofE (je_var (pv 2))) (.ofE (je_int)))) (.ofE (je_int)) rfl) (jss_cons (js_set C.nd rfl (by first | exact .inl rfl | exact .inr rfl) (je_bin o_add (.ofE (je_int)) (.ofE (je_bin p_mod (.ofE (je_bin p_div (.ofE (je_var (pv 2))) (.ofE (je_int)))) (.ofE (je_int)))))) (jss_one (js_set C.nd rfl (by first | exact .inl rfl | exact .inr rfl) (JE.ofF (jf_call C ((h_free Z).mono (by decide)) rfl (jae_cons (je_bin p_div (.ofE (je_var (pv 2))) (.ofE (je_int))) (jae_cons (je_var (pv 4)) (jae_nil)))))))) (jss_nil)) (jss_cons (js_if (jt_cmp (p_gt) (.ofE (je_bin p_mod (.ofE (je_var (pv 2))) (.ofE (je_int)))) (.ofE (je_int)) rfl) (jss_cons (js_asg (je_call C ((h_small Z).mono (by decide)) rfl (jae_cons (je_bin p_mod (.ofE (je_bin p_div (.ofE (je_var (pv 2))) (.ofE (je_int)))) (.ofE (je_int))) (jae_nil))) (jg_tup C.calm (jgs_cons (jg_name (pg_name C.nd rfl (by first | exact .inl rfl | exact .inr rfl))) (jgs_cons (jg_name (pg_name C.nd rfl (by first | exact .inl rfl | exact .inr rfl))) (jgs_nil))))) (jss_cons (js_set C.nd rfl (by first | exact .inl rfl | exact .inr rfl) (je_callB (k_min2 C) rfl Z.b_min bt_min (ja_cons (.ofE (je_int)) (ja_cons (.ofE (je_bin o_add (.ofE (je_var (pv 4))) (.ofE (je_bin p_mod (.ofE (je_bin p_div (.ofE (je_var (pv 2))) (.ofE (je_int)))) (.ofE (je_int)))))) (ja_nil))))) (jss_cons (js_set C.nd rfl (by first | exact .inl rfl | exact .inr rfl) (je_call C ((h_with_more Z).mono (by decide)) rfl (jae_cons (je_var (pv 5)) (jae_cons (je_var (pv 4)) (jae_cons (je_bin p_div (.ofE (je_var (pv 2))) (.ofE (je_int))) (jae_cons (je_var (pv 6)) (jae_nil))))))) (jss_one (js_set C.nd rfl (by first | exact .inl rfl | exact .inr rfl) (je_var (pv 6))))))) (jss_nil)) (jss_cons (js_set C.nd rfl (by first | exact .inl rfl | exact .inr rfl) (JE.ofF (jf_sl x_slL (.ofE (je_call C ((h__law_reduced Z).mono (by decide)) rfl (jae_cons (je_var (pv 5)) (jae_nil)))) (jo_none) (jo_some (je_int))))) (jss_cons (js_while fu__law_steps_of_0 S (jt_cmp (p_gt) (.ofE (je_bin p_sub (.ofE (je_var (pv 4))) (.ofE (je_callB k_len rfl Z.b_len bt_len (ja_cons (.ofE (je_var (pv 5))) (ja_nil)))))) (.ofE (je_int)) rfl) (jss_cons (js_aug C.nd rfl (by first | exact .inl rfl | exact .inr rfl) (je_int) ip_sub) (jss_one (js_set C.nd rfl (by first | exact .inl rfl | exact .inr rfl) (je_call C ((h__law_reduced Z).mono (by decide)) rfl (jae_cons (JE.ofF (jf_lcC [("_law_step", 7)] C (ji_list (.ofE (je_var (pv 5)))) (show BlkOk N__law_steps_of (defScope st__law_steps_of) _ _ from ⟨rfl, by decide +kernel, by decide +kernel, by decide +kernel, by decide +kernel⟩) (fun s H Ca cl fp C => jg_name (pg_name C.nd rfl (by first | exact .inl rfl | exact .inr rfl))) (fun s H Ca cl fp C => jts_nil) (fun s H Ca cl fp C => je_bin p_and (.ofE (je_var (pv 7))) (.ofE (je_bin p_sub (.ofE (je_bin p_shl (.ofE (je_int)) (.ofE (je_var (pv 4))))) (.ofE (je_int))))) (by decide))) (jae_nil))))))) (jss_one (js_ret (je_tup (jae_cons (je_var (pv 4)) (jae_cons (je_var (pv 5)) (jae_nil)))))))))))))
/-! is_table -/
abbrev N_is_table : List Str := ["thing"]
theorem sc_is_table : FnScope N_is_table ["thing"] (defScope st_is_table) := ⟨rfl, rfl, rfl, by decide +kernel, rfl, by decide +kernel, by decide +kernel⟩
theorem h_is_table (Z : Fs K mg) : Has P w K mg base 5 "is_table" 1 f_is_table := has_fd Z.d_is_table sc_is_table fun f cdv A outer s H EE C S => jss_cons (js_if (jt_w (jw_or (jt_not (jt_val (je_isi rfl Z.b_isinstance (.ofE (je_var (pv 0))) rfl Z.b_tuple bt_tuple))) (jw_or (jt_cmp (o_ne C) (.ofE (je_callB k_len rfl Z.b_len bt_len (ja_cons (.ofE (je_var (pv 0))) (ja_nil)))) (.ofE (je_int)) rfl) (jw_or1 (jt_not (jt_val (je_call C ((h_is_row Z).mono (by decide)) rfl (jae_cons (je_ix x_idx (.ofE (je_var (pv 0))) (.ofE (je_int)) (fun _ _ => rfl)) (jae_nil))))))))) (jss_one (js_ret (je_bl))) (jss_nil)) (jss_cons (js_if (jt_w (jw_or (jt_cmp (p_gt) (.ofE (je_callB k_len rfl Z.b_len bt_len (ja_cons (.ofE (je_ix x_idx (.ofE (je_var (pv 0))) (.ofE (je_int)) (fun _ _ => rfl))) (ja_nil)))) (.ofE (je_glob Z.c_MOST_NAMES rfl)) rfl) (jw_or1 (jt_not (jt_val (je_call C ((h_are_rows_of Z).mono (by decide)) rfl (jae_cons (je_ix x_idx (.ofE (je_var (pv 0))) (.ofE (je_int)) (fun _ _ => rfl)) (jae_cons (je_ix x_idx (.ofE (je_var (pv 0))) (.ofE (je_int)) (fun _ _ => rfl)) (jae_nil))))))))) (jss_one (js_ret (je_bl))) (jss_nil)) (jss_one (js_ret (je_call C ((h_keeps_bounds Z).mono (by decide)) rfl (jae_cons (je_callB k_len rfl Z.b_len bt_len (ja_cons (.ofE (je_ix x_idx (.ofE (je_var (pv 0))) (.ofE (je_int)) (fun _ _ => rfl))) (ja_nil))) (jae_cons (JE.ofF (jf_call C ((h_steps_of Z).mono (by decide)) rfl (jae_cons (je_var (pv 0)) (jae_nil)))) (jae_nil)))))))
/-! read_net -/
abbrev N_read_net : List Str := ["text", "net", "part"]
theorem sc_read_net : FnScope N_read_net ["text"] (defScope st_read_net) := ⟨rfl, rfl, rfl, by decide +kernel, rfl, by decide +kernel, by decide +kernel⟩
theorem h_read_net (Z : Fs K mg) : Has P w K mg base 5 "read_net" 1 f_read_net := has_fd Z.d_read_net sc_read_net fun f cdv A outer s H EE C S => jss_cons (js_expr (je_call C ((h_look Z).mono (by decide)) rfl (jae_cons (je_isi rfl Z.b_isinstance (.ofE (je_var (pv 0))) rfl Z.b_str bt_str) (jae_nil)))) (jss_cons (js_if (jt_cmp (o_eq C) (.ofE (je_var (pv 0))) (.ofE (je_str)) rfl) (jss_one (js_ret (JE.ofF (jf_lst (jae_nil))))) (jss_nil)) (jss_cons (js_lcxC [("part", 2)] C S rfl rfl (sw_true rfl rfl rfl rfl) (ji_list (.ofF (jf_meth m_split PySem.F.plainAttrs_str PySem.F.slot_str_split PySem.F.type_str_split (.ofE (je_var (pv 0))) (ja_cons (.ofE (je_str)) (ja_nil))))) (show BlkOk N_read_net (defScope st_read_net) _ _ from ⟨rfl, by decide +kernel, by decide +kernel, by decide +kernel, by decide +kernel⟩) (fun s H Ca cl fp xe C => jg_name (pg_name C.nd rfl (by first | exact .inl rfl | exact .inr rfl))) (fun s H Ca cl fp xe C => jts_nil) (fun s H Ca cl fp xe C => je_call C ((h_read_tie Z).mono (by decide)) rfl (jae_cons (je_var (pv 2)) (jae_nil))) (by decide)) (jss_cons (js_expr (je_call C ((h_look Z).mono (by decide)) rfl (jae_cons (je_call C ((h_are_ties Z).mono (by decide)) rfl (jae_cons (je_var (pv 1)) (jae_nil))) (jae_nil)))) (jss_cons (js_if (jt_not (jt_val (je_call C ((h_is_net Z).mono (by decide)) rfl (jae_cons (je_var (pv 1)) (jae_nil))))) (jss_one (js_raise C S Z.e_TooMany rfl)) (jss_nil)) (jss_one (js_ret (je_var (pv 1))))))))
/-! _law_table -/
abbrev N_table : List Str := ["_law_script", "_law_at", "_law_many", "_law_base", "_law_names_here", "_law_rows", "_law_big_here", "_law_k", "_law_mix", "_law_row_here"]
theorem sc_table : FnScope N_table ["_law_script", "_law_at"] (defScope st_table) := ⟨rfl, rfl, rfl, by decide +kernel, rfl, by decide +kernel, by decide +kernel⟩
theorem h_table (Z : Fs K mg) : Has P w K mg base 5 "_law_table" 2 f_table := has_fd Z.d_table sc_table fun f cdv A outer s H EE C S => jss_cons (js_asg (je_call C ((h__law_steps_of Z).mono (by decide)) rfl (jae_cons (je_var (pv 0)) (jae_cons (je_var (pv 1)) (jae_nil)))) (jg_tup C.calm (jgs_cons (jg_name (pg_name C.nd rfl (by first | exact .inl rfl | exact .inr rfl))) (jgs_cons (jg_name (pg_name C.nd rfl (by first | exact .inl rfl | exact .inr rfl))) (jgs_nil))))) (jss_cons (js_set C.nd rfl (by first | exact .inl rfl | exact .inr rfl) (JE.ofF (jf_callB (k_sorted C) rfl Z.b_sorted bt_sorted (ja_cons (.ofF (jf_call C ((h_names Z).mono (by decide)) rfl (jae_cons (je_call C ((h_big Z).mono (by decide)) rfl (jae_cons (je_var (pv 0)) (jae_cons (je_bin o_add (.ofE (je_var (pv 1))) (.ofE (je_int))) (jae_nil)))) (jae_cons (je_var (pv 2)) (jae_nil))))) (ja_nil))))) (jss_cons (js_setL C.nd rfl (by first | exact .inl rfl | exact .inr rfl) (jf_callTy k_list rfl Z.b_list bt_list (ja_cons (.ofE (je_var (pv 3))) (ja_nil)))) (jss_cons (js_set C.nd rfl (by first | exact .inl rfl | exact .inr rfl) (je_call C ((h_big Z).mono (by decide)) rfl (jae_cons (je_var (pv 0)) (jae_cons (je_bin o_add (.ofE (je_var (pv 1))) (.ofE (je_int))) (jae_nil))))) (jss_cons (js_for C S (ji0_range1 rfl Z.b_range (ja_cons (.ofE (je_bin p_mod (.ofE (je_var (pv 6))) (.ofE (je_int)))) (ja_nil))) (jg_name (pg_name C.nd rfl (by first | exact .inl rfl | exact .inr rfl))) (jss_cons (js_set C.nd rfl (by first | exact .inl rfl | exact .inr rfl) (je_int)) (jss_cons (js_for C S (ji0_list (JE.ofF (jf_sl x_slL (jb_var (pv 5)) (jo_none) (jo_some (je_callB k_len rfl Z.b_len bt_len (ja_cons (.ofE (je_var (pv 3))) (ja_nil))))))) (jg_name (pg_name C.nd rfl (by first | exact .inl rfl | exact .inr rfl))) (jss_cons (js_set C.nd rfl (by first | exact .inl rfl | exact .inr rfl) (je_bin p_xor (.ofE (je_var (pv 8))) (.ofE (je_bin o_mul (.ofE (je_var (pv 9))) (.ofE (je_bin p_mod (.ofE (je_bin p_div (.ofE (je_var (pv 6))) (.ofE (je_int)))) (.ofE (je_int)))))))) (jss_one (js_set C.nd rfl (by first | exact .inl rfl | exact .inr rfl) (je_bin p_div (.ofE (je_var (pv 6))) (.ofE (je_int))))))) (jss_one (js_ins (pv 5) (je_bin p_mod (.ofE (je_bin p_div (.ofE (je_var (pv 6))) (.ofE (je_int)))) (.ofE (je_bin o_add (.ofE (je_callB k_len rfl Z.b_len bt_len (ja_cons (jb_var (pv 5)) (ja_nil)))) (.ofE (je_int))))) (je_var (pv 8))))))) (jss_one (js_ret (je_tup (jae_cons (je_var (pv 4)) (jae_cons (JE.ofF (jf_lcC [("_law_row_here", 9)] C (ji_list (.ofF (jf_sl x_slL (jb_var (pv 5)) (jo_none) (jo_some (je_int))))) (show BlkOk N_table (defScope st_table) _ _ from ⟨rfl, by decide +kernel, by decide +kernel, by decide +kernel, by decide +kernel⟩) (fun s H Ca cl fp C => jg_name (pg_name C.nd rfl (by first | exact .inl rfl | exact .inr rfl))) (fun s H Ca cl fp C => jts_nil) (fun s H Ca cl fp C => JE.ofF (jf_call C ((h_row Z).mono (by decide)) rfl (jae_cons (je_var (pv 4)) (jae_cons (je_var (pv 9)) (jae_nil))))) (by decide))) (jae_nil))))))))))
/-! read_table -/
abbrev N_read_table : List Str := ["text", "rows", "names", "row", "table", "part", "name"]
theorem sc_read_table : FnScope N_read_table ["text"] (defScope st_read_table) := ⟨rfl, rfl, rfl, by decide +kernel, rfl, by decide +kernel, by decide +kernel⟩
theorem h_read_table (Z : Fs K mg) : Has P w K mg base 6 "read_table" 1 f_read_table := has_fd Z.d_read_table sc_read_table fun f cdv A outer s H EE C S => jss_cons (js_expr (je_call C ((h_look Z).mono (by decide)) rfl (jae_cons (je_isi rfl Z.b_isinstance (.ofE (je_var (pv 0))) rfl Z.b_str bt_str) (jae_nil)))) (jss_cons (js_lcxC [("part", 5)] C S rfl rfl (sw_true rfl rfl rfl rfl) (ji_list (.ofF (jf_meth m_split PySem.F.plainAttrs_str PySem.F.slot_str_split PySem.F.type_str_split (.ofE (je_var (pv 0))) (ja_cons (.ofE (je_str)) (ja_nil))))) (show BlkOk N_read_table (defScope st_read_table) _ _ from ⟨rfl, by decide +kernel, by decide +kernel, by decide +kernel, by decide +kernel⟩) (fun s H Ca cl fp xe C => jg_name (pg_name C.nd rfl (by first | exact .inl rfl | exact .inr rfl))) (fun s H Ca cl fp xe C => jts_nil) (fun s H Ca cl fp xe C => je_call C ((h_read_row Z).mono (by decide)) rfl (jae_cons (je_var (pv 5)) (jae_nil))) (by decide)) (jss_cons (js_set C.nd rfl (by first | exact .inl rfl | exact .inr rfl) (je_ix x_idx (.ofE (je_var (pv 1))) (.ofE (je_int)) (fun _ _ => rfl))) (jss_cons (js_for C S (ji0_list (JE.ofF (jf_sl x_slL (.ofE (je_var (pv 1))) (jo_some (je_int)) (jo_none)))) (jg_name (pg_name C.nd rfl (by first | exact .inl rfl | exact .inr rfl))) (jss_one (js_expr (je_call C ((h_look Z).mono (by decide)) rfl (jae_cons (je_callB (k_all C) rfl Z.b_all bt_all (ja_cons (.ofF (jf_lcC [("name", 6)] C (ji_list (.ofE (je_var (pv 3)))) (show BlkOk N_read_table (defScope st_read_table) _ _ from ⟨rfl, by decide +kernel, by decide +kernel, by decide +kernel, by decide +kernel⟩) (fun s H Ca cl fp C => jg_name (pg_name C.nd rfl (by first | exact .inl rfl | exact .inr rfl))) (fun s H Ca cl fp C => jts_nil) (fun s H Ca cl fp C => je_cmp (o_in C) (.ofE (je_var (pv 6))) (.ofE (je_var (pv 2))) rfl) (by decide))) (ja_nil))) (jae_nil)))))) (jss_cons (js_set C.nd rfl (by first | exact .inl rfl | exact .inr rfl) (je_tup (jae_cons (je_var (pv 2)) (jae_cons (JE.ofF (jf_sl x_slL (.ofE (je_var (pv 1))) (jo_some (je_int)) (jo_none))) (jae_nil))))) (jss_cons (js_if (jt_not (jt_val (je_call C ((h_is_table Z).mono (by decide)) rfl (jae_cons (je_var (pv 4)) (jae_nil))))) (jss_one (js_raise C S Z.e_TooMany rfl)) (jss_nil)) (jss_one (js_ret (je_var (pv 4)))))))))
/-! law -/
abbrev N_law : List Str := ["_law_script", "_law_table_here", "_law_net_here", "_law_handed", "_law_row_here", "_law_k", "_law_one", "_law_other"]
theorem sc_law : FnScope N_law ["_law_script"] (defScope st_law) := ⟨rfl, rfl, rfl, by decide +kernel, rfl, by decide +kernel, by decide +kernel⟩
theorem h_law (Z : Fs K mg) {fl : Addr} {fd : FuncData} (F : FnP K "law" st_law fl fd) : FnOk P w K mg base (L2.CX P w) 7 fl fd ["_law_script"] (spD K mg 1 f_law) := fn_fdX F sc_law fun f cdv A outer s H EE C S => xss_cons (xs_lift (js_set C.nd rfl (by first | exact .inl rfl | exact .inr rfl) (je_call C ((h_table Z).mono (by decide)) rfl (jae_cons (je_var (pv 0)) (jae_cons (je_int) (jae_nil)))))) (xss_cons (xs_lift (js_set C.nd rfl (by first | exact .inl rfl | exact .inr rfl) (JE.ofF (jf_call C ((h_net Z).mono (by decide)) rfl (jae_cons (je_var (pv 0)) (jae_cons (je_int) (jae_nil))))))) (xss_cons (xs_lift (js_set C.nd rfl (by first | exact .inl rfl | exact .inr rfl) (JE.ofF (jf_lst (jae_cons (je_call C ((h_copy Z).mono (by decide)) rfl (jae_cons (je_var (pv 1)) (jae_nil))) (jae_cons (JE.ofF (jf_callTy k_list rfl Z.b_list bt_list (ja_cons (.ofE (je_var (pv 2))) (ja_nil)))) (jae_nil))))))) (xss_cons (xs_lift (js_if (jt_w (jw_or (jt_cmp (o_ne C) (.ofE (je_call C ((h_show_table Z).mono (by decide)) rfl (jae_cons (je_ix x_idx (.ofE (je_var (pv 3))) (.ofE (je_int)) (fun _ _ => rfl)) (jae_nil)))) (.ofE (je_call C ((h_table_written Z).mono (by decide)) rfl (jae_cons (je_var (pv 1)) (jae_nil)))) rfl) (jw_or1 (jt_cmp (o_ne C) (.ofE (je_call C ((h_show_net Z).mono (by decide)) rfl (jae_cons (je_ix x_idx (.ofE (je_var (pv 3))) (.ofE (je_int)) (fun _ _ => rfl)) (jae_nil)))) (.ofE (je_call C ((h_net_written Z).mono (by decide)) rfl (jae_cons (je_var (pv 2)) (jae_nil)))) rfl)))) (jss_one (js_ret (je_bl))) (jss_nil))) (xss_cons (xs_lift (js_for C S (ji0_list (je_ix x_idx (.ofE (je_ix x_idx (.ofE (je_var (pv 3))) (.ofE (je_int)) (fun _ _ => rfl))) (.ofE (je_int)) (fun _ _ => rfl))) (jg_name (pg_name C.nd rfl (by first | exact .inl rfl | exact .inr rfl))) (jss_one (js_if (jt_cmp (o_ne C) (.ofE (je_call C ((h_show_row Z).mono (by decide)) rfl (jae_cons (je_var (pv 4)) (jae_nil)))) (.ofE (je_call C ((h_written Z).mono (by decide)) rfl (jae_cons (je_var (pv 4)) (jae_nil)))) rfl) (jss_one (js_ret (je_bl))) (jss_nil))))) (xss_cons (xs_for C S (ji0_range1 rfl Z.b_range (ja_cons (.ofE (je_int)) (ja_nil))) (jg_name (pg_name C.nd rfl (by first | exact .inl rfl | exact .inr rfl))) (xss_cons (xs_reg (i := 6) C ((h_read_table Z).mono (by decide)) rfl (jae_cons (je_call C ((h_table_written Z).mono (by decide)) rfl (jae_cons (je_var (pv 1)) (jae_nil))) (jae_nil)) rfl (by first | exact .inl rfl | exact .inr rfl)) (xss_cons (xs_reg (i := 7) C ((h_read_net Z).mono (by decide)) rfl (jae_cons (je_call C ((h_net_written Z).mono (by decide)) rfl (jae_cons (je_var (pv 2)) (jae_nil))) (jae_nil)) rfl (by first | exact .inl rfl | exact .inr rfl)) (xss_cons (xs_if (jt_w (jw_or (jt_not (jt_val (je_call C ((h_same_table Z).mono (by decide)) rfl (jae_cons (je_var (pv 6)) (jae_cons (je_var (pv 1)) (jae_nil)))))) (jw_or1 (jt_not (jt_val (je_call C ((h_same_net Z).mono (by decide)) rfl (jae_cons (je_var (pv 7)) (jae_cons (je_var (pv 2)) (jae_nil))))))))) (xss_lift (jss_one (js_ret (je_bl)))) (xss_nil)) (xss_cons (xs_app0 (pv 6) pe_str) (xss_cons (xs_rev1 (pv 6)) (xss_one (xs_appR (pv 7) pe_non)))))))) (xss_lift (jss_one (js_ret (je_cmp (o_eq C) (.ofE (je_var (pv 3))) (.ofF (jf_lst (jae_cons (je_var (pv 1)) (jae_cons (je_var (pv 2)) (jae_nil))))) rfl)))))))))
end
end K72

set_option Elab.async false
set_option linter.all false
set_option maxRecDepth 100000
set_option maxHeartbeats 0
/-! K72p: the plain law of k72. -/
namespace K72
open PySem PySem.Spec Mp K73
open L2 (atI)
theorem join_snoc (sep x y : Str) (xs : List Str) : Txt.join sep (x :: (xs ++ [y])) = Txt.join sep (x :: xs) ++ sep ++ y := by
  show (⟨(xs ++ [y]).foldl (fun acc p => acc ++ sep.cps ++ p.cps) x.cps⟩ : Str) = (⟨xs.foldl (fun acc p => acc ++ sep.cps ++ p.cps) x.cps⟩ : Str) ++ sep ++ y
  rw [List.foldl_append]
  rfl
theorem sum_app (xs : List Str) (y : Str) : ((xs ++ [y]).map (·.length)).sum = (xs.map (·.length)).sum + y.length := by simp
/-- texts put together one by one -/
theorem joined_le {sep x : Str} {xs : List Str} {n : Nat} (h : ∀ y ∈ x :: xs, y.length ≤ n) (hl : xs.length ≤ 40) (hs : sep.length ≤ 4) (hn : n ≤ 200) : (Txt.join sep (x :: xs)).length ≤ 41 * 204 := by
  have a := join_len sep (x :: xs)
  have b := sum_le h
  rw [List.length_cons] at a b
  have c : (xs.length + 1) * n ≤ 41 * 200 := Nat.mul_le_mul (by omega) hn
  have d : (xs.length + 1) * sep.length ≤ 41 * 4 := Nat.mul_le_mul (by omega) hs
  omega
theorem v_written2 (r : List Str) (h1 : r.length ≤ 12) (h2 : ∀ x ∈ r, isNm x = true) : f_written [encR r] = .ok (.str (wr r)) := by
  have hs0 : startS 3 [encR r] = [.val (encR r), .emp, .emp] := rfl
  have he : eqD (encR r) (.list []) = some (.bool (decide (r = []))) := eq_strs r []
  have lim0 : (0 : Nat) ≤ LIM := by decide
  have c1 : (" " : Str).length = 1 := rfl
  refine runD_rt ?_
  unfold m_written
  rw [hs0]
  cases r with
  | nil =>
    have he' : eqD (encR []) (.list []) = some (.bool true) := by rw [he]; simp
    rw [seq_rt (d := .str "-")]
    · rfl
    · rw [if_t (by simp [he', lim0])]
      rfl
  | cons x xs =>
    have hx : ∀ y ∈ x :: xs, y.length ≤ 6 := fun y hy => (nm_ok (h2 y hy)).2.1
    have he' : eqD (encR (x :: xs)) (.list []) = some (.bool false) := by rw [he]; simp
    have i0 : idxD (encR (x :: xs)) (.int 0) = some (.str x) := by simp [encR]
    have sl : slL (encR (x :: xs)) (some 1) none = some (xs.map .str) := by
      unfold encR slL
      dsimp only
      rw [List.map_cons, drop1]
    obtain ⟨ρ', ⟨a2, rfl⟩, hloop⟩ := loopS_inv (enc := PyData.str) (xs := xs) (fun pre ρ => ∃ a2 : Option D, ρ = [.val (encR (x :: xs)), .val (.str (Txt.join " " (x :: pre))), ov a2]) (h := bodyH (tName 2) (sSet 1 (e2 addD (e2 addD (eVar 1) (eC (.str " "))) (eVar 2)))) (fun pre y post e ρ hρ => by
      obtain ⟨a2, rfl⟩ := hρ
      have hpl : pre.length < 12 := by
        have := congrArg List.length e
        rw [List.length_cons] at h1
        simp at this
        omega
      have hpre : ∀ z ∈ x :: pre, z.length ≤ 6 := fun z hz => by
        rcases List.mem_cons.mp hz with rfl | hz
        · exact hx z List.mem_cons_self
        · exact hx z (List.mem_cons_of_mem _ (by rw [e]; simp [hz]))
      have hy : y.length ≤ 6 := hx y (List.mem_cons_of_mem _ (by rw [e]; simp))
      have hj := joined_le (sep := " ") hpre (by omega) (by rw [c1]; omega) (by omega)
      have a1 : addD (.str (Txt.join " " (x :: pre))) (.str " ") = some (.str (Txt.join " " (x :: pre) ++ " ")) := add_str (by rw [c1]; unfold LIM; omega)
      have a3 : addD (.str (Txt.join " " (x :: pre) ++ " ")) (.str y) = some (.str (Txt.join " " (x :: pre) ++ " " ++ y)) := add_str (by rw [Str.length_append, c1]; unfold LIM; omega)
      refine ⟨_, ⟨some (.str y), rfl⟩, .inl ?_⟩
      rw [join_snoc]
      simp [a1, a3, ov_v]) (ρ := [.val (encR (x :: xs)), .val (.str x), .emp]) ⟨none, rfl⟩
    rw [seq_nx (ρ' := [.val (encR (x :: xs)), .emp, .emp]) (by rw [if_f (by simp [he', lim0])]; rfl), seq_nx (ρ' := [.val (encR (x :: xs)), .val (.str x), .emp]) (by simp [i0]), seq_nx (ρ' := [.val (encR (x :: xs)), .val (.str (Txt.join " " (x :: xs))), ov a2])]
    · simp [wr]
    · rw [sFor_ap, ← hloop]
      simp [sl]
theorem v_show_row (r : List Str) (h1 : r.length ≤ 12) (h2 : ∀ x ∈ r, isNm x = true) : f_show_row [encR r] = .ok (.str (wr r)) := K73.v_written r h1 h2
def tabE (names : List Str) (rows : List (List Str)) : D := .tuple [encR names, .list (rows.map encR)]
structure OkT (names : List Str) (rows : List (List Str)) : Prop where
  a : names.length ≤ 12
  b : ∀ x ∈ names, isNm x = true
  c : rows.length ≤ 16
  d : ∀ r ∈ rows, r.Sublist names
  e : okRow names
  f : fits names rows = true
theorem OkT.row {names : List Str} {rows : List (List Str)} (h : OkT names rows) : ∀ r ∈ names :: rows, r.length ≤ 12 ∧ ∀ x ∈ r, isNm x = true := by
  intro r hr
  rcases List.mem_cons.mp hr with rfl | hm
  · exact ⟨h.a, h.b⟩
  · exact ⟨Nat.le_trans (h.d r hm).length_le h.a, fun x hx => h.b x ((h.d r hm).subset hx)⟩
section
variable {names : List Str} {rows : List (List Str)} (h : OkT names rows)
include h
theorem v_show_table : f_show_table [tabE names rows] = .ok (.str (wtab names rows)) := by
  have hs0 : startS 2 [tabE names rows] = [.val (tabE names rows), .emp] := rfl
  have lim1 : (1 : Nat) ≤ LIM := by decide
  have hc := h.c
  have q0 : (lLc [1] (tName 1) (tYesE) (eCall 1 f_show_row (aCons (eVar 1) (aNil))) (iL (eL (l2 addL (eL (lLst (aCons (e2 idxD (eVar 0) (eC (.int 0))) (aNil)))) (e2 idxD (eVar 0) (eC (.int 1))))))) [.val (tabE names rows), .emp] = .ok ((names :: rows).map fun r => .str (wr r)) :=
    lLc_mapT (enc := encR) (by
      have i0 : idxD (tabE names rows) (.int 0) = some (encR names) := rfl
      have i1 : idxD (tabE names rows) (.int 1) = some (.list (rows.map encR)) := rfl
      have ha : addL (.list [encR names]) (.list (rows.map encR)) = some ([encR names] ++ rows.map encR) := add_list (by simp; unfold LIM; omega)
      simp only [iL_ap, eL_ap, l2_ap, lLst_ap, aCons_ap, aNil_ap, e2_ap, eVar_ap, eC_ap, List.getElem?_cons_succ, List.getElem?_cons_zero, bind_ok, map_ok, i0, i1, ofO_some, List.length_singleton, lim1, if_true, ha]
      rfl) (fun r hr => by
      have := v_show_row r (h.row r hr).1 (h.row r hr).2
      simp [this]) (by rw [List.length_cons]; unfold LIM; omega)
  have w0 : ∀ y ∈ (names :: rows).map wr, y.length ≤ 84 := by
    intro y hy
    obtain ⟨r, hr, rfl⟩ := List.mem_map.mp hy
    exact wr_len (h.row r hr).1 (h.row r hr).2
  have s0 := sum_le w0
  have l0 : ((names :: rows).map wr).length ≤ 17 := by simp; omega
  have c3 : (" / " : Str).length = 3 := rfl
  have hj : joinD (.str " / ") [.list (((names :: rows).map wr).map .str)] = some (.str (wtab names rows)) := join_strs (by rw [c3]; unfold LIM; omega)
  have q0' : ((names :: rows).map fun r => PyData.str (wr r)) = ((names :: rows).map wr).map .str := by rw [List.map_map]; rfl
  rw [q0'] at q0
  refine runD_rt ?_
  unfold m_show_table
  rw [hs0]
  simp only [sRet_ap, eM_ap, eC_ap, bind_ok, isTy_s, if_true, aCons_ap, aNil_ap, eL_ap, q0, map_ok, hj, ofO_some, lift_ok]
theorem v_table_written : f_table_written [tabE names rows] = .ok (.str (wtab names rows)) := by
  have hs0 : startS 3 [tabE names rows] = [.val (tabE names rows), .emp, .emp] := rfl
  have i0 : idxD (tabE names rows) (.int 0) = some (encR names) := rfl
  have i1 : idxD (tabE names rows) (.int 1) = some (.list (rows.map encR)) := rfl
  have hc := h.c
  have c3 : (" / " : Str).length = 3 := rfl
  have w0 := v_written2 names h.a h.b
  obtain ⟨ρ', ⟨a2, rfl⟩, hloop⟩ := loopS_inv (enc := encR) (xs := rows) (fun pre ρ => ∃ a2 : Option D, ρ = [.val (tabE names rows), .val (.str (Txt.join " / " (wr names :: pre.map wr))), ov a2]) (h := bodyH (tName 2) (sSet 1 (e2 addD (e2 addD (eVar 1) (eC (.str " / "))) (eCall 1 f_written (aCons (eVar 2) (aNil)))))) (fun pre y post e ρ hρ => by
    obtain ⟨a2, rfl⟩ := hρ
    have hpl : pre.length < 16 := by
      have := congrArg List.length e
      simp at this
      omega
    have hpre : ∀ z ∈ wr names :: pre.map wr, z.length ≤ 84 := fun z hz => by
      rcases List.mem_cons.mp hz with rfl | hz
      · exact wr_len h.a h.b
      · obtain ⟨r, hr, rfl⟩ := List.mem_map.mp hz
        have hm := h.row r (List.mem_cons_of_mem _ (by rw [e]; simp [hr]))
        exact wr_len hm.1 hm.2
    have hy := h.row y (List.mem_cons_of_mem _ (by rw [e]; simp))
    have hw := v_written2 y hy.1 hy.2
    have hyl := wr_len hy.1 hy.2
    have hj := joined_le (sep := " / ") hpre (by rw [List.length_map]; omega) (by rw [c3]; omega) (by omega)
    have a1 : addD (.str (Txt.join " / " (wr names :: pre.map wr))) (.str " / ") = some (.str (Txt.join " / " (wr names :: pre.map wr) ++ " / ")) := add_str (by rw [c3]; unfold LIM; omega)
    have a3 : addD (.str (Txt.join " / " (wr names :: pre.map wr) ++ " / ")) (.str (wr y)) = some (.str (Txt.join " / " (wr names :: pre.map wr) ++ " / " ++ wr y)) := add_str (by rw [Str.length_append, c3]; unfold LIM; omega)
    refine ⟨_, ⟨some (encR y), rfl⟩, .inl ?_⟩
    rw [List.map_append, List.map_singleton, join_snoc]
    simp [a1, a3, hw, ov_v]) (ρ := [.val (tabE names rows), .val (.str (wr names)), .emp]) ⟨none, rfl⟩
  refine runD_rt ?_
  unfold m_table_written
  rw [hs0, seq_nx (ρ' := [.val (tabE names rows), .val (.str (wr names)), .emp]) (by simp [i0, w0]), seq_nx (ρ' := [.val (tabE names rows), .val (.str (wtab names rows)), ov a2])]
  · simp
  · have : wtab names rows = Txt.join " / " (wr names :: rows.map wr) := rfl
    rw [sFor_ap, this, ← hloop]
    simp [i1]
theorem tame_tabE : tame (tabE names rows) := by
  have h1 := encR_plain names
  have h2 := plainAll_map encR_plain rows
  have h3 := encR_depth names
  have h4 := depthAll_map encR_depth rows
  refine ⟨?_, ?_⟩
  · simp only [tabE, PyData.plain, PyData.plainAll, h1, h2, Bool.and_true]
  · simp only [tabE, PyData.depth, PyData.depthAll]; omega
theorem v_copy : f_copy [tabE names rows] = .ok (tabE names rows) := by
  have hs0 : startS 2 [tabE names rows] = [.val (tabE names rows), .emp] := rfl
  have i0 : idxD (tabE names rows) (.int 0) = some (encR names) := rfl
  have i1 : idxD (tabE names rows) (.int 1) = some (.list (rows.map encR)) := rfl
  have l0 : ∀ r : List Str, listD (encR r) = some (r.map .str) := fun r => rfl
  have hc := h.c
  have lim2 : (2 : Nat) ≤ LIM := by decide
  have q0 : (lLc [1] (tName 1) (tYesE) (eL (eB (cl1 listD) (aCons (eVar 1) (aNil)))) (iL (e2 idxD (eVar 0) (eC (.int 1))))) [.val (tabE names rows), .emp] = .ok (rows.map encR) :=
    lLc_mapT (enc := encR) (by simp [i1]) (fun r hr => by simp [l0]; rfl) (by unfold LIM; omega)
  refine runD_rt ?_
  unfold m_copy
  rw [hs0]
  simp only [sRet_ap, eTup_ap, aCons_ap, aNil_ap, eL_ap, eB_ap, e2_ap, eVar_ap, eC_ap, List.getElem?_cons_zero, bind_ok, i0, ofO_some, cl1_ap, l0, map_ok, q0, List.length_cons, List.length_nil, lim2, if_true, lift_ok]
  rfl
theorem eq_self {d : D} (t : tame d) : eqD d d = some (.bool true) := by
  rw [eq_of t.1 t.1 (by have := t.2; omega), PySem.SeqAt.eqv_refl_plain d t.1]
theorem v_same_table : f_same_table [tabE names rows, tabE names rows] = .ok (.bool true) := by
  have hs0 : startS 3 [tabE names rows, tabE names rows] = [.val (tabE names rows), .val (tabE names rows), .emp] := rfl
  have i0 : idxD (tabE names rows) (.int 0) = some (encR names) := rfl
  have i1 : idxD (tabE names rows) (.int 1) = some (.list (rows.map encR)) := rfl
  have k1 : isiD "tuple" (tabE names rows) = some (.bool true) := rfl
  have k2 : lenD (tabE names rows) = some (.int 2) := rfl
  have k3 : ∀ r, isiD "list" (encR r) = some (.bool true) := fun r => rfl
  have k4 : isiD "list" (.list (rows.map encR)) = some (.bool true) := rfl
  have hc := h.c
  have he := eq_self h (tame_tabE h)
  have q0 : (lLc [2] (tName 2) (tYesE) (eIsi "list" (eVar 2)) (iL (e2 idxD (eVar 0) (eC (.int 1))))) [.val (tabE names rows), .val (tabE names rows), .emp] = .ok (rows.map fun r => .bool ((fun _ => true) r)) :=
    lLc_mapT (enc := encR) (by simp [i1]) (fun r hr => by simp [k3]) (by unfold LIM; omega)
  have ha : allD (.list (rows.map fun r => .bool ((fun _ => true) r))) = some (.bool (rows.all fun _ => true)) := all_f (fun _ => true) rows
  have ha2 : (rows.all fun _ => true) = true := by simp
  refine runD_rt ?_
  unfold m_same_table
  rw [hs0, seq_nx (ρ' := [.val (tabE names rows), .val (tabE names rows), .emp])]
  · simp only [sRet_ap, eA_ap, eIsi_ap, e2_ap, eVar_ap, eC_ap, List.getElem?_cons_zero, List.getElem?_cons_succ, bind_ok, i1, ofO_some, k4, onB_b, if_true, eB_ap, aCons_ap, aNil_ap, eL_ap, q0, map_ok, c1_ap, ha, ha2, he, lift_ok]
  · rw [if_f (by simp [k1, k2, i0, k3])]
    rfl
end
theorem v_show_net {ts : List Tie} (hl : ts.length ≤ 12) (h : ∀ t ∈ ts, nmT t) : f_show_net [.list (ts.map encT)] = .ok (.str (wnet ts)) := by
  have hs0 : startS 2 [PyData.list (ts.map encT)] = [.val (.list (ts.map encT)), .emp] := rfl
  have lim0 : (0 : Nat) ≤ LIM := by decide
  refine runD_rt ?_
  unfold m_show_net wnet
  rw [hs0]
  by_cases e : ts = []
  · subst e
    rw [seq_rt (d := .str "-")]
    · rfl
    · rw [if_t]
      · rfl
      · have he : eqD (.list []) (.list []) = some (.bool true) := eq_strs [] []
        simp [lim0, he]
  · have he : eqD (.list (ts.map encT)) (.list []) = some (.bool false) := by
      have h2 := plainAll_map encT_plain ts
      have h4 := depthAll_map encT_depth ts
      rw [eq_of (by simpa [PyData.plain] using h2) rfl (by simp only [PyData.depth]; omega)]
      cases ts with
      | nil => exact absurd rfl e
      | cons t ts => rfl
    have w1 : ∀ y ∈ ts.map wt, y.length ≤ 21 := by
      intro y hy
      obtain ⟨t, ht, rfl⟩ := List.mem_map.mp hy
      exact wt_len (h t ht)
    have s1 := sum_le w1
    have c2 : (", " : Str).length = 2 := rfl
    rw [List.length_map] at s1
    have hj1 : joinD (.str ", ") [.list ((ts.map wt).map .str)] = some (.str (Txt.join ", " (ts.map wt))) := join_strs (by rw [c2, List.length_map]; unfold LIM; omega)
    have q1 : (lLc [1] (tName 1) (tYesE) (eM "str" joinD (eC (.str " ")) (aCons (eVar 1) (aNil))) (iL (eVar 0))) [.val (.list (ts.map encT)), .emp] = .ok (ts.map fun t => .str (wt t)) :=
      lLc_mapT (enc := encT) (by simp) (fun t ht => by
        have := j_wt (h t ht)
        simp [this]) (by unfold LIM; omega)
    have q1' : (ts.map fun t => PyData.str (wt t)) = (ts.map wt).map .str := by rw [List.map_map]; rfl
    rw [q1'] at q1
    rw [seq_nx (ρ' := [.val (.list (ts.map encT)), .emp]), if_neg e]
    · simp only [sRet_ap, eM_ap, eC_ap, bind_ok, isTy_s, if_true, aCons_ap, aNil_ap, eL_ap, q1, map_ok, hj1, ofO_some, lift_ok]
    · rw [if_f (by simp [he, lim0])]
      rfl
theorem wt_eq (t : Tie) : wt t = t.1 ++ " " ++ t.2.1 ++ " " ++ t.2.2 := by
  unfold wt
  rw [show [t.1, t.2.1, t.2.2] = t.1 :: ([t.2.1] ++ [t.2.2]) from rfl, join_snoc, show [t.2.1] = [] ++ [t.2.1] from rfl, join_snoc]
  rfl
/-- a net's text so far -/
def wsf (ts : List Tie) : Str := if ts = [] then "" else ", " ++ Txt.join ", " (ts.map wt)
theorem app_assoc (a b c : Str) : a ++ b ++ c = a ++ (b ++ c) := by
  show (⟨(a.cps ++ b.cps) ++ c.cps⟩ : Str) = ⟨a.cps ++ (b.cps ++ c.cps)⟩
  rw [Array.append_assoc]
theorem nil_app (a : Str) : ("" : Str) ++ a = a := by
  show (⟨#[] ++ a.cps⟩ : Str) = a
  simp
theorem wsf_snoc (ts : List Tie) (t : Tie) : wsf (ts ++ [t]) = wsf ts ++ ", " ++ t.1 ++ " " ++ t.2.1 ++ " " ++ t.2.2 := by
  unfold wsf
  rw [if_neg (by simp)]
  have e : wsf ts ++ ", " ++ t.1 ++ " " ++ t.2.1 ++ " " ++ t.2.2 = wsf ts ++ (", " ++ wt t) := by
    rw [wt_eq]
    simp only [app_assoc]
  have e' := e
  unfold wsf at e'
  rw [e']
  cases ts with
  | nil => rw [if_pos rfl, nil_app]; rfl
  | cons s ts =>
    rw [if_neg (by simp), List.map_append, List.map_cons, List.map_singleton, List.cons_append, join_snoc]
    simp only [app_assoc]
theorem v_net_written {ts : List Tie} (hl : ts.length ≤ 12) (h : ∀ t ∈ ts, nmT t) : f_net_written [.list (ts.map encT)] = .ok (.str (wnet ts)) := by
  have hs0 : startS 5 [PyData.list (ts.map encT)] = [.val (.list (ts.map encT)), .emp, .emp, .emp, .emp] := rfl
  have lim0 : (0 : Nat) ≤ LIM := by decide
  have c2 : (", " : Str).length = 2 := rfl
  have c1 : (" " : Str).length = 1 := rfl
  refine runD_rt ?_
  unfold m_net_written wnet
  rw [hs0]
  by_cases e : ts = []
  · subst e
    rw [seq_rt (d := .str "-")]
    · rfl
    · rw [if_t]
      · rfl
      · have he : eqD (.list []) (.list []) = some (.bool true) := eq_strs [] []
        simp [lim0, he]
  · have he : eqD (.list (ts.map encT)) (.list []) = some (.bool false) := by
      have h2 := plainAll_map encT_plain ts
      have h4 := depthAll_map encT_depth ts
      rw [eq_of (by simpa [PyData.plain] using h2) rfl (by simp only [PyData.depth]; omega)]
      cases ts with
      | nil => exact absurd rfl e
      | cons t ts => rfl
    have wl : ∀ pre : List Tie, (∀ t ∈ pre, nmT t) → (wsf pre).length ≤ pre.length * 23 + 2 := by
      intro pre hp
      unfold wsf
      split
      · have : ("" : Str).length = 0 := rfl
        omega
      · have w1 : ∀ y ∈ pre.map wt, y.length ≤ 21 := by
          intro y hy
          obtain ⟨t, ht, rfl⟩ := List.mem_map.mp hy
          exact wt_len (hp t ht)
        have s1 := sum_le w1
        have j1 := join_len ", " (pre.map wt)
        rw [c2] at j1
        rw [List.length_map] at s1 j1
        rw [Str.length_append, c2]
        omega
    obtain ⟨ρ', ⟨a2, a3, a4, rfl⟩, hloop⟩ := loopS_inv (enc := encT) (xs := ts) (fun pre ρ => ∃ a2 a3 a4 : Option D, ρ = [.val (.list (ts.map encT)), .val (.str (wsf pre)), ov a2, ov a3, ov a4]) (h := bodyH (tTupT 3 (tsCons (tName 2) (tsCons (tName 3) (tsCons (tName 4) (tsNil))))) (sSet 1 (e2 addD (e2 addD (e2 addD (e2 addD (e2 addD (e2 addD (eVar 1) (eC (.str ", "))) (eVar 2)) (eC (.str " "))) (eVar 3)) (eC (.str " "))) (eVar 4)))) (fun pre t post eq ρ hρ => by
      obtain ⟨a2, a3, a4, rfl⟩ := hρ
      have hpl : pre.length < 12 := by
        have := congrArg List.length eq
        simp at this
        omega
      have hw := wl pre fun s hs => h s (by rw [eq]; simp [hs])
      have ht := h t (by rw [eq]; simp)
      have n1 := (nm_ok ht.1).2.1
      have n2 := (nm_ok ht.2.1).2.1
      have n3 := (nm_ok ht.2.2).2.1
      generalize hW : wsf pre = W at *
      have b1 : addD (.str W) (.str ", ") = some (.str (W ++ ", ")) := add_str (by rw [c2]; unfold LIM; omega)
      have b2 : addD (.str (W ++ ", ")) (.str t.1) = some (.str (W ++ ", " ++ t.1)) := add_str (by rw [Str.length_append, c2]; unfold LIM; omega)
      have b3 : addD (.str (W ++ ", " ++ t.1)) (.str " ") = some (.str (W ++ ", " ++ t.1 ++ " ")) := add_str (by simp only [Str.length_append, c2, c1]; unfold LIM; omega)
      have b4 : addD (.str (W ++ ", " ++ t.1 ++ " ")) (.str t.2.1) = some (.str (W ++ ", " ++ t.1 ++ " " ++ t.2.1)) := add_str (by simp only [Str.length_append, c2, c1]; unfold LIM; omega)
      have b5 : addD (.str (W ++ ", " ++ t.1 ++ " " ++ t.2.1)) (.str " ") = some (.str (W ++ ", " ++ t.1 ++ " " ++ t.2.1 ++ " ")) := add_str (by simp only [Str.length_append, c2, c1]; unfold LIM; omega)
      have b6 : addD (.str (W ++ ", " ++ t.1 ++ " " ++ t.2.1 ++ " ")) (.str t.2.2) = some (.str (W ++ ", " ++ t.1 ++ " " ++ t.2.1 ++ " " ++ t.2.2)) := add_str (by simp only [Str.length_append, c2, c1]; unfold LIM; omega)
      refine ⟨_, ⟨some (.str t.1), some (.str t.2.1), some (.str t.2.2), rfl⟩, .inl ?_⟩
      rw [wsf_snoc, hW]
      simp [encT, b1, b2, b3, b4, b5, b6, ov_v]) (ρ := [.val (.list (ts.map encT)), .val (.str ""), .emp, .emp, .emp]) ⟨none, none, none, rfl⟩
    have hws : wsf ts = ", " ++ Txt.join ", " (ts.map wt) := by unfold wsf; rw [if_neg e]
    have hwl := wl ts h
    have hcut : slS (.str (wsf ts)) (some 2) none = some (.str (Txt.join ", " (ts.map wt))) := by
      have hlen : (wsf ts).cps.toList.length ≤ LIM := by rw [txt_length]; unfold LIM; omega
      have := slS_tl hlen 2
      rw [txt_eta] at this
      have e2 : (wsf ts).cps.toList.drop 2 = (Txt.join ", " (ts.map wt)).cps.toList := by
        rw [hws]
        show ((", " : Str).cps ++ (Txt.join ", " (ts.map wt)).cps).toList.drop 2 = _
        rw [Array.toList_append]
        have : (", " : Str).cps.toList = [44, 32] := by decide +kernel
        rw [this]
        rfl
      rw [e2, txt_eta] at this
      exact this
    rw [seq_nx (ρ' := [.val (.list (ts.map encT)), .emp, .emp, .emp, .emp]) (by rw [if_f (by simp [he, lim0])]; rfl), seq_nx (ρ' := [.val (.list (ts.map encT)), .val (.str ""), .emp, .emp, .emp]) (by simp), seq_nx (ρ' := [.val (.list (ts.map encT)), .val (.str (wsf ts)), ov a2, ov a3, ov a4]), if_neg e]
    · simp [hcut]
    · rw [sFor_ap, ← hloop]
      simp
theorem tame_netE (ts : List Tie) : tame (.list (ts.map encT)) := by
  have h2 := plainAll_map encT_plain ts
  have h4 := depthAll_map encT_depth ts
  refine ⟨?_, ?_⟩
  · simp [PyData.plain, h2]
  · simp only [PyData.depth]; omega
theorem eq_selfT {d : D} (t : tame d) : eqD d d = some (.bool true) := by
  rw [eq_of t.1 t.1 (by have := t.2; omega), PySem.SeqAt.eqv_refl_plain d t.1]
theorem v_same_net {ts : List Tie} (hl : ts.length ≤ 12) : f_same_net [.list (ts.map encT), .list (ts.map encT)] = .ok (.bool true) := by
  have hs0 : startS 3 [PyData.list (ts.map encT), .list (ts.map encT)] = [.val (.list (ts.map encT)), .val (.list (ts.map encT)), .emp] := rfl
  have k3 : ∀ t, isiD "tuple" (encT t) = some (.bool true) := fun r => rfl
  have he := eq_selfT (tame_netE ts)
  have q0 : (lLc [2] (tName 2) (tYesE) (eIsi "tuple" (eVar 2)) (iL (eVar 0))) [.val (.list (ts.map encT)), .val (.list (ts.map encT)), .emp] = .ok (ts.map fun r => .bool ((fun _ => true) r)) :=
    lLc_mapT (enc := encT) (by simp) (fun r hr => by simp [k3]) (by unfold LIM; omega)
  have ha : allD (.list (ts.map fun r => .bool ((fun _ => true) r))) = some (.bool (ts.all fun _ => true)) := all_f (fun _ => true) ts
  have ha2 : (ts.all fun _ => true) = true := by simp
  refine runD_rt ?_
  unfold m_same_net
  rw [hs0, seq_nx (ρ' := [.val (.list (ts.map encT)), .val (.list (ts.map encT)), .emp])]
  · simp [he]
  · rw [if_f]
    · rfl
    · simp only [tO_ap, tN_ap, toT_ap, eIsi_ap, eVar_ap, List.getElem?_cons_zero, bind_ok, isi_list, ofO_some, onB_b, map_ok, Bool.not_true, Bool.false_eq_true, if_false, eB_ap, aCons_ap, aNil_ap, eL_ap, q0, c1_ap, ha, ha2]
/-! the law -/
theorem xnx {f g : XM} {ρ ρ' : Mp.Env} {bs bs' : Bg} (h : f ρ bs = .nx ρ' bs') : xSeq f g ρ bs = g ρ' bs' := by unfold xSeq; rw [h]
theorem xl_nx {f : Mp.Env → SR} {ρ ρ' : Mp.Env} {bs : Bg} (h : f ρ = .nx ρ') : xL f ρ bs = .nx ρ' bs := by unfold xL; rw [h]; rfl
theorem xif_f {t : Mp.Env → Mp.R Bool} {f g : XM} {ρ : Mp.Env} {bs : Bg} (h : t (bor bs ρ) = .ok false) : xIf t f g ρ bs = g ρ bs := by unfold xIf; rw [h]
def onceB : XM := xSeq (xReg 6 1 f_read_table (aCons (eCall 1 f_table_written (aCons (eVar 1) (aNil))) (aNil))) (xSeq (xReg 7 1 f_read_net (aCons (eCall 1 f_net_written (aCons (eVar 2) (aNil))) (aNil))) (xSeq (xIf (tO (tN (toT (eCall 2 f_same_table (aCons (eVar 6) (aCons (eVar 1) (aNil)))))) (tN (toT (eCall 2 f_same_net (aCons (eVar 7) (aCons (eVar 2) (aNil))))))) (xL (sRet (eC (.bool false)))) (xNx)) (xSeq (xApp0 6) (xSeq (xTwo 6) (xAppR 7)))))
theorem once {names : List Str} {rows : List (List Str)} {ts : List Tie} (hT : OkT names rows) (hl : ts.length ≤ 12) (hN : ∀ t ∈ ts, nmT t) (hg : goodN ts = true) (hf : fitsN ts = true) (s h : D) (o4 : Option D) (k : D) (s6 s7 : Sl) (bs : Bg) (hs : (s6 = .emp ∧ s7 = .emp ∧ bs = []) ∨ (s6 = .pin ∧ s7 = .pin ∧ ∃ n, bs = [(6, .two n), (7, .junk)])) : ∃ n, onceB [.val s, .val (tabE names rows), .val (.list (ts.map encT)), .val h, ov o4, .val k, s6, s7] bs = .nx [.val s, .val (tabE names rows), .val (.list (ts.map encT)), .val h, ov o4, .val k, .pin, .pin] [(6, .two n), (7, .junk)] := by
  have w1 := v_table_written hT
  have w2 := v_net_written hl hN
  have bt : bigT (wtab names rows) := Nat.le_trans (wtab_len hT.a hT.c hT.d hT.b) (by omega)
  have bn : bigT (wnet ts) := Nat.le_trans (wnet_len hl hN) (by omega)
  have r1 : f_read_table [.str (wtab names rows)] = .ok (tabE names rows) := by rw [v_read_table bt, tabD_wr hT.e hT.d hT.f]; rfl
  have r2 : f_read_net [.str (wnet ts)] = .ok (.list (ts.map encT)) := by rw [v_read_net bn, netD_wt hN hg hf]
  have c1 := v_same_table hT
  have c2 := v_same_net hl
  have ha := hT.a
  have l1 : (names.map PyData.str).length < LIM := by rw [List.length_map]; unfold LIM; omega
  have l2 : (ts.map encT).length < LIM := by rw [List.length_map]; unfold LIM; omega
  refine ⟨(names.map PyData.str).length + (rows.map encR).length + 1, ?_⟩
  unfold onceB
  have st1 : ∀ g : XM, xSeq (xReg 6 1 f_read_table (aCons (eCall 1 f_table_written (aCons (eVar 1) (aNil))) (aNil))) (xSeq (xReg 7 1 f_read_net (aCons (eCall 1 f_net_written (aCons (eVar 2) (aNil))) (aNil))) g) [.val s, .val (tabE names rows), .val (.list (ts.map encT)), .val h, ov o4, .val k, s6, s7] bs = g [.val s, .val (tabE names rows), .val (.list (ts.map encT)), .val h, ov o4, .val k, .pin, .pin] [(6, .reg (tabE names rows)), (7, .reg (.list (ts.map encT)))] := by
    intro g
    have hm : ∀ (s6 s7 : Sl) (bs : Bg), mayPin bs [.val s, .val (tabE names rows), .val (.list (ts.map encT)), .val h, ov o4, .val k, s6, s7] 6 = true → mayPin (setB bs 6 (.reg (tabE names rows))) [.val s, .val (tabE names rows), .val (.list (ts.map encT)), .val h, ov o4, .val k, .pin, s7] 7 = true → xSeq (xReg 6 1 f_read_table (aCons (eCall 1 f_table_written (aCons (eVar 1) (aNil))) (aNil))) (xSeq (xReg 7 1 f_read_net (aCons (eCall 1 f_net_written (aCons (eVar 2) (aNil))) (aNil))) g) [.val s, .val (tabE names rows), .val (.list (ts.map encT)), .val h, ov o4, .val k, s6, s7] bs = g [.val s, .val (tabE names rows), .val (.list (ts.map encT)), .val h, ov o4, .val k, .pin, .pin] (setB (setB bs 6 (.reg (tabE names rows))) 7 (.reg (.list (ts.map encT)))) := by
      intro s6 s7 bs h1 h2
      rw [xnx (ρ' := [.val s, .val (tabE names rows), .val (.list (ts.map encT)), .val h, ov o4, .val k, .pin, s7]) (bs' := setB bs 6 (.reg (tabE names rows))), xnx (ρ' := [.val s, .val (tabE names rows), .val (.list (ts.map encT)), .val h, ov o4, .val k, .pin, .pin]) (bs' := setB (setB bs 6 (.reg (tabE names rows))) 7 (.reg (.list (ts.map encT))))]
      · unfold xReg
        simp only [aCons_ap, aNil_ap, eCall_ap, eVar_ap, List.getElem?_cons_succ, List.getElem?_cons_zero, bind_ok, List.length_singleton, if_true, w2, r2]
        rw [if_pos ⟨trivial, rfl⟩, if_pos ⟨rfl, h2⟩]
        rfl
      · unfold xReg
        simp only [aCons_ap, aNil_ap, eCall_ap, eVar_ap, List.getElem?_cons_succ, List.getElem?_cons_zero, bind_ok, List.length_singleton, if_true, w1, r1]
        rw [if_pos ⟨trivial, rfl⟩, if_pos ⟨rfl, h1⟩]
        rfl
    rcases hs with ⟨rfl, rfl, rfl⟩ | ⟨rfl, rfl, n, rfl⟩
    · rw [hm _ _ _ rfl rfl]
      rfl
    · rw [hm _ _ _ rfl rfl]
      rfl
  rw [st1]
  have hb : bor [(6, .reg (tabE names rows)), (7, .reg (.list (ts.map encT)))] [.val s, .val (tabE names rows), .val (.list (ts.map encT)), .val h, ov o4, .val k, .pin, .pin] = [.val s, .val (tabE names rows), .val (.list (ts.map encT)), .val h, ov o4, .val k, .val (tabE names rows), .val (.list (ts.map encT))] := by
    cases o4 <;> rfl
  rw [xnx (ρ' := [.val s, .val (tabE names rows), .val (.list (ts.map encT)), .val h, ov o4, .val k, .pin, .pin]) (bs' := [(6, .reg (tabE names rows)), (7, .reg (.list (ts.map encT)))])]
  · rw [xnx (ρ' := [.val s, .val (tabE names rows), .val (.list (ts.map encT)), .val h, ov o4, .val k, .pin, .pin]) (bs' := [(6, .two ((names.map PyData.str).length + (rows.map encR).length + 1)), (7, .reg (.list (ts.map encT)))])]
    · rw [xnx (ρ' := [.val s, .val (tabE names rows), .val (.list (ts.map encT)), .val h, ov o4, .val k, .pin, .pin]) (bs' := [(6, .two ((names.map PyData.str).length + (rows.map encR).length + 1)), (7, .reg (.list (ts.map encT)))]) (show xTwo 6 _ _ = _ from rfl)]
      show (if (ts.map encT).length < LIM then _ else _) = _
      rw [if_pos l2]
      rfl
    · show (if (names.map PyData.str).length < LIM then _ else _) = _
      rw [if_pos l1]
      rfl
  · rw [xif_f]
    · rfl
    · rw [hb]
      simp [c1, c2]
theorem plain : ∀ ns : List Int, ns.length ≤ 63 → f_law [scr ns] = .ok (.bool true) := by
  intro ns _
  obtain ⟨names, rows, hTb, ta, tb, tc, td, te, tf⟩ := v_table2 ns 1
  obtain ⟨ts, hNb, hl, hN, hg, hf⟩ := v_net2 ns 10
  have hT : OkT names rows := ⟨ta, tb, tc, td, te, tf⟩
  rw [show ((1 : Nat) : Int) = 1 from rfl] at hTb
  rw [show ((10 : Nat) : Int) = 10 from rfl] at hNb
  have hTb' : f_table [scr ns, .int 1] = .ok (tabE names rows) := hTb
  have hs0 : startS 8 [scr ns] = [.val (scr ns), .emp, .emp, .emp, .emp, .emp, .emp, .emp] := rfl
  generalize scr ns = s at *
  have lim2 : (2 : Nat) ≤ LIM := by decide
  obtain ⟨h, hh⟩ : ∃ h : D, h = .list [tabE names rows, .list (ts.map encT)] := ⟨_, rfl⟩
  have i1 : idxD h (.int 0) = some (tabE names rows) := by rw [hh]; rfl
  have i2 : idxD h (.int 1) = some (.list (ts.map encT)) := by rw [hh]; rfl
  have i3 : idxD (tabE names rows) (.int 1) = some (.list (rows.map encR)) := rfl
  have a1 := v_show_table hT
  have a2 := v_table_written hT
  have a3 := v_show_net hl hN
  have a4 := v_net_written hl hN
  have a5 := v_copy hT
  obtain ⟨ρ', ⟨o4, rfl⟩, hloop⟩ := loopS_inv (enc := encR) (xs := rows) (fun pre ρ => ∃ o4 : Option D, ρ = [.val s, .val (tabE names rows), .val (.list (ts.map encT)), .val h, ov o4, .emp, .emp, .emp]) (h := bodyH (tName 4) (sIf (toT (e2 neD (eCall 1 f_show_row (aCons (eVar 4) (aNil))) (eCall 1 f_written (aCons (eVar 4) (aNil))))) (sRet (eC (.bool false))) (sNx))) (fun pre r post e ρ hρ => by
    obtain ⟨o4, rfl⟩ := hρ
    have hr := hT.row r (List.mem_cons_of_mem _ (by rw [e]; simp))
    have b1 := v_show_row r hr.1 hr.2
    have b2 := v_written2 r hr.1 hr.2
    refine ⟨_, ⟨some (encR r), rfl⟩, .inl ?_⟩
    simp [b1, b2, ov_v]) (ρ := [.val s, .val (tabE names rows), .val (.list (ts.map encT)), .val h, .emp, .emp, .emp, .emp]) ⟨none, rfl⟩
  obtain ⟨n1, once1⟩ := once hT hl hN hg hf s h o4 (.int 0) .emp .emp [] (.inl ⟨rfl, rfl, rfl⟩)
  obtain ⟨n2, once2⟩ := once hT hl hN hg hf s h o4 (.int 1) .pin .pin [(6, .two n1), (7, .junk)] (.inr ⟨rfl, rfl, n1, rfl⟩)
  have hfin : eqD h (.list [tabE names rows, .list (ts.map encT)]) = some (.bool true) := by
    have t1 := tame_tabE hT
    have t2 := tame_netE ts
    have p2 := t2.1
    have d1 : (tabE names rows).depth ≤ 4 := by
      have h3 := encR_depth names
      have h4 := depthAll_map encR_depth rows
      simp only [tabE, PyData.depth, PyData.depthAll]; omega
    have d2 : (PyData.list (ts.map encT)).depth ≤ 3 := by
      have h4 := depthAll_map encT_depth ts
      simp only [PyData.depth]; omega
    rw [hh]
    refine eq_selfT ⟨?_, ?_⟩
    · show (PyData.plain (tabE names rows) && (PyData.plain (.list (ts.map encT)) && true)) = true
      rw [t1.1, p2]
      rfl
    · have e : (PyData.list [tabE names rows, .list (ts.map encT)]).depth = PyData.depthAll [tabE names rows, .list (ts.map encT)] + 1 ∨ (PyData.list [tabE names rows, .list (ts.map encT)]).depth = 1 + PyData.depthAll [tabE names rows, .list (ts.map encT)] := by
        first | exact .inl rfl | exact .inr rfl | (left; rw [PyData.depth]) | (right; rw [PyData.depth])
      have e2 : PyData.depthAll [tabE names rows, .list (ts.map encT)] ≤ 4 := by
        rw [PyData.depthAll, PyData.depthAll, PyData.depthAll]
        omega
      omega
  have lst : (lLst (aCons (eVar 1) (aCons (eVar 2) (aNil)))) [.val s, .val (tabE names rows), .val (.list (ts.map encT)), .val h, ov o4, .val (.int 1), .pin, .pin] = .ok [tabE names rows, .list (ts.map encT)] := by
    simp [lim2]
  show runX 8 m_law [s] = _
  unfold runX m_law
  rw [hs0]
  have final : ∀ r, r = XR.rt (.bool true) [(6, .two n2), (7, .junk)] → (match r with | .rt d _ => Mp.R.ok d | .nx _ _ => .ok .none | .exc c _ => .exc c | _ => .bad) = .ok (.bool true) := by
    intro r e; rw [e]
  apply final
  rw [xnx (xl_nx (ρ' := [.val s, .val (tabE names rows), .emp, .emp, .emp, .emp, .emp, .emp]) (by simp [hTb']))]
  rw [xnx (xl_nx (ρ' := [.val s, .val (tabE names rows), .val (.list (ts.map encT)), .emp, .emp, .emp, .emp, .emp]) (by simp [hNb]))]
  rw [xnx (xl_nx (ρ' := [.val s, .val (tabE names rows), .val (.list (ts.map encT)), .val h, .emp, .emp, .emp, .emp]) (by
    have l0 : listD (.list (ts.map encT)) = some (ts.map encT) := rfl
    simp [a5, l0, lim2, hh]))]
  rw [xnx (xl_nx (ρ' := [.val s, .val (tabE names rows), .val (.list (ts.map encT)), .val h, .emp, .emp, .emp, .emp]) (by
    rw [if_f]
    · rfl
    · simp [i1, i2, a1, a2, a3, a4]))]
  rw [xnx (xl_nx (ρ' := [.val s, .val (tabE names rows), .val (.list (ts.map encT)), .val h, ov o4, .emp, .emp, .emp]) (by
    rw [sFor_ap, ← hloop]
    simp [i1, i3]))]
  rw [xnx (ρ' := [.val s, .val (tabE names rows), .val (.list (ts.map encT)), .val h, ov o4, .val (.int 1), .pin, .pin]) (bs' := [(6, .two n2), (7, .junk)])]
  · unfold xL
    simp only [sRet_ap, e2_ap, eVar_ap, List.getElem?_cons_succ, List.getElem?_cons_zero, bind_ok, eL_ap, lst, map_ok, hfin, ofO_some, lift_ok]
    rfl
  · show (match iR1 (aCons (eC (.int 2)) aNil) [.val s, .val (tabE names rows), .val (.list (ts.map encT)), .val h, ov o4, .emp, .emp, .emp] with | .ok ds => loopX (bodyX (tName 5) onceB) ds _ [] | .exc c => .exc c [] | .bad => .bad) = _
    have hr : iR1 (aCons (eC (.int 2)) aNil) [.val s, .val (tabE names rows), .val (.list (ts.map encT)), .val h, ov o4, .emp, .emp, .emp] = .ok [.int 0, .int 1] := rfl
    rw [hr]
    show loopX (bodyX (tName 5) onceB) [.int 0, .int 1] _ [] = _
    have t1 : tName 5 (.int 0) [.val s, .val (tabE names rows), .val (.list (ts.map encT)), .val h, ov o4, .emp, .emp, .emp] = .ok [.val s, .val (tabE names rows), .val (.list (ts.map encT)), .val h, ov o4, .val (.int 0), .emp, .emp] := rfl
    have t2 : tName 5 (.int 1) [.val s, .val (tabE names rows), .val (.list (ts.map encT)), .val h, ov o4, .val (.int 0), .pin, .pin] = .ok [.val s, .val (tabE names rows), .val (.list (ts.map encT)), .val h, ov o4, .val (.int 1), .pin, .pin] := rfl
    unfold loopX bodyX
    rw [t1]
    dsimp only
    rw [once1]
    dsimp only
    unfold loopX
    rw [t2]
    dsimp only
    rw [once2]
    rfl
end K72

set_option Elab.async false
set_option linter.all false
set_option maxRecDepth 100000
set_option maxHeartbeats 0
/-! K72h: the head. -/
namespace K72
open PySem PySem.Spec PyProof.Rows L2 Mp
def dd_places_of : He.DefD := ⟨("places_of", none), "places_of", "places_of", defArgs st_places_of, defBody st_places_of, defScope st_places_of, [], []⟩
def dd_mask_of : He.DefD := ⟨("mask_of", none), "mask_of", "mask_of", defArgs st_mask_of, defBody st_mask_of, defScope st_mask_of, [], []⟩
def dd_lead_of : He.DefD := ⟨("lead_of", none), "lead_of", "lead_of", defArgs st_lead_of, defBody st_lead_of, defScope st_lead_of, [], []⟩
def dd_reduced : He.DefD := ⟨("reduced", none), "reduced", "reduced", defArgs st_reduced, defBody st_reduced, defScope st_reduced, [], []⟩
def dd_steps_of : He.DefD := ⟨("steps_of", none), "steps_of", "steps_of", defArgs st_steps_of, defBody st_steps_of, defScope st_steps_of, [], []⟩
def dd_is_name : He.DefD := ⟨("is_name", none), "is_name", "is_name", defArgs st_is_name, defBody st_is_name, defScope st_is_name, [], []⟩
def dd_is_row : He.DefD := ⟨("is_row", none), "is_row", "is_row", defArgs st_is_row, defBody st_is_row, defScope st_is_row, [], []⟩
def dd_keeps_bounds : He.DefD := ⟨("keeps_bounds", none), "keeps_bounds", "keeps_bounds", defArgs st_keeps_bounds, defBody st_keeps_bounds, defScope st_keeps_bounds, [], []⟩
def dd_are_rows_of : He.DefD := ⟨("are_rows_of", none), "are_rows_of", "are_rows_of", defArgs st_are_rows_of, defBody st_are_rows_of, defScope st_are_rows_of, [], []⟩
def dd_is_table : He.DefD := ⟨("is_table", none), "is_table", "is_table", defArgs st_is_table, defBody st_is_table, defScope st_is_table, [], []⟩
def dd_is_tie : He.DefD := ⟨("is_tie", none), "is_tie", "is_tie", defArgs st_is_tie, defBody st_is_tie, defScope st_is_tie, [], []⟩
def dd_are_ties : He.DefD := ⟨("are_ties", none), "are_ties", "are_ties", defArgs st_are_ties, defBody st_are_ties, defScope st_are_ties, [], []⟩
def dd_is_bounded : He.DefD := ⟨("is_bounded", none), "is_bounded", "is_bounded", defArgs st_is_bounded, defBody st_is_bounded, defScope st_is_bounded, [], []⟩
def dd_is_net : He.DefD := ⟨("is_net", none), "is_net", "is_net", defArgs st_is_net, defBody st_is_net, defScope st_is_net, [], []⟩
def dd_points : He.DefD := ⟨("points", none), "points", "points", defArgs st_points, defBody st_points, defScope st_points, [], []⟩
def dd_heaps_of : He.DefD := ⟨("heaps_of", none), "heaps_of", "heaps_of", defArgs st_heaps_of, defBody st_heaps_of, defScope st_heaps_of, [], []⟩
def dd_pieces : He.DefD := ⟨("pieces", none), "pieces", "pieces", defArgs st_pieces, defBody st_pieces, defScope st_pieces, [], []⟩
def dd_show_row : He.DefD := ⟨("show_row", none), "show_row", "show_row", defArgs st_show_row, defBody st_show_row, defScope st_show_row, [], []⟩
def dd_show_table : He.DefD := ⟨("show_table", none), "show_table", "show_table", defArgs st_show_table, defBody st_show_table, defScope st_show_table, [], []⟩
def dd_show_net : He.DefD := ⟨("show_net", none), "show_net", "show_net", defArgs st_show_net, defBody st_show_net, defScope st_show_net, [], []⟩
def dd_look : He.DefD := ⟨("look", none), "look", "look", defArgs st_look, defBody st_look, defScope st_look, [], []⟩
def dd_read_row : He.DefD := ⟨("read_row", none), "read_row", "read_row", defArgs st_read_row, defBody st_read_row, defScope st_read_row, [], []⟩
def dd_read_table : He.DefD := ⟨("read_table", none), "read_table", "read_table", defArgs st_read_table, defBody st_read_table, defScope st_read_table, [], []⟩
def dd_read_tie : He.DefD := ⟨("read_tie", none), "read_tie", "read_tie", defArgs st_read_tie, defBody st_read_tie, defScope st_read_tie, [], []⟩
def dd_read_net : He.DefD := ⟨("read_net", none), "read_net", "read_net", defArgs st_read_net, defBody st_read_net, defScope st_read_net, [], []⟩
def dd_cell_at : He.DefD := ⟨("_law_cell_at", none), "_law_cell_at", "_law_cell_at", defArgs st_cell_at, defBody st_cell_at, defScope st_cell_at, [], []⟩
def dd_big : He.DefD := ⟨("_law_big", none), "_law_big", "_law_big", defArgs st_big, defBody st_big, defScope st_big, [], []⟩
def dd_names : He.DefD := ⟨("_law_names", none), "_law_names", "_law_names", defArgs st_names, defBody st_names, defScope st_names, [], []⟩
def dd_ends : He.DefD := ⟨("_law_ends", none), "_law_ends", "_law_ends", defArgs st_ends, defBody st_ends, defScope st_ends, [], []⟩
def dd_net : He.DefD := ⟨("_law_net", none), "_law_net", "_law_net", defArgs st_net, defBody st_net, defScope st_net, [], []⟩
def dd__law_reduced : He.DefD := ⟨("_law_reduced", none), "_law_reduced", "_law_reduced", defArgs st__law_reduced, defBody st__law_reduced, defScope st__law_reduced, [], []⟩
def dd_even : He.DefD := ⟨("_law_even", none), "_law_even", "_law_even", defArgs st_even, defBody st_even, defScope st_even, [], []⟩
def dd_crossing : He.DefD := ⟨("_law_crossing", none), "_law_crossing", "_law_crossing", defArgs st_crossing, defBody st_crossing, defScope st_crossing, [], []⟩
def dd_small : He.DefD := ⟨("_law_small", none), "_law_small", "_law_small", defArgs st_small, defBody st_small, defScope st_small, [], []⟩
def dd_with_more : He.DefD := ⟨("_law_with_more", none), "_law_with_more", "_law_with_more", defArgs st_with_more, defBody st_with_more, defScope st_with_more, [], []⟩
def dd_row : He.DefD := ⟨("_law_row", none), "_law_row", "_law_row", defArgs st_row, defBody st_row, defScope st_row, [], []⟩
def dd_free : He.DefD := ⟨("_law_free", none), "_law_free", "_law_free", defArgs st_free, defBody st_free, defScope st_free, [], []⟩
def dd__law_steps_of : He.DefD := ⟨("_law_steps_of", none), "_law_steps_of", "_law_steps_of", defArgs st__law_steps_of, defBody st__law_steps_of, defScope st__law_steps_of, [], []⟩
def dd_table : He.DefD := ⟨("_law_table", none), "_law_table", "_law_table", defArgs st_table, defBody st_table, defScope st_table, [], []⟩
def dd_copy : He.DefD := ⟨("_law_copy", none), "_law_copy", "_law_copy", defArgs st_copy, defBody st_copy, defScope st_copy, [], []⟩
def dd_same_table : He.DefD := ⟨("_law_same_table", none), "_law_same_table", "_law_same_table", defArgs st_same_table, defBody st_same_table, defScope st_same_table, [], []⟩
def dd_same_net : He.DefD := ⟨("_law_same_net", none), "_law_same_net", "_law_same_net", defArgs st_same_net, defBody st_same_net, defScope st_same_net, [], []⟩
def dd_written : He.DefD := ⟨("_law_written", none), "_law_written", "_law_written", defArgs st_written, defBody st_written, defScope st_written, [], []⟩
def dd_table_written : He.DefD := ⟨("_law_table_written", none), "_law_table_written", "_law_table_written", defArgs st_table_written, defBody st_table_written, defScope st_table_written, [], []⟩
def dd_net_written : He.DefD := ⟨("_law_net_written", none), "_law_net_written", "_law_net_written", defArgs st_net_written, defBody st_net_written, defScope st_net_written, [], []⟩
def dd_law : He.DefD := ⟨("law", none), "law", "law", defArgs st_law, defBody st_law, defScope st_law, [], []⟩
def fnL : List He.DefD := [dd_places_of, dd_mask_of, dd_lead_of, dd_reduced, dd_steps_of, dd_is_name, dd_is_row, dd_keeps_bounds, dd_are_rows_of, dd_is_table, dd_is_tie, dd_are_ties, dd_is_bounded, dd_is_net, dd_points, dd_heaps_of, dd_pieces, dd_show_row, dd_show_table, dd_show_net, dd_look, dd_read_row, dd_read_table, dd_read_tie, dd_read_net, dd_cell_at, dd_big, dd_names, dd_ends, dd_net, dd__law_reduced, dd_even, dd_crossing, dd_small, dd_with_more, dd_row, dd_free, dd__law_steps_of, dd_table, dd_copy, dd_same_table, dd_same_net, dd_written, dd_table_written, dd_net_written, dd_law]
def fa0 : List He.Fa := [.glo "places_of", .glo "mask_of", .glo "lead_of", .glo "reduced", .glo "steps_of", .glo "is_name", .glo "is_row", .glo "keeps_bounds", .glo "are_rows_of", .glo "is_table", .glo "is_tie", .glo "are_ties", .glo "is_bounded", .glo "is_net", .glo "points", .glo "heaps_of", .glo "pieces", .glo "show_row", .glo "show_table", .glo "show_net", .glo "look", .glo "read_row", .glo "read_table", .glo "read_tie", .glo "read_net", .glo "_law_cell_at", .glo "_law_big", .glo "_law_names", .glo "_law_ends", .glo "_law_net"]
def fa1 : List He.Fa := [.glo "_law_reduced", .glo "_law_even", .glo "_law_crossing", .glo "_law_small", .glo "_law_with_more", .glo "_law_row", .glo "_law_free", .glo "_law_steps_of", .glo "_law_table", .glo "_law_copy", .glo "_law_same_table", .glo "_law_same_net", .glo "_law_written", .glo "_law_table_written", .glo "_law_net_written", .glo "law", .glo "NoText", .glo "TooMany", .free "abs", .free "all", .int "MOST_NAMES" 12, .int "MOST_ROWS" 16, .int "MOST_SIGNS" 6, .int "MOST_STEPS" 8, .str "SIGNS" "abcdefghijklmnopqrstuvwxyz0123456789", .exc "NoText", .exc "TooMany", .free "enumerate", .free "isinstance", .free "len"]
def fa2 : List He.Fa := [.free "list", .free "min", .free "range", .free "set", .free "sorted", .free "str", .free "sum", .free "tuple", .free "zip"]
def fa : List He.Fa := fa0 ++ fa1 ++ fa2
def exB (K : PySem.W.Frag) : Bool := true
abbrev RR : PySem.W.OpenRow := PySem.W.OpenLaw.row PySem.Challenge.rw_roundsalone_k72_texts_written
abbrev hk : PySem.W.Hook := He.hookX 4 fa fnL [] [] exB
def ob (s : PySem.W.SharedT) : He.AlX := He.obsX 4 fa fnL [] [] exB (HandSHeadRun.getT s)
theorem ob_eq (s : PySem.W.SharedT) : ob s = hk.obs s.abs := He.obsX_eq (HandSHeadRun.getT_eq s)
def lo0 : List PySem.Str := ["__name__", "RoundError", "TooMany", "NoText", "places_of", "mask_of", "lead_of", "reduced", "steps_of", "SIGNS", "MOST_SIGNS", "is_name", "is_row", "MOST_NAMES", "MOST_ROWS", "MOST_STEPS", "keeps_bounds", "are_rows_of", "is_table", "is_tie", "are_ties", "is_bounded", "is_net", "points", "heaps_of", "pieces", "show_row", "show_table", "show_net", "look"]
def lo1 : List PySem.Str := ["read_row", "read_table", "read_tie", "read_net", "_law_cell_at", "_law_big", "_law_names", "_law_ends", "_law_net", "_law_reduced", "_law_even", "_law_crossing", "_law_small", "_law_with_more", "_law_row", "_law_free", "_law_steps_of", "_law_table", "_law_copy", "_law_same_table", "_law_same_net", "_law_written", "_law_table_written", "_law_net_written"]
def loose : List PySem.Str := lo0 ++ lo1
theorem run (w : World) : HandSHeadRun.RunEq RR (PySem.W.view RR.prog [60]) hk ob 3000 loose w := by
  intro os
  kernel_rfl
theorem fs_of {K : PySem.W.Frag} {h : Heap} {mg : Str → Option Value} (X : K.In h) (G : h.Ns mainGlobals mg) (c : He.SaysD fa fnL K) : Fs K mg where
  b_abs := He.free_ok X G (c.fact 48 (f := .free "abs") rfl)
  b_all := He.free_ok X G (c.fact 49 (f := .free "all") rfl)
  c_MOST_NAMES := by
    obtain ⟨t, e⟩ := He.int_ok X G (c.fact 50 (f := .int "MOST_NAMES" 12) rfl)
    exact ⟨_, .int 12, e, ⟨t, rfl⟩, fun _ => .int _⟩
  c_MOST_ROWS := by
    obtain ⟨t, e⟩ := He.int_ok X G (c.fact 51 (f := .int "MOST_ROWS" 16) rfl)
    exact ⟨_, .int 16, e, ⟨t, rfl⟩, fun _ => .int _⟩
  c_MOST_SIGNS := by
    obtain ⟨t, e⟩ := He.int_ok X G (c.fact 52 (f := .int "MOST_SIGNS" 6) rfl)
    exact ⟨_, .int 6, e, ⟨t, rfl⟩, fun _ => .int _⟩
  c_MOST_STEPS := by
    obtain ⟨t, e⟩ := He.int_ok X G (c.fact 53 (f := .int "MOST_STEPS" 8) rfl)
    exact ⟨_, .int 8, e, ⟨t, rfl⟩, fun _ => .int _⟩
  c_SIGNS := by
    obtain ⟨t, e⟩ := He.str_ok X G (c.fact 54 (f := .str "SIGNS" "abcdefghijklmnopqrstuvwxyz0123456789") rfl)
    exact ⟨_, .str "abcdefghijklmnopqrstuvwxyz0123456789", e, ⟨t, rfl⟩, fun _ => .str _⟩
  e_NoText := by
    obtain ⟨e1, e2, e3, e4⟩ := He.exc_ok (c.fact 55 (f := .exc "NoText") rfl)
    exact ⟨_, He.glo_ok X G (c.fact 46 (f := .glo "NoText") rfl), e1, e2, e3, e4⟩
  e_TooMany := by
    obtain ⟨e1, e2, e3, e4⟩ := He.exc_ok (c.fact 56 (f := .exc "TooMany") rfl)
    exact ⟨_, He.glo_ok X G (c.fact 47 (f := .glo "TooMany") rfl), e1, e2, e3, e4⟩
  b_enumerate := He.free_ok X G (c.fact 57 (f := .free "enumerate") rfl)
  b_isinstance := He.free_ok X G (c.fact 58 (f := .free "isinstance") rfl)
  b_len := He.free_ok X G (c.fact 59 (f := .free "len") rfl)
  b_list := He.free_ok X G (c.fact 60 (f := .free "list") rfl)
  b_min := He.free_ok X G (c.fact 61 (f := .free "min") rfl)
  b_range := He.free_ok X G (c.fact 62 (f := .free "range") rfl)
  b_set := He.free_ok X G (c.fact 63 (f := .free "set") rfl)
  b_sorted := He.free_ok X G (c.fact 64 (f := .free "sorted") rfl)
  b_str := He.free_ok X G (c.fact 65 (f := .free "str") rfl)
  b_sum := He.free_ok X G (c.fact 66 (f := .free "sum") rfl)
  b_tuple := He.free_ok X G (c.fact 67 (f := .free "tuple") rfl)
  b_zip := He.free_ok X G (c.fact 68 (f := .free "zip") rfl)
  d_places_of := by
    obtain ⟨fd, F⟩ := c.def_ 0 (d := dd_places_of) rfl
    exact ⟨_, fd, F, He.glo_ok X G (c.fact 0 (f := .glo "places_of") rfl), FunD.bindsN F fun _ _ _ _ _ _ us hl => match us, hl with | [_], _ => rfl⟩
  d_mask_of := by
    obtain ⟨fd, F⟩ := c.def_ 1 (d := dd_mask_of) rfl
    exact ⟨_, fd, F, He.glo_ok X G (c.fact 1 (f := .glo "mask_of") rfl), FunD.bindsN F fun _ _ _ _ _ _ us hl => match us, hl with | [_, _], _ => rfl⟩
  d_lead_of := by
    obtain ⟨fd, F⟩ := c.def_ 2 (d := dd_lead_of) rfl
    exact ⟨_, fd, F, He.glo_ok X G (c.fact 2 (f := .glo "lead_of") rfl), FunD.bindsN F fun _ _ _ _ _ _ us hl => match us, hl with | [_], _ => rfl⟩
  d_reduced := by
    obtain ⟨fd, F⟩ := c.def_ 3 (d := dd_reduced) rfl
    exact ⟨_, fd, F, He.glo_ok X G (c.fact 3 (f := .glo "reduced") rfl), FunD.bindsN F fun _ _ _ _ _ _ us hl => match us, hl with | [_], _ => rfl⟩
  d_steps_of := by
    obtain ⟨fd, F⟩ := c.def_ 4 (d := dd_steps_of) rfl
    exact ⟨_, fd, F, He.glo_ok X G (c.fact 4 (f := .glo "steps_of") rfl), FunD.bindsN F fun _ _ _ _ _ _ us hl => match us, hl with | [_], _ => rfl⟩
  d_is_name := by
    obtain ⟨fd, F⟩ := c.def_ 5 (d := dd_is_name) rfl
    exact ⟨_, fd, F, He.glo_ok X G (c.fact 5 (f := .glo "is_name") rfl), FunD.bindsN F fun _ _ _ _ _ _ us hl => match us, hl with | [_], _ => rfl⟩
  d_is_row := by
    obtain ⟨fd, F⟩ := c.def_ 6 (d := dd_is_row) rfl
    exact ⟨_, fd, F, He.glo_ok X G (c.fact 6 (f := .glo "is_row") rfl), FunD.bindsN F fun _ _ _ _ _ _ us hl => match us, hl with | [_], _ => rfl⟩
  d_keeps_bounds := by
    obtain ⟨fd, F⟩ := c.def_ 7 (d := dd_keeps_bounds) rfl
    exact ⟨_, fd, F, He.glo_ok X G (c.fact 7 (f := .glo "keeps_bounds") rfl), FunD.bindsN F fun _ _ _ _ _ _ us hl => match us, hl with | [_, _], _ => rfl⟩
  d_are_rows_of := by
    obtain ⟨fd, F⟩ := c.def_ 8 (d := dd_are_rows_of) rfl
    exact ⟨_, fd, F, He.glo_ok X G (c.fact 8 (f := .glo "are_rows_of") rfl), FunD.bindsN F fun _ _ _ _ _ _ us hl => match us, hl with | [_, _], _ => rfl⟩
  d_is_table := by
    obtain ⟨fd, F⟩ := c.def_ 9 (d := dd_is_table) rfl
    exact ⟨_, fd, F, He.glo_ok X G (c.fact 9 (f := .glo "is_table") rfl), FunD.bindsN F fun _ _ _ _ _ _ us hl => match us, hl with | [_], _ => rfl⟩
  d_is_tie := by
    obtain ⟨fd, F⟩ := c.def_ 10 (d := dd_is_tie) rfl
    exact ⟨_, fd, F, He.glo_ok X G (c.fact 10 (f := .glo "is_tie") rfl), FunD.bindsN F fun _ _ _ _ _ _ us hl => match us, hl with | [_], _ => rfl⟩
  d_are_ties := by
    obtain ⟨fd, F⟩ := c.def_ 11 (d := dd_are_ties) rfl
    exact ⟨_, fd, F, He.glo_ok X G (c.fact 11 (f := .glo "are_ties") rfl), FunD.bindsN F fun _ _ _ _ _ _ us hl => match us, hl with | [_], _ => rfl⟩
  d_is_bounded := by
    obtain ⟨fd, F⟩ := c.def_ 12 (d := dd_is_bounded) rfl
    exact ⟨_, fd, F, He.glo_ok X G (c.fact 12 (f := .glo "is_bounded") rfl), FunD.bindsN F fun _ _ _ _ _ _ us hl => match us, hl with | [_], _ => rfl⟩
  d_is_net := by
    obtain ⟨fd, F⟩ := c.def_ 13 (d := dd_is_net) rfl
    exact ⟨_, fd, F, He.glo_ok X G (c.fact 13 (f := .glo "is_net") rfl), FunD.bindsN F fun _ _ _ _ _ _ us hl => match us, hl with | [_], _ => rfl⟩
  d_points := by
    obtain ⟨fd, F⟩ := c.def_ 14 (d := dd_points) rfl
    exact ⟨_, fd, F, He.glo_ok X G (c.fact 14 (f := .glo "points") rfl), FunD.bindsN F fun _ _ _ _ _ _ us hl => match us, hl with | [_], _ => rfl⟩
  d_heaps_of := by
    obtain ⟨fd, F⟩ := c.def_ 15 (d := dd_heaps_of) rfl
    exact ⟨_, fd, F, He.glo_ok X G (c.fact 15 (f := .glo "heaps_of") rfl), FunD.bindsN F fun _ _ _ _ _ _ us hl => match us, hl with | [_, _], _ => rfl⟩
  d_pieces := by
    obtain ⟨fd, F⟩ := c.def_ 16 (d := dd_pieces) rfl
    exact ⟨_, fd, F, He.glo_ok X G (c.fact 16 (f := .glo "pieces") rfl), FunD.bindsN F fun _ _ _ _ _ _ us hl => match us, hl with | [_], _ => rfl⟩
  d_show_row := by
    obtain ⟨fd, F⟩ := c.def_ 17 (d := dd_show_row) rfl
    exact ⟨_, fd, F, He.glo_ok X G (c.fact 17 (f := .glo "show_row") rfl), FunD.bindsN F fun _ _ _ _ _ _ us hl => match us, hl with | [_], _ => rfl⟩
  d_show_table := by
    obtain ⟨fd, F⟩ := c.def_ 18 (d := dd_show_table) rfl
    exact ⟨_, fd, F, He.glo_ok X G (c.fact 18 (f := .glo "show_table") rfl), FunD.bindsN F fun _ _ _ _ _ _ us hl => match us, hl with | [_], _ => rfl⟩
  d_show_net := by
    obtain ⟨fd, F⟩ := c.def_ 19 (d := dd_show_net) rfl
    exact ⟨_, fd, F, He.glo_ok X G (c.fact 19 (f := .glo "show_net") rfl), FunD.bindsN F fun _ _ _ _ _ _ us hl => match us, hl with | [_], _ => rfl⟩
  d_look := by
    obtain ⟨fd, F⟩ := c.def_ 20 (d := dd_look) rfl
    exact ⟨_, fd, F, He.glo_ok X G (c.fact 20 (f := .glo "look") rfl), FunD.bindsN F fun _ _ _ _ _ _ us hl => match us, hl with | [_], _ => rfl⟩
  d_read_row := by
    obtain ⟨fd, F⟩ := c.def_ 21 (d := dd_read_row) rfl
    exact ⟨_, fd, F, He.glo_ok X G (c.fact 21 (f := .glo "read_row") rfl), FunD.bindsN F fun _ _ _ _ _ _ us hl => match us, hl with | [_], _ => rfl⟩
  d_read_table := by
    obtain ⟨fd, F⟩ := c.def_ 22 (d := dd_read_table) rfl
    exact ⟨_, fd, F, He.glo_ok X G (c.fact 22 (f := .glo "read_table") rfl), FunD.bindsN F fun _ _ _ _ _ _ us hl => match us, hl with | [_], _ => rfl⟩
  d_read_tie := by
    obtain ⟨fd, F⟩ := c.def_ 23 (d := dd_read_tie) rfl
    exact ⟨_, fd, F, He.glo_ok X G (c.fact 23 (f := .glo "read_tie") rfl), FunD.bindsN F fun _ _ _ _ _ _ us hl => match us, hl with | [_], _ => rfl⟩
  d_read_net := by
    obtain ⟨fd, F⟩ := c.def_ 24 (d := dd_read_net) rfl
    exact ⟨_, fd, F, He.glo_ok X G (c.fact 24 (f := .glo "read_net") rfl), FunD.bindsN F fun _ _ _ _ _ _ us hl => match us, hl with | [_], _ => rfl⟩
  d_cell_at := by
    obtain ⟨fd, F⟩ := c.def_ 25 (d := dd_cell_at) rfl
    exact ⟨_, fd, F, He.glo_ok X G (c.fact 25 (f := .glo "_law_cell_at") rfl), FunD.bindsN F fun _ _ _ _ _ _ us hl => match us, hl with | [_, _], _ => rfl⟩
  d_big := by
    obtain ⟨fd, F⟩ := c.def_ 26 (d := dd_big) rfl
    exact ⟨_, fd, F, He.glo_ok X G (c.fact 26 (f := .glo "_law_big") rfl), FunD.bindsN F fun _ _ _ _ _ _ us hl => match us, hl with | [_, _], _ => rfl⟩
  d_names := by
    obtain ⟨fd, F⟩ := c.def_ 27 (d := dd_names) rfl
    exact ⟨_, fd, F, He.glo_ok X G (c.fact 27 (f := .glo "_law_names") rfl), FunD.bindsN F fun _ _ _ _ _ _ us hl => match us, hl with | [_, _], _ => rfl⟩
  d_ends := by
    obtain ⟨fd, F⟩ := c.def_ 28 (d := dd_ends) rfl
    exact ⟨_, fd, F, He.glo_ok X G (c.fact 28 (f := .glo "_law_ends") rfl), FunD.bindsN F fun _ _ _ _ _ _ us hl => match us, hl with | [_, _, _], _ => rfl⟩
  d_net := by
    obtain ⟨fd, F⟩ := c.def_ 29 (d := dd_net) rfl
    exact ⟨_, fd, F, He.glo_ok X G (c.fact 29 (f := .glo "_law_net") rfl), FunD.bindsN F fun _ _ _ _ _ _ us hl => match us, hl with | [_, _], _ => rfl⟩
  d__law_reduced := by
    obtain ⟨fd, F⟩ := c.def_ 30 (d := dd__law_reduced) rfl
    exact ⟨_, fd, F, He.glo_ok X G (c.fact 30 (f := .glo "_law_reduced") rfl), FunD.bindsN F fun _ _ _ _ _ _ us hl => match us, hl with | [_], _ => rfl⟩
  d_even := by
    obtain ⟨fd, F⟩ := c.def_ 31 (d := dd_even) rfl
    exact ⟨_, fd, F, He.glo_ok X G (c.fact 31 (f := .glo "_law_even") rfl), FunD.bindsN F fun _ _ _ _ _ _ us hl => match us, hl with | [_], _ => rfl⟩
  d_crossing := by
    obtain ⟨fd, F⟩ := c.def_ 32 (d := dd_crossing) rfl
    exact ⟨_, fd, F, He.glo_ok X G (c.fact 32 (f := .glo "_law_crossing") rfl), FunD.bindsN F fun _ _ _ _ _ _ us hl => match us, hl with | [_, _], _ => rfl⟩
  d_small := by
    obtain ⟨fd, F⟩ := c.def_ 33 (d := dd_small) rfl
    exact ⟨_, fd, F, He.glo_ok X G (c.fact 33 (f := .glo "_law_small") rfl), FunD.bindsN F fun _ _ _ _ _ _ us hl => match us, hl with | [_], _ => rfl⟩
  d_with_more := by
    obtain ⟨fd, F⟩ := c.def_ 34 (d := dd_with_more) rfl
    exact ⟨_, fd, F, He.glo_ok X G (c.fact 34 (f := .glo "_law_with_more") rfl), FunD.bindsN F fun _ _ _ _ _ _ us hl => match us, hl with | [_, _, _, _], _ => rfl⟩
  d_row := by
    obtain ⟨fd, F⟩ := c.def_ 35 (d := dd_row) rfl
    exact ⟨_, fd, F, He.glo_ok X G (c.fact 35 (f := .glo "_law_row") rfl), FunD.bindsN F fun _ _ _ _ _ _ us hl => match us, hl with | [_, _], _ => rfl⟩
  d_free := by
    obtain ⟨fd, F⟩ := c.def_ 36 (d := dd_free) rfl
    exact ⟨_, fd, F, He.glo_ok X G (c.fact 36 (f := .glo "_law_free") rfl), FunD.bindsN F fun _ _ _ _ _ _ us hl => match us, hl with | [_, _], _ => rfl⟩
  d__law_steps_of := by
    obtain ⟨fd, F⟩ := c.def_ 37 (d := dd__law_steps_of) rfl
    exact ⟨_, fd, F, He.glo_ok X G (c.fact 37 (f := .glo "_law_steps_of") rfl), FunD.bindsN F fun _ _ _ _ _ _ us hl => match us, hl with | [_, _], _ => rfl⟩
  d_table := by
    obtain ⟨fd, F⟩ := c.def_ 38 (d := dd_table) rfl
    exact ⟨_, fd, F, He.glo_ok X G (c.fact 38 (f := .glo "_law_table") rfl), FunD.bindsN F fun _ _ _ _ _ _ us hl => match us, hl with | [_, _], _ => rfl⟩
  d_copy := by
    obtain ⟨fd, F⟩ := c.def_ 39 (d := dd_copy) rfl
    exact ⟨_, fd, F, He.glo_ok X G (c.fact 39 (f := .glo "_law_copy") rfl), FunD.bindsN F fun _ _ _ _ _ _ us hl => match us, hl with | [_], _ => rfl⟩
  d_same_table := by
    obtain ⟨fd, F⟩ := c.def_ 40 (d := dd_same_table) rfl
    exact ⟨_, fd, F, He.glo_ok X G (c.fact 40 (f := .glo "_law_same_table") rfl), FunD.bindsN F fun _ _ _ _ _ _ us hl => match us, hl with | [_, _], _ => rfl⟩
  d_same_net := by
    obtain ⟨fd, F⟩ := c.def_ 41 (d := dd_same_net) rfl
    exact ⟨_, fd, F, He.glo_ok X G (c.fact 41 (f := .glo "_law_same_net") rfl), FunD.bindsN F fun _ _ _ _ _ _ us hl => match us, hl with | [_, _], _ => rfl⟩
  d_written := by
    obtain ⟨fd, F⟩ := c.def_ 42 (d := dd_written) rfl
    exact ⟨_, fd, F, He.glo_ok X G (c.fact 42 (f := .glo "_law_written") rfl), FunD.bindsN F fun _ _ _ _ _ _ us hl => match us, hl with | [_], _ => rfl⟩
  d_table_written := by
    obtain ⟨fd, F⟩ := c.def_ 43 (d := dd_table_written) rfl
    exact ⟨_, fd, F, He.glo_ok X G (c.fact 43 (f := .glo "_law_table_written") rfl), FunD.bindsN F fun _ _ _ _ _ _ us hl => match us, hl with | [_], _ => rfl⟩
  d_net_written := by
    obtain ⟨fd, F⟩ := c.def_ 44 (d := dd_net_written) rfl
    exact ⟨_, fd, F, He.glo_ok X G (c.fact 44 (f := .glo "_law_net_written") rfl), FunD.bindsN F fun _ _ _ _ _ _ us hl => match us, hl with | [_], _ => rfl⟩
  d_law := by
    obtain ⟨fd, F⟩ := c.def_ 45 (d := dd_law) rfl
    exact ⟨_, fd, F, He.glo_ok X G (c.fact 45 (f := .glo "law") rfl), FunD.bindsN F fun _ _ _ _ _ _ us hl => match us, hl with | [_], _ => rfl⟩

end K72
open PySem PySem.W PySem.Calls PyProof.Rows
theorem PySem.Challenge.cw_roundsalone_k72_texts_written_holds : PySem.Challenge.rw_roundsalone_k72_texts_written.Holds := by
  w_on; o_law
  refine HandSHeadRun.head_any (r := OpenLaw.row PySem.Challenge.rw_roundsalone_k72_texts_written) (q := view (OpenLaw.row PySem.Challenge.rw_roundsalone_k72_texts_written).prog [60]) (H := K72.hk) (ob := K72.ob) (M := 3000) (loose := K72.loose) (d := HandSHeadRun.topDef (OpenLaw.row PySem.Challenge.rw_roundsalone_k72_texts_written).prog 60) (kwd := []) K72.ob_eq
    (by kernel_rfl) (fun s => by kernel_rfl) K72.run (by kernel_rfl) (by kernel_rfl) (by kernel_rfl) (by rfl) (by first | assumption | decide +kernel) (by decide +kernel) ⟨rfl, rfl, rfl, rfl, rfl, by decide +kernel⟩ ?hw ?hc
  case hw => w_witness2
  case hc =>
    refine L2.walk_ofE (l := PySem.Challenge.rw_roundsalone_k72_texts_written) (n := 63) (k := 7) (x := "_law_script") (CX := Mp.CXu (PySem.Challenge.rw_roundsalone_k72_texts_written).prog) rfl (by decide) (by kernel_rfl) ⟨rfl, by decide, by decide⟩ ?F ?G
    case F =>
      intro w mg fa0 h Y G hmg0
      obtain ⟨K, KX, c⟩ := Y
      have hmg : mg ("law" : PySem.Str) = some (.ref fa0) := by
        have e : (HandSHeadRun.topDef (OpenLaw.row PySem.Challenge.rw_roundsalone_k72_texts_written).prog 60).name = ("law" : PySem.Str) := by kernel_rfl
        rw [← e]
        exact hmg0
      have cd := He.SaysT.d c.t
      have Z := K72.fs_of KX G cd
      obtain ⟨fd, F⟩ := cd.def_ 45 (d := K72.dd_law) rfl
      have e := hmg.symm.trans (He.glo_ok KX G (cd.fact 45 (f := .glo "law") rfl))
      cases e
      have b := L2.FunD.bindsA (ps := ["_law_script"]) F fun _ _ _ _ _ _ us hl => match us, hl with | [_], _ => rfl
      exact ⟨K, fd, _, KX, fun s v => b s [v] rfl, fun H a ns hl _ hS => Mp.law_sp (K := K) (mg := mg) (g := K72.f_law) K72.plain H a ns hl hS, fun base _ _ => Mp.fn_cxu (K72.h_law Z F)⟩
    case G => exact fun H s e s' hc => Mp.cxu_none H s e s' hc
