import PyProof.Rows.All
import Wide.All
import OpenK.AllK
import Wide.FinOn
import HandS.ForMost
import HandS.Star
import HandS.Gcd
import HandS.Wide
import HandS.IsInst
import HandS.ExcOwn
import HandS.Flow
import HandS.WordsExc
import PyProof.ListRange
import PyProof.RangeFor
import HandS.SortInts
import HandS.WordsDict
import PySem.Challenge.RW_fairstart_k12_what_is_commonly_believed
set_option Elab.async false
set_option linter.all false
set_option maxRecDepth 100000
set_option maxHeartbeats 4000000
/-! Values as plain data, and readings of code over plain data: no heap in sight. -/
namespace FS
open PySem PySem.Spec PyProof.Rows L2

/-- plain data -/
inductive D where
  | non
  | bl (b : Bool)
  | int (i : Int)
  | str (x : Str)
  | tup (l : List D)
  | lst (l : List D)
  | scr (ns : List Int)
  | ty (n : String)
  | obj (a : Addr)
  | ins (C : Addr) (ns : List Str) (ds : List D)
  | exc (a : Addr) (od : Option Addr) (ns : List Str) (ds : List D)
  | dic (ks : List Key) (ds : List D)
  /-- an instance that is being made -/
  | slf (a C : Addr) (ns : List Str) (ds : List D)
  /-- in an open tree: a part that is known -/
  | kn (d : D)

mutual
/-- v stands for d -/
def Is (K : PySem.W.Frag) (H : Hp) : D → V → Prop
  | .non, v => v = .non
  | .bl b, v => v = .bl b
  | .int i, v => v = .int i
  | .str x, v => v = .str x
  | .tup l, v => ∃ a vs, v = .ref a ∧ SqT K H a vs ∧ IsL K H l vs
  | .lst l, v => ∃ a vs, v = .ref a ∧ H a = some (.lst vs) ∧ IsL K H l vs
  | .scr ns, v => ∃ a, v = .ref a ∧ SqL K H a (ns.map V.int)
  | .ty n, v => v = .ty n
  | .obj a, v => v = .ref a
  | .ins C ns l, v => ∃ a dx vs, v = .ref a ∧ H a = some (.ins C dx (ns.zip vs)) ∧ IsL K H l vs
  | .exc a od ns l, v => v = .ref a ∧ ((ns = [] ∧ od = none) ∨ ∃ d vs, od = some d ∧ H d = some (.xd (ns.zip vs)) ∧ IsL K H l vs)
  | .dic ks l, v => ∃ a vs, v = .ref a ∧ H a = some (.dK (ks.zip vs)) ∧ IsL K H l vs
  | .slf a C ns l, v => v = .ref a ∧ ∃ dx vs, H a = some (.ins C dx (ns.zip vs)) ∧ IsL K H l vs
  | .kn d, v => Is K H d v
def IsL (K : PySem.W.Frag) (H : Hp) : List D → List V → Prop
  | [], vs => vs = []
  | d :: l, vs => ∃ v r, vs = v :: r ∧ Is K H d v ∧ IsL K H l r
end

theorem same_t {K : PySem.W.Frag} {H H' : Hp} {a : Addr} {xs : List V} (e : Same H H') (h : SqT K H a xs) : SqT K H' a xs := by
  rcases h with (h | ⟨o, h⟩) | h
  · exact .inl (.inl (e _ _ h))
  · exact .inl (.inr ⟨o, e _ _ h⟩)
  · exact .inr h
mutual
theorem Is.mono {K : PySem.W.Frag} {H H' : Hp} (e : Same H H') : ∀ (d : D) (v : V), Is K H d v → Is K H' d v
  | .non, _, h => h
  | .bl _, _, h => h
  | .int _, _, h => h
  | .str _, _, h => h
  | .tup l, v, ⟨a, vs, h1, h2, h3⟩ => ⟨a, vs, h1, same_t e h2, IsL.mono e l vs h3⟩
  | .lst l, v, ⟨a, vs, h1, h2, h3⟩ => ⟨a, vs, h1, e _ _ h2, IsL.mono e l vs h3⟩
  | .scr ns, v, ⟨a, h1, h2⟩ => ⟨a, h1, e.seq h2⟩
  | .ty _, _, h => h
  | .obj _, _, h => h
  | .ins C ns l, v, ⟨a, dx, vs, h1, h2, h3⟩ => ⟨a, dx, vs, h1, e _ _ h2, IsL.mono e l vs h3⟩
  | .exc a od ns l, v, ⟨h1, .inl h2⟩ => ⟨h1, .inl h2⟩
  | .exc a od ns l, v, ⟨h1, .inr ⟨d, vs, h2, h3, h4⟩⟩ => ⟨h1, .inr ⟨d, vs, h2, e _ _ h3, IsL.mono e l vs h4⟩⟩
  | .dic ks l, v, ⟨a, vs, h1, h2, h3⟩ => ⟨a, vs, h1, e _ _ h2, IsL.mono e l vs h3⟩
  | .slf a C ns l, v, ⟨h0, dx, vs, h2, h3⟩ => ⟨h0, dx, vs, e _ _ h2, IsL.mono e l vs h3⟩
  | .kn d, v, h => Is.mono e d v (show Is K H d v from h)
theorem IsL.mono {K : PySem.W.Frag} {H H' : Hp} (e : Same H H') : ∀ (l : List D) (vs : List V), IsL K H l vs → IsL K H' l vs
  | [], _, h => h
  | d :: l, vs, ⟨v, r, h1, h2, h3⟩ => ⟨v, r, h1, Is.mono e d v h2, IsL.mono e l r h3⟩
end
theorem Is.up {K : PySem.W.Frag} {H H' : Hp} {d : D} {v : V} (h : Is K H d v) (e : Same H H') : Is K H' d v := Is.mono e d v h
theorem IsL.up {K : PySem.W.Frag} {H H' : Hp} {l : List D} {vs : List V} (h : IsL K H l vs) (e : Same H H') : IsL K H' l vs := IsL.mono e l vs h

section
variable {K : PySem.W.Frag} {H : Hp}
theorem IsL.len : ∀ {l : List D} {vs : List V}, IsL K H l vs → vs.length = l.length
  | [], _, h => by rw [show _ = [] from h] <;> rfl
  | _ :: l, _, ⟨v, r, e, _, h⟩ => by rw [e, List.length_cons, List.length_cons, IsL.len h]
theorem IsL.get : ∀ {l : List D} {vs : List V} {i : Nat} {d : D}, IsL K H l vs → l[i]? = some d → ∃ v, vs[i]? = some v ∧ Is K H d v
  | [], _, _, _, _, e => by simp at e
  | _ :: _, _, 0, _, ⟨v, r, e, h, _⟩, q => by
    rw [e]
    have q : _ = _ := Option.some.inj q
    exact ⟨v, rfl, q ▸ h⟩
  | _ :: l, _, i + 1, d, ⟨v, r, e, _, h⟩, q => by
    rw [e]
    obtain ⟨u, h1, h2⟩ := IsL.get (i := i) (d := d) h (by simpa using q)
    exact ⟨u, by simpa using h1, h2⟩
theorem IsL.got : ∀ {l : List D} {vs : List V} {i : Nat} {v : V}, IsL K H l vs → vs[i]? = some v → ∃ d, l[i]? = some d ∧ Is K H d v := fun {l vs i v} h e => by
  have hl := h.len
  have hi := (List.getElem?_eq_some_iff.mp e).1
  have hd : l[i]? = some (l[i]'(by omega)) := List.getElem?_eq_getElem (by omega)
  obtain ⟨u, h1, h2⟩ := h.get hd
  rw [e] at h1
  have q : v = u := Option.some.inj h1
  exact ⟨_, hd, q ▸ h2⟩
theorem IsL.app : ∀ {l l' : List D} {vs us : List V}, IsL K H l vs → IsL K H l' us → IsL K H (l ++ l') (vs ++ us)
  | [], _, _, _, h, h' => by rw [show _ = [] from h]; exact h'
  | d :: l, _, _, _, ⟨v, r, e, h1, h2⟩, h' => by rw [e]; exact ⟨v, r ++ _, rfl, h1, IsL.app h2 h'⟩
theorem IsL.one {d : D} {v : V} (h : Is K H d v) : IsL K H [d] [v] := ⟨v, [], rfl, h, rfl⟩
theorem IsL.cons {d : D} {v : V} {l : List D} {vs : List V} (h : Is K H d v) (h' : IsL K H l vs) : IsL K H (d :: l) (v :: vs) := ⟨v, vs, rfl, h, h'⟩
theorem IsL.set {d : D} {v : V} (h : Is K H d v) : ∀ {l : List D} {vs : List V} (i : Nat), IsL K H l vs → IsL K H (l.set i d) (vs.set i v)
  | [], _, _, e => by rw [show _ = [] from e]; exact (rfl : [] = [])
  | _ :: _, _, 0, ⟨u, r, e, _, h2⟩ => by rw [e]; exact ⟨v, r, rfl, h, h2⟩
  | _ :: _, _, i + 1, ⟨u, r, e, h1, h2⟩ => by rw [e]; exact ⟨u, r.set i v, rfl, h1, IsL.set h i h2⟩
theorem IsL.take : ∀ {l : List D} {vs : List V} (n : Nat), IsL K H l vs → IsL K H (l.take n) (vs.take n)
  | [], _, n, e => by rw [show _ = [] from e]; simp [IsL]
  | _ :: _, _, 0, _ => by simp [IsL]
  | _ :: _, _, n + 1, ⟨u, r, e, h1, h2⟩ => by rw [e]; exact ⟨u, r.take n, rfl, h1, IsL.take n h2⟩
theorem IsL.drop : ∀ {l : List D} {vs : List V} (n : Nat), IsL K H l vs → IsL K H (l.drop n) (vs.drop n)
  | [], _, n, e => by rw [show _ = [] from e]; simp [IsL]
  | _ :: _, _, 0, h => by simpa using h
  | _ :: _, _, n + 1, ⟨u, r, e, h1, h2⟩ => by rw [e]; simpa using IsL.drop n h2
theorem IsL.dropLast {l : List D} {vs : List V} (h : IsL K H l vs) : IsL K H l.dropLast vs.dropLast := by
  rw [List.dropLast_eq_take, List.dropLast_eq_take, h.len]
  exact h.take _
/-- data of plain ints, of plain things: the values are known -/
theorem isL_ints (ns : List Int) : IsL K H (ns.map D.int) (ns.map V.int) := by
  induction ns with
  | nil => exact (rfl : [] = [])
  | cons n r ih => exact ⟨_, _, rfl, rfl, ih⟩
theorem isL_ints_inv : ∀ {ns : List Int} {vs : List V}, IsL K H (ns.map D.int) vs → vs = ns.map V.int
  | [], _, h => h
  | n :: r, _, ⟨v, q, e, h1, h2⟩ => by rw [e, show v = V.int n from h1, isL_ints_inv h2] <;> rfl
end

/-! ### what is open: objects that somebody will still change -/
abbrev Op := List (Addr × HO)
/-- H: what is known and stays; T: the heap as it stands; M: what is open, with what it holds -/
structure Opn (H T : Hp) (M : Op) : Prop where
  same : Same H T
  free : ∀ x ∈ M, H x.1 = none
  at_ : ∀ x ∈ M, T x.1 = some x.2
  nd : (M.map (·.1)).Nodup
section
variable {H H' T T' : Hp} {M N : Op} {p : Addr} {o o' : HO}
theorem Opn.fresh (h : Opn H T M) (hp : T p = none) : H p = none := h.same.free hp
theorem Opn.fresh_ne (h : Opn H T M) (hp : T p = none) : ∀ x ∈ M, x.1 ≠ p := fun x hx e => by
  have := h.at_ x hx
  rw [e, hp] at this
  cases this
theorem same_new {H : Hp} {p : Addr} {o : HO} (h : H p = none) : Same H (upd H p o) := fun b x e => by
  rw [upd_ne (ne_of_none e h)]
  exact e
/-- a new object, known at once -/
theorem Opn.new (h : Opn H T M) (hp : T p = none) : Opn (upd H p o) (upd T p o) M where
  same := fun b x e => by
    by_cases hb : b = p
    · subst hb
      rw [upd_same] at e ⊢
      exact e
    · rw [upd_ne hb] at e ⊢
      exact h.same b x e
  free := fun x hx => by
    rw [upd_ne (h.fresh_ne hp x hx)]
    exact h.free x hx
  at_ := fun x hx => by
    rw [upd_ne (h.fresh_ne hp x hx)]
    exact h.at_ x hx
  nd := h.nd
/-- a new object, open -/
theorem Opn.opened (h : Opn H T M) (hp : T p = none) : Opn H (upd T p o) ((p, o) :: M) where
  same := h.same.trans (same_new hp)
  free := fun x hx => by
    rcases List.mem_cons.mp hx with rfl | hx
    · exact h.fresh hp
    · exact h.free x hx
  at_ := fun x hx => by
    rcases List.mem_cons.mp hx with rfl | hx
    · exact upd_same
    · rw [upd_ne (h.fresh_ne hp x hx)]
      exact h.at_ x hx
  nd := by
    rw [List.map_cons, List.nodup_cons]
    refine ⟨fun hm => ?_, h.nd⟩
    obtain ⟨x, hx, e⟩ := List.mem_map.mp hm
    exact h.fresh_ne hp x hx e
theorem Opn.ne_head (h : Opn H T ((p, o) :: M)) : ∀ x ∈ M, x.1 ≠ p := fun x hx e => by
  have := (List.nodup_cons.mp h.nd).1
  exact this (List.mem_map.mpr ⟨x, hx, e⟩)
theorem Opn.tail (h : Opn H T ((p, o) :: M)) : Opn H T M where
  same := h.same
  free := fun x hx => h.free x (List.mem_cons_of_mem _ hx)
  at_ := fun x hx => h.at_ x (List.mem_cons_of_mem _ hx)
  nd := (List.nodup_cons.mp h.nd).2
/-- the first open object is done: it is known from now on -/
theorem Opn.close (h : Opn H T ((p, o) :: M)) : Same H (upd H p o) ∧ Opn (upd H p o) T M := by
  have hp : H p = none := h.free _ List.mem_cons_self
  refine ⟨same_new hp, ?_, ?_, ?_, h.tail.nd⟩
  · intro b x e
    by_cases hb : b = p
    · subst hb
      rw [upd_same] at e
      rw [← e]
      exact h.at_ _ List.mem_cons_self
    · rw [upd_ne hb] at e
      exact h.same b x e
  · intro x hx
    rw [upd_ne (h.ne_head x hx)]
    exact h.tail.free x hx
  · exact h.tail.at_
/-- the first open object is written -/
theorem Opn.write (h : Opn H T ((p, o) :: M)) : Opn H (upd T p o') ((p, o') :: M) where
  same := fun b x e => by
    rw [upd_ne (ne_of_none e (h.free _ List.mem_cons_self))]
    exact h.same b x e
  free := fun x hx => by
    rcases List.mem_cons.mp hx with rfl | hx
    · exact h.free (p, o) List.mem_cons_self
    · exact h.tail.free x hx
  at_ := fun x hx => by
    rcases List.mem_cons.mp hx with rfl | hx
    · exact upd_same
    · rw [upd_ne (h.ne_head x hx)]
      exact h.tail.at_ x hx
  nd := h.nd
theorem Opn.perm (h : Opn H T M) (e : List.Perm M N) : Opn H T N where
  same := h.same
  free := fun x hx => h.free x (e.mem_iff.mpr hx)
  at_ := fun x hx => h.at_ x (e.mem_iff.mpr hx)
  nd := (e.map (·.1)).nodup_iff.mp h.nd
theorem Opn.sub (h : Opn H T M) (e : List.Sublist N M) : Opn H T N where
  same := h.same
  free := fun x hx => h.free x (e.subset hx)
  at_ := fun x hx => h.at_ x (e.subset hx)
  nd := h.nd.sublist (e.map (·.1))
end

/-! ### open trees: data whose objects are open, L, but for the known parts -/
mutual
def IsC (K : PySem.W.Frag) (H : Hp) : D → V → Op → Prop
  | .non, v, L => v = .non ∧ L = []
  | .bl b, v, L => v = .bl b ∧ L = []
  | .int i, v, L => v = .int i ∧ L = []
  | .str x, v, L => v = .str x ∧ L = []
  | .tup l, v, L => ∃ a vs Ls, v = .ref a ∧ L = (a, .tup vs) :: Ls ∧ IsCL K H l vs Ls
  | .lst l, v, L => ∃ a vs Ls, v = .ref a ∧ L = (a, .lst vs) :: Ls ∧ IsCL K H l vs Ls
  | .scr _, _, _ => False
  | .ty n, v, L => v = .ty n ∧ L = []
  | .obj a, v, L => v = .ref a ∧ L = []
  | .exc _ _ _ _, _, _ => False
  | .ins C ns l, v, L => ∃ a dx vs Ls, v = .ref a ∧ L = (a, .ins C dx (ns.zip vs)) :: (dx, .own a) :: Ls ∧ IsCL K H l vs Ls
  | .dic ks l, v, L => ∃ a vs Ls, v = .ref a ∧ L = (a, .dK (ks.zip vs)) :: Ls ∧ IsCL K H l vs Ls
  | .slf a C ns l, v, L => v = .ref a ∧ ∃ dx vs Ls, L = (a, .ins C dx (ns.zip vs)) :: (dx, .own a) :: Ls ∧ IsCL K H l vs Ls
  | .kn d, v, L => Is K H d v ∧ L = []
def IsCL (K : PySem.W.Frag) (H : Hp) : List D → List V → Op → Prop
  | [], vs, L => vs = [] ∧ L = []
  | d :: l, vs, L => ∃ v r L1 L2, vs = v :: r ∧ L = L1 ++ L2 ∧ IsC K H d v L1 ∧ IsCL K H l r L2
end
mutual
theorem IsC.mono {K : PySem.W.Frag} {H H' : Hp} (e : Same H H') : ∀ (d : D) (v : V) (L : Op), IsC K H d v L → IsC K H' d v L
  | .non, _, _, h => h
  | .bl _, _, _, h => h
  | .int _, _, _, h => h
  | .str _, _, _, h => h
  | .tup l, _, _, ⟨a, vs, Ls, h1, h2, h⟩ => ⟨a, vs, Ls, h1, h2, IsCL.mono e l vs Ls h⟩
  | .lst l, _, _, ⟨a, vs, Ls, h1, h2, h⟩ => ⟨a, vs, Ls, h1, h2, IsCL.mono e l vs Ls h⟩
  | .scr _, _, _, h => h
  | .ty _, _, _, h => h
  | .obj _, _, _, h => h
  | .exc _ _ _ _, _, _, h => h
  | .ins C ns l, _, _, ⟨a, dx, vs, Ls, h1, h2, h⟩ => ⟨a, dx, vs, Ls, h1, h2, IsCL.mono e l vs Ls h⟩
  | .dic ks l, _, _, ⟨a, vs, Ls, h1, h2, h⟩ => ⟨a, vs, Ls, h1, h2, IsCL.mono e l vs Ls h⟩
  | .slf a C ns l, _, _, ⟨h0, dx, vs, Ls, h2, h⟩ => ⟨h0, dx, vs, Ls, h2, IsCL.mono e l vs Ls h⟩
  | .kn d, _, _, ⟨h1, h2⟩ => ⟨h1.up e, h2⟩
theorem IsCL.mono {K : PySem.W.Frag} {H H' : Hp} (e : Same H H') : ∀ (l : List D) (vs : List V) (L : Op), IsCL K H l vs L → IsCL K H' l vs L
  | [], _, _, h => h
  | d :: l, _, _, ⟨v, r, L1, L2, h1, h2, h3, h4⟩ => ⟨v, r, L1, L2, h1, h2, IsC.mono e d v L1 h3, IsCL.mono e l r L2 h4⟩
end
theorem IsC.up {K : PySem.W.Frag} {H H' : Hp} {d : D} {v : V} {L : Op} (h : IsC K H d v L) (e : Same H H') : IsC K H' d v L := IsC.mono e d v L h
theorem IsCL.up {K : PySem.W.Frag} {H H' : Hp} {l : List D} {vs : List V} {L : Op} (h : IsCL K H l vs L) (e : Same H H') : IsCL K H' l vs L := IsCL.mono e l vs L h
mutual
theorem IsC.is {K : PySem.W.Frag} {H : Hp} : ∀ (d : D) (v : V) (L : Op), IsC K H d v L → (∀ x ∈ L, H x.1 = some x.2) → Is K H d v
  | .non, _, _, h, _ => h.1
  | .bl _, _, _, h, _ => h.1
  | .int _, _, _, h, _ => h.1
  | .str _, _, _, h, _ => h.1
  | .tup l, _, _, ⟨a, vs, Ls, e, eL, h⟩, q => ⟨a, vs, e, .inl (.inl (q (a, .tup vs) (by rw [eL]; exact List.mem_cons_self))), IsCL.is l vs Ls h fun x hx => q x (by rw [eL]; exact List.mem_cons_of_mem _ hx)⟩
  | .lst l, _, _, ⟨a, vs, Ls, e, eL, h⟩, q => ⟨a, vs, e, q (a, .lst vs) (by rw [eL]; exact List.mem_cons_self), IsCL.is l vs Ls h fun x hx => q x (by rw [eL]; exact List.mem_cons_of_mem _ hx)⟩
  | .scr _, _, _, h, _ => h.elim
  | .ty _, _, _, h, _ => h.1
  | .obj _, _, _, h, _ => h.1
  | .exc _ _ _ _, _, _, h, _ => h.elim
  | .ins C ns l, _, _, ⟨a, dx, vs, Ls, e, eL, h⟩, q => ⟨a, dx, vs, e, q (a, .ins C dx (ns.zip vs)) (by rw [eL]; exact List.mem_cons_self), IsCL.is l vs Ls h fun x hx => q x (by rw [eL]; exact List.mem_cons_of_mem _ (List.mem_cons_of_mem _ hx))⟩
  | .dic ks l, _, _, ⟨a, vs, Ls, e, eL, h⟩, q => ⟨a, vs, e, q (a, .dK (ks.zip vs)) (by rw [eL]; exact List.mem_cons_self), IsCL.is l vs Ls h fun x hx => q x (by rw [eL]; exact List.mem_cons_of_mem _ hx)⟩
  | .slf a C ns l, _, _, ⟨e, dx, vs, Ls, eL, h⟩, q => ⟨e, dx, vs, q (a, .ins C dx (ns.zip vs)) (by rw [eL]; exact List.mem_cons_self), IsCL.is l vs Ls h fun x hx => q x (by rw [eL]; exact List.mem_cons_of_mem _ (List.mem_cons_of_mem _ hx))⟩
  | .kn _, _, _, h, _ => h.1
theorem IsCL.is {K : PySem.W.Frag} {H : Hp} : ∀ (l : List D) (vs : List V) (L : Op), IsCL K H l vs L → (∀ x ∈ L, H x.1 = some x.2) → IsL K H l vs
  | [], _, _, h, _ => h.1
  | d :: l, _, _, ⟨v, r, L1, L2, e, eL, h1, h2⟩, q => ⟨v, r, e, IsC.is d v L1 h1 fun x hx => q x (by rw [eL]; exact List.mem_append_left _ hx), IsCL.is l r L2 h2 fun x hx => q x (by rw [eL]; exact List.mem_append_right _ hx)⟩
end
/-! the marks of known parts dropped -/
mutual
def D.er : D → D
  | .tup l => .tup (D.erL l)
  | .lst l => .lst (D.erL l)
  | .ins C ns l => .ins C ns (D.erL l)
  | .exc a od ns l => .exc a od ns (D.erL l)
  | .dic ks l => .dic ks (D.erL l)
  | .slf _ C ns l => .ins C ns (D.erL l)
  | .kn d => d
  | .non => .non
  | .bl b => .bl b
  | .int i => .int i
  | .str x => .str x
  | .scr ns => .scr ns
  | .ty n => .ty n
  | .obj a => .obj a
def D.erL : List D → List D
  | [] => []
  | d :: l => d.er :: D.erL l
end
mutual
theorem Is.er {K : PySem.W.Frag} {H : Hp} : ∀ (d : D) (v : V), Is K H d v → Is K H d.er v
  | .tup l, _, ⟨a, vs, h1, h2, h3⟩ => ⟨a, vs, h1, h2, IsL.er l vs h3⟩
  | .lst l, _, ⟨a, vs, h1, h2, h3⟩ => ⟨a, vs, h1, h2, IsL.er l vs h3⟩
  | .ins C ns l, _, ⟨a, dx, vs, h1, h2, h3⟩ => ⟨a, dx, vs, h1, h2, IsL.er l vs h3⟩
  | .exc a od ns l, _, ⟨h1, .inl h2⟩ => ⟨h1, .inl h2⟩
  | .exc a od ns l, _, ⟨h1, .inr ⟨d, vs, h2, h3, h4⟩⟩ => ⟨h1, .inr ⟨d, vs, h2, h3, IsL.er l vs h4⟩⟩
  | .dic ks l, _, ⟨a, vs, h1, h2, h3⟩ => ⟨a, vs, h1, h2, IsL.er l vs h3⟩
  | .slf a C ns l, _, ⟨h0, dx, vs, h2, h3⟩ => ⟨a, dx, vs, h0, h2, IsL.er l vs h3⟩
  | .kn d, v, h => h
  | .non, _, h => h
  | .bl _, _, h => h
  | .int _, _, h => h
  | .str _, _, h => h
  | .scr _, _, h => h
  | .ty _, _, h => h
  | .obj _, _, h => h
theorem IsL.er {K : PySem.W.Frag} {H : Hp} : ∀ (l : List D) (vs : List V), IsL K H l vs → IsL K H (D.erL l) vs
  | [], _, h => h
  | d :: l, _, ⟨v, r, e, h1, h2⟩ => ⟨v, r, e, Is.er d v h1, IsL.er l r h2⟩
end
section
variable {K : PySem.W.Frag} {H : Hp}
theorem IsCL.len : ∀ {l : List D} {vs : List V} {L : Op}, IsCL K H l vs L → vs.length = l.length
  | [], _, _, h => by rw [h.1] <;> rfl
  | _ :: _, _, _, ⟨v, r, L1, L2, e, eL, h1, h2⟩ => by rw [e, List.length_cons, List.length_cons, IsCL.len h2]
theorem IsCL.app : ∀ {l l' : List D} {vs us : List V} {L L' : Op}, IsCL K H l vs L → IsCL K H l' us L' → IsCL K H (l ++ l') (vs ++ us) (L ++ L')
  | [], _, _, _, _, _, h, h' => by rw [h.1, h.2]; exact h'
  | d :: l, _, _, _, _, _, ⟨v, r, L1, L2, e, eL, h1, h2⟩, h' => by
    rw [e, eL, List.append_assoc]
    exact ⟨v, r ++ _, L1, L2 ++ _, rfl, rfl, h1, IsCL.app h2 h'⟩
theorem IsCL.one {d : D} {v : V} {L : Op} (h : IsC K H d v L) : IsCL K H [d] [v] L := ⟨v, [], L, [], rfl, by simp, h, rfl, rfl⟩
theorem IsCL.cons {d : D} {v : V} {l : List D} {vs : List V} {L L' : Op} (h : IsC K H d v L) (h' : IsCL K H l vs L') : IsCL K H (d :: l) (v :: vs) (L ++ L') := ⟨v, vs, L, L', rfl, rfl, h, h'⟩
/-- one part of a row of trees, and how it may be changed -/
theorem IsCL.part : ∀ {l : List D} {vs : List V} {L : Op} {i : Nat} {d : D}, IsCL K H l vs L → l[i]? = some d → ∃ u Ls L1 L2, vs[i]? = some u ∧ IsC K H d u Ls ∧ L = L1 ++ (Ls ++ L2) ∧
    ∀ H' d' u' Ls', Same H H' → IsC K H' d' u' Ls' → IsCL K H' (l.set i d') (vs.set i u') (L1 ++ (Ls' ++ L2))
  | [], _, _, _, _, _, e => by simp at e
  | x :: l, _, _, 0, d, ⟨v, r, L1, L2, e, eL, h1, h2⟩, q => by
    have q : x = d := Option.some.inj q
    subst q
    rw [e, eL]
    exact ⟨v, L1, [], L2, rfl, h1, rfl, fun H' d' u' Ls' s h' => ⟨u', r, Ls', L2, rfl, rfl, h', h2.up s⟩⟩
  | x :: l, _, _, i + 1, d, ⟨v, r, L1, L2, e, eL, h1, h2⟩, q => by
    obtain ⟨u, Ls, M1, M2, g1, g2, g3, g4⟩ := IsCL.part (i := i) (d := d) h2 (by simpa using q)
    rw [e, eL]
    refine ⟨u, Ls, L1 ++ M1, M2, by simpa using g1, g2, by rw [g3, List.append_assoc], fun H' d' u' Ls' s h' => ⟨v, r.set i u', L1, M1 ++ (Ls' ++ M2), rfl, by rw [List.append_assoc], h1.up s, g4 H' d' u' Ls' s h'⟩⟩
/-- the part of d at a path -/
def D.at : List Nat → D → Option D
  | [], d => some d
  | i :: π, .tup l => (l[i]?).bind (D.at π)
  | i :: π, .lst l => (l[i]?).bind (D.at π)
  | i :: π, .ins _ ns l => if i < ns.length then (l[i]?).bind (D.at π) else none
  | i :: π, .slf _ _ ns l => if i < ns.length then (l[i]?).bind (D.at π) else none
  | i :: π, .dic ks l => if i < ks.length then (l[i]?).bind (D.at π) else none
  | _ :: _, _ => none
def D.put : List Nat → D → D → D
  | [], _, s => s
  | i :: π, .tup l, s => .tup (l.modify i fun d => D.put π d s)
  | i :: π, .lst l, s => .lst (l.modify i fun d => D.put π d s)
  | i :: π, .ins C ns l, s => .ins C ns (l.modify i fun d => D.put π d s)
  | i :: π, .slf a C ns l, s => .slf a C ns (l.modify i fun d => D.put π d s)
  | i :: π, .dic ks l, s => .dic ks (l.modify i fun d => D.put π d s)
  | _ :: _, d, _ => d
theorem modify_set {α : Type} {l : List α} {i : Nat} {d : α} (f : α → α) (h : l[i]? = some d) : l.modify i f = l.set i (f d) := by
  refine List.ext_getElem? fun j => ?_
  rw [List.getElem?_modify, List.getElem?_set]
  by_cases e : i = j
  · subst e
    have hi := (List.getElem?_eq_some_iff.mp h).1
    rw [h]
    simp [hi]
  · simp [e]
theorem set_same {α : Type} {l : List α} {i : Nat} {d : α} (h : l[i]? = some d) : l.set i d = l := by
  refine List.ext_getElem? fun j => ?_
  rw [List.getElem?_set]
  by_cases e : i = j
  · subst e
    have hi := (List.getElem?_eq_some_iff.mp h).1
    rw [if_pos rfl, if_pos hi, h]
  · rw [if_neg e]
/-- u stands at the path below v -/
def Nav (T : Hp) : List Nat → V → V → Prop
  | [], v, u => v = u
  | i :: π, v, u => ∃ a w, v = .ref a ∧ ((∃ vs, (T a = some (.lst vs) ∨ T a = some (.tup vs)) ∧ vs[i]? = some w) ∨ (∃ C dx fs n, T a = some (.ins C dx fs) ∧ fs[i]? = some (n, w)) ∨ (∃ kvs k, T a = some (.dK kvs) ∧ kvs[i]? = some (k, w))) ∧ Nav T π w u
theorem Nav.up {T T' : Hp} (s : Same T T') : ∀ {π : List Nat} {v u : V}, Nav T π v u → Nav T' π v u
  | [], _, _, h => h
  | i :: π, _, _, ⟨a, w, e, h, n⟩ => by
    refine ⟨a, w, e, ?_, Nav.up s n⟩
    rcases h with ⟨vs, h, q⟩ | ⟨C, dx, fs, nm, h, q⟩ | ⟨kvs, k, h, q⟩
    · exact .inl ⟨vs, h.imp (s _ _) (s _ _), q⟩
    · exact .inr (.inl ⟨C, dx, fs, nm, s _ _ h, q⟩)
    · exact .inr (.inr ⟨kvs, k, s _ _ h, q⟩)
theorem Nav.eq {T : Hp} : ∀ {π : List Nat} {v u u' : V}, Nav T π v u → Nav T π v u' → u = u'
  | [], _, _, _, h, h' => h.symm.trans h'
  | i :: π, _, _, _, ⟨a, w, e, h, n⟩, ⟨a', w', e', h', n'⟩ => by
    have ea : a = a' := by rw [e] at e'; exact V.ref.inj e'
    subst ea
    have ew : w = w' := by
      rcases h with ⟨vs, h, q⟩ | ⟨C, dx, fs, nm, h, q⟩ | ⟨kvs, k, h, q⟩
      · rcases h' with ⟨vs', h', q'⟩ | ⟨C', dx', fs', nm', h', q'⟩ | ⟨kvs', k', h', q'⟩
        · have : vs = vs' := by
            rcases h with h | h <;> rcases h' with h' | h' <;> (rw [h] at h'; cases h' <;> rfl)
          rw [this, q'] at q
          exact (Option.some.inj q).symm
        · rcases h with h | h <;> (rw [h] at h'; cases h')
        · rcases h with h | h <;> (rw [h] at h'; cases h')
      · rcases h' with ⟨vs', h', q'⟩ | ⟨C', dx', fs', nm', h', q'⟩ | ⟨kvs', k', h', q'⟩
        · rcases h' with h' | h' <;> (rw [h] at h'; cases h')
        · rw [h] at h'
          cases h'
          rw [q] at q'
          exact (Prod.mk.inj (Option.some.inj q')).2
        · rw [h] at h'; cases h'
      · rcases h' with ⟨vs', h', q'⟩ | ⟨C', dx', fs', nm', h', q'⟩ | ⟨kvs', k', h', q'⟩
        · rcases h' with h' | h' <;> (rw [h] at h'; cases h')
        · rw [h] at h'; cases h'
        · rw [h] at h'
          cases h'
          rw [q] at q'
          exact (Prod.mk.inj (Option.some.inj q')).2
    subst ew
    exact Nav.eq n n'
theorem zip_get {α β : Type} {l : List α} {r : List β} {i : Nat} {w : β} (hi : i < l.length) (h : r[i]? = some w) : ∃ n, (l.zip r)[i]? = some (n, w) := by
  refine ⟨l[i], ?_⟩
  rw [List.getElem?_zip_eq_some]
  exact ⟨List.getElem?_eq_getElem hi, h⟩
/-- the part at a path of an open tree: where it stands, and how it may be changed in place -/
theorem IsC.focus : ∀ {π : List Nat} {d s : D} {v : V} {L : Op}, IsC K H d v L → D.at π d = some s → ∃ u Ls L0, IsC K H s u Ls ∧ List.Perm L (Ls ++ L0) ∧ (∀ T : Hp, (∀ x ∈ L, T x.1 = some x.2) → Nav T π v u) ∧
    ∀ H' s' Ls', Same H H' → IsC K H' s' u Ls' → ∃ L', IsC K H' (D.put π d s') v L' ∧ List.Perm L' (Ls' ++ L0)
  | [], d, s, v, L, h, e => by
    have e : d = s := Option.some.inj e
    subst e
    exact ⟨v, L, [], h, by rw [List.append_nil], fun T _ => rfl, fun H' s' Ls' _ h' => ⟨Ls', h', by rw [List.append_nil]⟩⟩
  | i :: π, d, s, v, L, h, e => by
    cases d with
    | tup l =>
      obtain ⟨a, vs, Lt, rfl, rfl, hl⟩ := h
      obtain ⟨x, hx, e⟩ := Option.bind_eq_some_iff.mp (show (l[i]?).bind (D.at π) = some s from e)
      obtain ⟨w, Lw, L1, L2, g1, g2, g3, g4⟩ := hl.part hx
      obtain ⟨u, Ls, L0, k1, k2, k3, k4⟩ := IsC.focus g2 e
      subst g3
      refine ⟨u, Ls, (a, .tup vs) :: (L0 ++ (L1 ++ L2)), k1, ?_, fun T hT => ⟨a, w, rfl, .inl ⟨vs, .inr (hT (a, .tup vs) List.mem_cons_self), g1⟩, k3 T fun x hx => hT x (List.mem_cons_of_mem _ (List.mem_append_right _ (List.mem_append_left _ hx)))⟩, fun H' s' Ls' sm h' => ?_⟩
      · refine (List.Perm.cons _ ?_).trans List.perm_middle.symm
        refine List.Perm.trans ?_ (show List.Perm ((Ls ++ L0) ++ (L1 ++ L2)) (Ls ++ (L0 ++ (L1 ++ L2))) by rw [List.append_assoc])
        refine List.Perm.trans ?_ (k2.append_right (L1 ++ L2))
        refine List.Perm.trans ?_ (show List.Perm ((Lw ++ L1) ++ L2) (Lw ++ (L1 ++ L2)) by rw [List.append_assoc])
        rw [← List.append_assoc]
        exact List.perm_append_comm.append_right _
      · obtain ⟨L', q1, q2⟩ := k4 H' s' Ls' sm h'
        have q3 := g4 H' _ _ _ sm q1
        rw [set_same g1] at q3
        refine ⟨(a, .tup vs) :: (L1 ++ (L' ++ L2)), ⟨a, vs, _, rfl, rfl, by rw [modify_set _ hx]; exact q3⟩, ?_⟩
        refine (List.Perm.cons _ ?_).trans List.perm_middle.symm
        refine List.Perm.trans ?_ (show List.Perm ((Ls' ++ L0) ++ (L1 ++ L2)) (Ls' ++ (L0 ++ (L1 ++ L2))) by rw [List.append_assoc])
        refine List.Perm.trans ?_ (q2.append_right (L1 ++ L2))
        refine List.Perm.trans ?_ (show List.Perm ((L' ++ L1) ++ L2) (L' ++ (L1 ++ L2)) by rw [List.append_assoc])
        rw [← List.append_assoc]
        exact List.perm_append_comm.append_right _
    | lst l =>
      obtain ⟨a, vs, Lt, rfl, rfl, hl⟩ := h
      obtain ⟨x, hx, e⟩ := Option.bind_eq_some_iff.mp (show (l[i]?).bind (D.at π) = some s from e)
      obtain ⟨w, Lw, L1, L2, g1, g2, g3, g4⟩ := hl.part hx
      obtain ⟨u, Ls, L0, k1, k2, k3, k4⟩ := IsC.focus g2 e
      subst g3
      refine ⟨u, Ls, (a, .lst vs) :: (L0 ++ (L1 ++ L2)), k1, ?_, fun T hT => ⟨a, w, rfl, .inl ⟨vs, .inl (hT (a, .lst vs) List.mem_cons_self), g1⟩, k3 T fun x hx => hT x (List.mem_cons_of_mem _ (List.mem_append_right _ (List.mem_append_left _ hx)))⟩, fun H' s' Ls' sm h' => ?_⟩
      · refine (List.Perm.cons _ ?_).trans List.perm_middle.symm
        refine List.Perm.trans ?_ (show List.Perm ((Ls ++ L0) ++ (L1 ++ L2)) (Ls ++ (L0 ++ (L1 ++ L2))) by rw [List.append_assoc])
        refine List.Perm.trans ?_ (k2.append_right (L1 ++ L2))
        refine List.Perm.trans ?_ (show List.Perm ((Lw ++ L1) ++ L2) (Lw ++ (L1 ++ L2)) by rw [List.append_assoc])
        rw [← List.append_assoc]
        exact List.perm_append_comm.append_right _
      · obtain ⟨L', q1, q2⟩ := k4 H' s' Ls' sm h'
        have q3 := g4 H' _ _ _ sm q1
        rw [set_same g1] at q3
        refine ⟨(a, .lst vs) :: (L1 ++ (L' ++ L2)), ⟨a, vs, _, rfl, rfl, by rw [modify_set _ hx]; exact q3⟩, ?_⟩
        refine (List.Perm.cons _ ?_).trans List.perm_middle.symm
        refine List.Perm.trans ?_ (show List.Perm ((Ls' ++ L0) ++ (L1 ++ L2)) (Ls' ++ (L0 ++ (L1 ++ L2))) by rw [List.append_assoc])
        refine List.Perm.trans ?_ (q2.append_right (L1 ++ L2))
        refine List.Perm.trans ?_ (show List.Perm ((L' ++ L1) ++ L2) (L' ++ (L1 ++ L2)) by rw [List.append_assoc])
        rw [← List.append_assoc]
        exact List.perm_append_comm.append_right _
    | ins C ns l =>
      obtain ⟨a, dx, vs, Lt, rfl, rfl, hl⟩ := h
      have e : (if i < ns.length then (l[i]?).bind (D.at π) else none) = some s := e
      by_cases hi : i < ns.length
      · rw [if_pos hi] at e
        obtain ⟨x, hx, e⟩ := Option.bind_eq_some_iff.mp e
        obtain ⟨w, Lw, L1, L2, g1, g2, g3, g4⟩ := hl.part hx
        obtain ⟨u, Ls, L0, k1, k2, k3, k4⟩ := IsC.focus g2 e
        obtain ⟨nm, hz⟩ := zip_get hi g1
        subst g3
        refine ⟨u, Ls, (a, .ins C dx (ns.zip vs)) :: (dx, .own a) :: (L0 ++ (L1 ++ L2)), k1, ?_, fun T hT => ⟨a, w, rfl, .inr (.inl ⟨C, dx, _, nm, hT (a, .ins C dx (ns.zip vs)) List.mem_cons_self, hz⟩), k3 T fun x hx => hT x (List.mem_cons_of_mem _ (List.mem_cons_of_mem _ (List.mem_append_right _ (List.mem_append_left _ hx))))⟩, fun H' s' Ls' sm h' => ?_⟩
        · refine (List.Perm.cons _ ?_).trans List.perm_middle.symm
          refine (List.Perm.cons _ ?_).trans List.perm_middle.symm
          refine List.Perm.trans ?_ (show List.Perm ((Ls ++ L0) ++ (L1 ++ L2)) (Ls ++ (L0 ++ (L1 ++ L2))) by rw [List.append_assoc])
          refine List.Perm.trans ?_ (k2.append_right (L1 ++ L2))
          refine List.Perm.trans ?_ (show List.Perm ((Lw ++ L1) ++ L2) (Lw ++ (L1 ++ L2)) by rw [List.append_assoc])
          rw [← List.append_assoc]
          exact List.perm_append_comm.append_right _
        · obtain ⟨L', q1, q2⟩ := k4 H' s' Ls' sm h'
          have q3 := g4 H' _ _ _ sm q1
          rw [set_same g1] at q3
          refine ⟨(a, .ins C dx (ns.zip vs)) :: (dx, .own a) :: (L1 ++ (L' ++ L2)), ⟨a, dx, vs, _, rfl, rfl, by rw [modify_set _ hx]; exact q3⟩, ?_⟩
          refine (List.Perm.cons _ ?_).trans List.perm_middle.symm
          refine (List.Perm.cons _ ?_).trans List.perm_middle.symm
          refine List.Perm.trans ?_ (show List.Perm ((Ls' ++ L0) ++ (L1 ++ L2)) (Ls' ++ (L0 ++ (L1 ++ L2))) by rw [List.append_assoc])
          refine List.Perm.trans ?_ (q2.append_right (L1 ++ L2))
          refine List.Perm.trans ?_ (show List.Perm ((L' ++ L1) ++ L2) (L' ++ (L1 ++ L2)) by rw [List.append_assoc])
          rw [← List.append_assoc]
          exact List.perm_append_comm.append_right _
      · rw [if_neg hi] at e
        cases e
    | slf a C ns l =>
      obtain ⟨rfl, dx, vs, Lt, rfl, hl⟩ := h
      have e : (if i < ns.length then (l[i]?).bind (D.at π) else none) = some s := e
      by_cases hi : i < ns.length
      · rw [if_pos hi] at e
        obtain ⟨x, hx, e⟩ := Option.bind_eq_some_iff.mp e
        obtain ⟨w, Lw, L1, L2, g1, g2, g3, g4⟩ := hl.part hx
        obtain ⟨u, Ls, L0, k1, k2, k3, k4⟩ := IsC.focus g2 e
        obtain ⟨nm, hz⟩ := zip_get hi g1
        subst g3
        refine ⟨u, Ls, (a, .ins C dx (ns.zip vs)) :: (dx, .own a) :: (L0 ++ (L1 ++ L2)), k1, ?_, fun T hT => ⟨a, w, rfl, .inr (.inl ⟨C, dx, _, nm, hT (a, .ins C dx (ns.zip vs)) List.mem_cons_self, hz⟩), k3 T fun x hx => hT x (List.mem_cons_of_mem _ (List.mem_cons_of_mem _ (List.mem_append_right _ (List.mem_append_left _ hx))))⟩, fun H' s' Ls' sm h' => ?_⟩
        · refine (List.Perm.cons _ ?_).trans List.perm_middle.symm
          refine (List.Perm.cons _ ?_).trans List.perm_middle.symm
          refine List.Perm.trans ?_ (show List.Perm ((Ls ++ L0) ++ (L1 ++ L2)) (Ls ++ (L0 ++ (L1 ++ L2))) by rw [List.append_assoc])
          refine List.Perm.trans ?_ (k2.append_right (L1 ++ L2))
          refine List.Perm.trans ?_ (show List.Perm ((Lw ++ L1) ++ L2) (Lw ++ (L1 ++ L2)) by rw [List.append_assoc])
          rw [← List.append_assoc]
          exact List.perm_append_comm.append_right _
        · obtain ⟨L', q1, q2⟩ := k4 H' s' Ls' sm h'
          have q3 := g4 H' _ _ _ sm q1
          rw [set_same g1] at q3
          refine ⟨(a, .ins C dx (ns.zip vs)) :: (dx, .own a) :: (L1 ++ (L' ++ L2)), ⟨rfl, dx, vs, _, rfl, by rw [modify_set _ hx]; exact q3⟩, ?_⟩
          refine (List.Perm.cons _ ?_).trans List.perm_middle.symm
          refine (List.Perm.cons _ ?_).trans List.perm_middle.symm
          refine List.Perm.trans ?_ (show List.Perm ((Ls' ++ L0) ++ (L1 ++ L2)) (Ls' ++ (L0 ++ (L1 ++ L2))) by rw [List.append_assoc])
          refine List.Perm.trans ?_ (q2.append_right (L1 ++ L2))
          refine List.Perm.trans ?_ (show List.Perm ((L' ++ L1) ++ L2) (L' ++ (L1 ++ L2)) by rw [List.append_assoc])
          rw [← List.append_assoc]
          exact List.perm_append_comm.append_right _
      · rw [if_neg hi] at e
        cases e
    | dic ks l =>
      obtain ⟨a, vs, Lt, rfl, rfl, hl⟩ := h
      have e : (if i < ks.length then (l[i]?).bind (D.at π) else none) = some s := e
      by_cases hi : i < ks.length
      · rw [if_pos hi] at e
        obtain ⟨x, hx, e⟩ := Option.bind_eq_some_iff.mp e
        obtain ⟨w, Lw, L1, L2, g1, g2, g3, g4⟩ := hl.part hx
        obtain ⟨u, Ls, L0, k1, k2, k3, k4⟩ := IsC.focus g2 e
        obtain ⟨nm, hz⟩ := zip_get hi g1
        subst g3
        refine ⟨u, Ls, (a, .dK (ks.zip vs)) :: (L0 ++ (L1 ++ L2)), k1, ?_, fun T hT => ⟨a, w, rfl, .inr (.inr ⟨_, nm, hT (a, .dK (ks.zip vs)) List.mem_cons_self, hz⟩), k3 T fun x hx => hT x (List.mem_cons_of_mem _ (List.mem_append_right _ (List.mem_append_left _ hx)))⟩, fun H' s' Ls' sm h' => ?_⟩
        · refine (List.Perm.cons _ ?_).trans List.perm_middle.symm
          refine List.Perm.trans ?_ (show List.Perm ((Ls ++ L0) ++ (L1 ++ L2)) (Ls ++ (L0 ++ (L1 ++ L2))) by rw [List.append_assoc])
          refine List.Perm.trans ?_ (k2.append_right (L1 ++ L2))
          refine List.Perm.trans ?_ (show List.Perm ((Lw ++ L1) ++ L2) (Lw ++ (L1 ++ L2)) by rw [List.append_assoc])
          rw [← List.append_assoc]
          exact List.perm_append_comm.append_right _
        · obtain ⟨L', q1, q2⟩ := k4 H' s' Ls' sm h'
          have q3 := g4 H' _ _ _ sm q1
          rw [set_same g1] at q3
          refine ⟨(a, .dK (ks.zip vs)) :: (L1 ++ (L' ++ L2)), ⟨a, vs, _, rfl, rfl, by rw [modify_set _ hx]; exact q3⟩, ?_⟩
          refine (List.Perm.cons _ ?_).trans List.perm_middle.symm
          refine List.Perm.trans ?_ (show List.Perm ((Ls' ++ L0) ++ (L1 ++ L2)) (Ls' ++ (L0 ++ (L1 ++ L2))) by rw [List.append_assoc])
          refine List.Perm.trans ?_ (q2.append_right (L1 ++ L2))
          refine List.Perm.trans ?_ (show List.Perm ((L' ++ L1) ++ L2) (L' ++ (L1 ++ L2)) by rw [List.append_assoc])
          rw [← List.append_assoc]
          exact List.perm_append_comm.append_right _
      · rw [if_neg hi] at e
        cases e
    | non => cases e
    | bl b => cases e
    | int b => cases e
    | str b => cases e
    | scr b => cases e
    | ty b => cases e
    | obj b => cases e
    | exc a b c f => cases e
    | kn b => cases e
end

/-! no known parts -/
mutual
def D.kf : D → Bool
  | .tup l => D.kfL l
  | .lst l => D.kfL l
  | .ins _ _ l => D.kfL l
  | .dic _ l => D.kfL l
  | .slf _ _ _ l => D.kfL l
  | .kn _ => false
  | _ => true
def D.kfL : List D → Bool
  | [] => true
  | d :: l => D.kf d && D.kfL l
end
mutual
theorem IsC.any {K : PySem.W.Frag} {H H' : Hp} : ∀ (d : D) (v : V) (L : Op), d.kf = true → IsC K H d v L → IsC K H' d v L
  | .non, _, _, _, h => h
  | .bl _, _, _, _, h => h
  | .int _, _, _, _, h => h
  | .str _, _, _, _, h => h
  | .tup l, _, _, k, ⟨a, vs, Ls, h1, h2, h⟩ => ⟨a, vs, Ls, h1, h2, IsCL.any l vs Ls (by simpa [D.kf] using k) h⟩
  | .lst l, _, _, k, ⟨a, vs, Ls, h1, h2, h⟩ => ⟨a, vs, Ls, h1, h2, IsCL.any l vs Ls (by simpa [D.kf] using k) h⟩
  | .scr _, _, _, _, h => h
  | .ty _, _, _, _, h => h
  | .obj _, _, _, _, h => h
  | .exc _ _ _ _, _, _, _, h => h
  | .ins C ns l, _, _, k, ⟨a, dx, vs, Ls, h1, h2, h⟩ => ⟨a, dx, vs, Ls, h1, h2, IsCL.any l vs Ls (by simpa [D.kf] using k) h⟩
  | .dic ks l, _, _, k, ⟨a, vs, Ls, h1, h2, h⟩ => ⟨a, vs, Ls, h1, h2, IsCL.any l vs Ls (by simpa [D.kf] using k) h⟩
  | .slf a C ns l, _, _, k, ⟨h1, dx, vs, Ls, h2, h⟩ => ⟨h1, dx, vs, Ls, h2, IsCL.any l vs Ls (by simpa [D.kf] using k) h⟩
  | .kn d, _, _, k, _ => by simp [D.kf] at k
theorem IsCL.any {K : PySem.W.Frag} {H H' : Hp} : ∀ (l : List D) (vs : List V) (L : Op), D.kfL l = true → IsCL K H l vs L → IsCL K H' l vs L
  | [], _, _, _, h => h
  | d :: l, _, _, k, ⟨v, r, L1, L2, h1, h2, h3, h4⟩ => by
    have k' : d.kf = true ∧ D.kfL l = true := by simpa [D.kfL] using k
    exact ⟨v, r, L1, L2, h1, h2, IsC.any d v L1 k'.1 h3, IsCL.any l r L2 k'.2 h4⟩
end
theorem D.kfL_of {l : List D} (h : ∀ d ∈ l, d.kf = true) : D.kfL l = true := by
  induction l with
  | nil => rfl
  | cons d l ih => rw [D.kfL, h d List.mem_cons_self, ih fun x hx => h x (List.mem_cons_of_mem _ hx)] <;> rfl
theorem D.kf_lst {l : List D} (h : ∀ d ∈ l, d.kf = true) : (D.lst l).kf = true := by
  rw [D.kf, D.kfL_of h]

/-- numbers, texts, truth values, None -/
def D.sc : D → Bool
  | .non => true
  | .bl _ => true
  | .int _ => true
  | .str _ => true
  | .ty _ => true
  | .obj _ => true
  | _ => false
theorem D.sc_kf {d : D} (h : d.sc = true) : d.kf = true := by
  cases d <;> first | rfl | cases h
theorem Is.sc {K : PySem.W.Frag} {H : Hp} {d : D} {v : V} (h : Is K H d v) (e : d.sc = true) : IsC K H d v [] := by
  cases d <;> first | exact ⟨h, rfl⟩ | cases e
theorem Is.any {K : PySem.W.Frag} {H H' : Hp} {d : D} {v : V} (h : Is K H d v) (e : d.sc = true) : Is K H' d v := by
  cases d <;> first | exact h | cases e
theorem IsL.sc {K : PySem.W.Frag} {H : Hp} : ∀ {l : List D} {vs : List V}, IsL K H l vs → (∀ d ∈ l, d.sc = true) → IsCL K H l vs []
  | [], _, h, _ => ⟨h, rfl⟩
  | d :: l, _, ⟨v, r, e, h1, h2⟩, q => ⟨v, r, [], [], e, rfl, h1.sc (q d List.mem_cons_self), IsL.sc h2 fun x hx => q x (List.mem_cons_of_mem _ hx)⟩

/-! ### slots -/
inductive Sl where
  | no
  | im (d : D)
  | ow (l : List D)
  | cl (d : D)
abbrev Rho := List Sl
inductive EnR (K : PySem.W.Frag) (H : Hp) : Rho → L2.St → Op → Prop
  | nil : EnR K H [] [] []
  | no {ρ : Rho} {σ : L2.St} {L : Op} {x : Option V} : EnR K H ρ σ L → EnR K H (.no :: ρ) (x :: σ) L
  | im {ρ : Rho} {σ : L2.St} {L : Op} {d : D} {v : V} : Is K H d v → EnR K H ρ σ L → EnR K H (.im d :: ρ) (some v :: σ) L
  | ow {ρ : Rho} {σ : L2.St} {L : Op} {l : List D} {vs : List V} {p : Addr} : IsL K H l vs → EnR K H ρ σ L → EnR K H (.ow l :: ρ) (some (.ref p) :: σ) ((p, .lst vs) :: L)
  | cl {ρ : Rho} {σ : L2.St} {L Lc : Op} {d : D} {v : V} : IsC K H d v Lc → EnR K H ρ σ L → EnR K H (.cl d :: ρ) (some v :: σ) (Lc ++ L)
section
variable {K : PySem.W.Frag} {H H' : Hp} {ρ : Rho} {σ : L2.St} {L : Op}
theorem EnR.up (e : Same H H') (h : EnR K H ρ σ L) : EnR K H' ρ σ L := by
  induction h with
  | nil => exact .nil
  | no _ ih => exact .no ih
  | im h _ ih => exact .im (h.up e) ih
  | ow h _ ih => exact .ow (h.up e) ih
  | cl h _ ih => exact .cl (h.up e) ih
theorem EnR.len (h : EnR K H ρ σ L) : σ.length = ρ.length := by
  induction h with
  | nil => rfl
  | no _ ih => simp [ih]
  | im _ _ ih => simp [ih]
  | ow _ _ ih => simp [ih]
  | cl _ _ ih => simp [ih]
theorem EnR.get (h : EnR K H ρ σ L) : ∀ {i : Nat} {d : D}, ρ[i]? = some (.im d) → ∃ v, σ[i]? = some (some v) ∧ Is K H d v := by
  induction h with
  | nil => intro i d e; simp at e
  | no _ ih | ow _ _ ih | cl _ _ ih =>
    intro i d e
    cases i with
    | zero => cases e
    | succ i => exact ih (by simpa using e)
  | im h _ ih =>
    intro i d e
    cases i with
    | zero =>
      cases e
      exact ⟨_, rfl, h⟩
    | succ i => exact ih (by simpa using e)
/-- slot i alone: its own part, and how it may be filled anew; g: what of L stands before it, behind it -/
theorem EnR.at_ (h : EnR K H ρ σ L) : ∀ {i : Nat} {s : Sl}, ρ[i]? = some s → ∃ x Ls L1 L2, σ[i]? = some x ∧ L = L1 ++ (Ls ++ L2) ∧ EnR K H [s] [x] Ls ∧
    ∀ H' s' x' Ls', Same H H' → EnR K H' [s'] [x'] Ls' → EnR K H' (ρ.set i s') (σ.set i x') (L1 ++ (Ls' ++ L2)) := by
  have put : ∀ {H' : Hp} {s' : Sl} {x' : Option V} {Ls' : Op} {ρ : Rho} {σ : L2.St} {L : Op}, EnR K H' [s'] [x'] Ls' → EnR K H' ρ σ L → EnR K H' (s' :: ρ) (x' :: σ) (Ls' ++ L) := by
    intro H' s' x' Ls' ρ σ L h1 h2
    cases h1 with
    | no h => cases h; exact .no h2
    | im i h => cases h; exact .im i h2
    | ow i h => cases h; exact .ow i h2
    | cl i h =>
      cases h
      rw [List.append_nil]
      exact .cl i h2
  induction h with
  | nil => intro i s e; simp at e
  | @no ρ σ L x h ih =>
    intro i s e
    cases i with
    | zero =>
      cases e
      exact ⟨x, [], [], L, rfl, rfl, .no .nil, fun H' s' x' Ls' s0 q => (show EnR K H' (s' :: ρ) (x' :: σ) (Ls' ++ L) from put q (h.up s0))⟩
    | succ i =>
      obtain ⟨y, Ls, L1, L2, h1, h2, h3, h4⟩ := ih (by simpa using e)
      exact ⟨y, Ls, L1, L2, by simpa using h1, h2, h3, fun H' s' x' Ls' s0 q => .no (h4 H' s' x' Ls' s0 q)⟩
  | @im ρ σ L d v iv h ih =>
    intro i s e
    cases i with
    | zero =>
      cases e
      exact ⟨_, [], [], L, rfl, rfl, .im iv .nil, fun H' s' x' Ls' s0 q => (show EnR K H' (s' :: ρ) (x' :: σ) (Ls' ++ L) from put q (h.up s0))⟩
    | succ i =>
      obtain ⟨y, Ls, L1, L2, h1, h2, h3, h4⟩ := ih (by simpa using e)
      exact ⟨y, Ls, L1, L2, by simpa using h1, h2, h3, fun H' s' x' Ls' s0 q => .im (iv.up s0) (h4 H' s' x' Ls' s0 q)⟩
  | @ow ρ σ L l vs p iv h ih =>
    intro i s e
    cases i with
    | zero =>
      cases e
      exact ⟨_, [(p, .lst vs)], [], L, rfl, rfl, .ow iv .nil, fun H' s' x' Ls' s0 q => (show EnR K H' (s' :: ρ) (x' :: σ) (Ls' ++ L) from put q (h.up s0))⟩
    | succ i =>
      obtain ⟨y, Ls, L1, L2, h1, h2, h3, h4⟩ := ih (by simpa using e)
      exact ⟨y, Ls, (p, .lst vs) :: L1, L2, by simpa using h1, by rw [h2] <;> rfl, h3, fun H' s' x' Ls' s0 q => .ow (iv.up s0) (h4 H' s' x' Ls' s0 q)⟩
  | @cl ρ σ L Lc d v iv h ih =>
    intro i s e
    cases i with
    | zero =>
      cases e
      refine ⟨_, Lc, [], L, rfl, rfl, ?_, fun H' s' x' Ls' s0 q => (show EnR K H' (s' :: ρ) (x' :: σ) (Ls' ++ L) from put q (h.up s0))⟩
      have := EnR.cl (K := K) (H := H) iv .nil
      rw [List.append_nil] at this
      exact this
    | succ i =>
      obtain ⟨y, Ls, L1, L2, h1, h2, h3, h4⟩ := ih (by simpa using e)
      refine ⟨y, Ls, Lc ++ L1, L2, by simpa using h1, by rw [h2, List.append_assoc], h3, fun H' s' x' Ls' s0 q => ?_⟩
      rw [List.append_assoc]
      exact .cl (iv.up s0) (h4 H' s' x' Ls' s0 q)
theorem EnR.start {l : List D} {vs : List V} (hl : IsL K H l vs) (n : Nat) : EnR K H (l.map .im ++ List.replicate n .no) (vs.map some ++ List.replicate n none) [] := by
  induction l generalizing vs with
  | nil =>
    rw [show vs = [] from hl]
    induction n with
    | zero => exact .nil
    | succ n ih => exact .no ih
  | cons d l ih =>
    obtain ⟨v, r, e, h1, h2⟩ := hl
    rw [e]
    exact .im h1 (ih h2)
end

/-- M: what others have open; T0: the heap at the def's entry; X: what is open beside the slots -/
structure EnX (K : PySem.W.Frag) (M : Op) (T0 H T : Hp) (σ : L2.St) (ρ : Rho) (X : Op) : Prop where
  ex : ∃ L, EnR K H ρ σ L ∧ Opn H T (X ++ (L ++ M)) ∧ ∀ x ∈ X ++ L, T0 x.1 = none
  t0 : Same T0 T
abbrev En (K : PySem.W.Frag) (M : Op) (T0 H T : Hp) (σ : L2.St) (ρ : Rho) : Prop := EnX K M T0 H T σ ρ []
section
variable {K : PySem.W.Frag} {M : Op} {T0 H H' T T' : Hp} {ρ : Rho} {σ : L2.St} {X X' : Op} {p : Addr} {o : HO}
theorem EnX.same (h : EnX K M T0 H T σ ρ X) : Same H T := let ⟨_, _, q, _⟩ := h.ex; q.same
theorem EnX.get (h : EnX K M T0 H T σ ρ X) {i : Nat} {d : D} (e : ρ[i]? = some (.im d)) : ∃ v, σ[i]? = some (some v) ∧ Is K H d v := let ⟨_, r, _⟩ := h.ex; r.get e
theorem EnX.len (h : EnX K M T0 H T σ ρ X) : σ.length = ρ.length := let ⟨_, r, _⟩ := h.ex; r.len
/-- a new object, known at once -/
theorem EnX.new (h : EnX K M T0 H T σ ρ X) (hp : T p = none) : Same H (upd H p o) ∧ EnX K M T0 (upd H p o) (upd T p o) σ ρ X := by
  obtain ⟨L, r, q, f⟩ := h.ex
  have s : Same H (upd H p o) := same_new (q.fresh hp)
  exact ⟨s, ⟨L, r.up s, q.new hp, f⟩, h.t0.trans (same_new hp)⟩
theorem EnX.opened (h : EnX K M T0 H T σ ρ X) (hp : T p = none) : EnX K M T0 H (upd T p o) σ ρ ((p, o) :: X) := by
  obtain ⟨L, r, q, f⟩ := h.ex
  refine ⟨⟨L, r, q.opened hp, fun x hx => ?_⟩, h.t0.trans (same_new hp)⟩
  rcases List.mem_cons.mp hx with rfl | hx
  · exact h.t0.free hp
  · exact f x hx
theorem EnX.close (h : EnX K M T0 H T σ ρ ((p, o) :: X)) : Same H (upd H p o) ∧ EnX K M T0 (upd H p o) T σ ρ X := by
  obtain ⟨L, r, q, f⟩ := h.ex
  obtain ⟨s, q'⟩ := Opn.close q
  exact ⟨s, ⟨L, r.up s, q', fun x hx => f x (List.mem_cons_of_mem _ hx)⟩, h.t0⟩
theorem EnX.write {o' : HO} (h : EnX K M T0 H T σ ρ ((p, o) :: X)) : EnX K M T0 H (upd T p o') σ ρ ((p, o') :: X) := by
  obtain ⟨L, r, q, f⟩ := h.ex
  refine ⟨⟨L, r, q.write, fun x hx => ?_⟩, fun b u e => ?_⟩
  · rcases List.mem_cons.mp hx with rfl | hx
    · exact f (p, o) List.mem_cons_self
    · exact f x (List.mem_cons_of_mem _ hx)
  · rw [upd_ne (ne_of_none e (f (p, o) List.mem_cons_self))]
    exact h.t0 b u e
theorem EnX.at_ (h : EnX K M T0 H T σ ρ ((p, o) :: X)) : T p = some o := let ⟨_, _, q, _⟩ := h.ex; q.at_ _ List.mem_cons_self
theorem EnX.sub (h : EnX K M T0 H T σ ρ X) (e : List.Sublist X' X) : EnX K M T0 H T σ ρ X' := by
  obtain ⟨L, r, q, f⟩ := h.ex
  exact ⟨⟨L, r, q.sub (e.append (List.Sublist.refl _)), fun x hx => f x ((e.append (List.Sublist.refl L)).subset hx)⟩, h.t0⟩
theorem EnX.perm (h : EnX K M T0 H T σ ρ X) (e : List.Perm X X') : EnX K M T0 H T σ ρ X' := by
  obtain ⟨L, r, q, f⟩ := h.ex
  exact ⟨⟨L, r, q.perm (e.append_right _), fun x hx => f x ((e.append_right L).mem_iff.mpr hx)⟩, h.t0⟩
/-- a closed tree is known from now on -/
theorem EnX.closeAll : ∀ {Lc : Op} {H : Hp}, EnX K M T0 H T σ ρ (Lc ++ X) → ∃ H', Same H H' ∧ EnX K M T0 H' T σ ρ X ∧ ∀ x ∈ Lc, H' x.1 = some x.2
  | [], H, h => ⟨H, Same.refl _, h, fun _ hx => by cases hx⟩
  | (p, o) :: r, H, h => by
    obtain ⟨s1, h1⟩ := EnX.close h
    obtain ⟨H', s2, h2, h3⟩ := EnX.closeAll h1
    refine ⟨H', s1.trans s2, h2, fun x hx => ?_⟩
    rcases List.mem_cons.mp hx with rfl | hx
    · exact s2 _ _ upd_same
    · exact h3 x hx
theorem EnX.frame (h : EnX K M T0 H T σ ρ X) : Opn H T M := by
  obtain ⟨L, r, q, f⟩ := h.ex
  exact q.sub ((List.sublist_append_right _ _).trans (List.sublist_append_right _ _))
theorem sl_one {s : Sl} {x : Option V} {d : D} {v : V} (h : Is K H d v) : EnR K H [.im d] [some v] [] := .im h .nil
/-- slot i filled anew by Ls', which stood in X -/
theorem EnX.fill {i : Nat} {s' : Sl} {x' : Option V} {Ls' : Op} (h : EnX K M T0 H T σ ρ (Ls' ++ X)) (hs : EnR K H [s'] [x'] Ls') (hi : i < ρ.length) : EnX K M T0 H T (σ.set i x') (ρ.set i s') X := by
  obtain ⟨L, r, q, f⟩ := h.ex
  obtain ⟨x, Ls, L1, L2, h1, h2, h3, h4⟩ := r.at_ (List.getElem?_eq_getElem hi)
  subst h2
  have sb : List.Sublist (Ls' ++ (X ++ ((L1 ++ L2) ++ M))) ((Ls' ++ X) ++ ((L1 ++ (Ls ++ L2)) ++ M)) := by
    rw [show (Ls' ++ X) ++ ((L1 ++ (Ls ++ L2)) ++ M) = Ls' ++ (X ++ ((L1 ++ (Ls ++ L2)) ++ M)) from List.append_assoc _ _ _]
    exact (List.Sublist.refl _).append ((List.Sublist.refl _).append (((List.Sublist.refl _).append (List.sublist_append_right _ _)).append (List.Sublist.refl _)))
  have pm : List.Perm (Ls' ++ (X ++ ((L1 ++ L2) ++ M))) (X ++ ((L1 ++ (Ls' ++ L2)) ++ M)) := by
    have e1 : Ls' ++ (X ++ ((L1 ++ L2) ++ M)) = (Ls' ++ (X ++ L1)) ++ (L2 ++ M) := by simp [List.append_assoc]
    have e2 : X ++ ((L1 ++ (Ls' ++ L2)) ++ M) = ((X ++ L1) ++ Ls') ++ (L2 ++ M) := by simp [List.append_assoc]
    rw [e1, e2]
    exact List.perm_append_comm.append_right _
  refine ⟨⟨_, h4 H s' x' Ls' (Same.refl _) hs, (q.sub sb).perm pm, fun z hz => ?_⟩, h.t0⟩
  refine f z ?_
  simp only [List.mem_append] at hz ⊢
  rcases hz with a | a | a | a
  · exact .inl (.inr a)
  · exact .inr (.inl a)
  · exact .inl (.inl a)
  · exact .inr (.inr (.inr a))
theorem set_out {α : Type} {l : List α} {i : Nat} {x : α} (h : l.length ≤ i) : l.set i x = l := List.set_eq_of_length_le h
theorem EnX.set {i : Nat} {d : D} {v : V} (h : EnX K M T0 H T σ ρ X) (hd : Is K H d v) : EnX K M T0 H T (σ.set i (some v)) (ρ.set i (.im d)) X := by
  by_cases hi : i < ρ.length
  · exact EnX.fill (Ls' := []) h (.im hd .nil) hi
  · rw [show σ.set i (some v) = σ from set_out (by have := h.len; omega), show ρ.set i (.im d) = ρ from set_out (by omega)]
    exact h
theorem EnX.drop {i : Nat} {x : Option V} (h : EnX K M T0 H T σ ρ X) : EnX K M T0 H T (σ.set i x) (ρ.set i .no) X := by
  by_cases hi : i < ρ.length
  · exact EnX.fill (Ls' := []) h (.no .nil) hi
  · rw [show σ.set i x = σ from set_out (by have := h.len; omega), show ρ.set i .no = ρ from set_out (by omega)]
    exact h
theorem EnX.setO {i : Nat} {l : List D} {vs : List V} (h : EnX K M T0 H T σ ρ ((p, .lst vs) :: X)) (hi : i < ρ.length) (hd : IsL K H l vs) : EnX K M T0 H T (σ.set i (some (.ref p))) (ρ.set i (.ow l)) X :=
  EnX.fill (Ls' := [(p, .lst vs)]) h (.ow hd .nil) hi
theorem EnX.setC {i : Nat} {d : D} {v : V} {Lc : Op} (h : EnX K M T0 H T σ ρ (Lc ++ X)) (hi : i < ρ.length) (hd : IsC K H d v Lc) : EnX K M T0 H T (σ.set i (some v)) (ρ.set i (.cl d)) X := by
  have q := EnR.cl (K := K) (H := H) hd .nil
  rw [List.append_nil] at q
  exact EnX.fill (Ls' := Lc) h q hi
theorem set_self : ∀ {α : Type} {l : List α} {i : Nat} {x : α}, l[i]? = some x → l.set i x = l
  | _, [], _, _, h => by simp at h
  | _, a :: l, 0, x, h => by
    have e : a = x := Option.some.inj h
    rw [e] <;> rfl
  | _, a :: l, i + 1, x, h => by
    show a :: l.set i x = a :: l
    rw [set_self (by simpa using h)]
theorem get_some {α : Type} {l : List α} {i : Nat} (h : i < l.length) : ∃ x, l[i]? = some x := ⟨l[i], List.getElem?_eq_getElem h⟩
/-- slot i emptied: its part stands in X -/
theorem EnX.take {i : Nat} {s : Sl} (h : EnX K M T0 H T σ ρ X) (e : ρ[i]? = some s) : ∃ x Ls, σ[i]? = some x ∧ EnR K H [s] [x] Ls ∧ EnX K M T0 H T σ (ρ.set i .no) (Ls ++ X) := by
  obtain ⟨L, r, q, f⟩ := h.ex
  obtain ⟨x, Ls, L1, L2, h1, h2, h3, h4⟩ := r.at_ e
  subst h2
  have q2 := h4 H .no x [] (Same.refl _) (.no .nil)
  rw [set_self h1] at q2
  have pm : List.Perm (X ++ ((L1 ++ (Ls ++ L2)) ++ M)) ((Ls ++ X) ++ ((L1 ++ ([] ++ L2)) ++ M)) := by
    have e1 : X ++ ((L1 ++ (Ls ++ L2)) ++ M) = ((X ++ L1) ++ Ls) ++ (L2 ++ M) := by simp [List.append_assoc]
    have e2 : (Ls ++ X) ++ ((L1 ++ ([] ++ L2)) ++ M) = (Ls ++ (X ++ L1)) ++ (L2 ++ M) := by simp [List.append_assoc]
    rw [e1, e2]
    exact List.perm_append_comm.append_right _
  refine ⟨x, Ls, h1, h3, ⟨_, q2, q.perm pm, fun z hz => f z ?_⟩, h.t0⟩
  simp only [List.mem_append, List.nil_append] at hz ⊢
  rcases hz with (a | a) | a | a
  · exact .inr (.inr (.inl a))
  · exact .inl a
  · exact .inr (.inl a)
  · exact .inr (.inr (.inr a))
theorem EnR.ow1 {l : List D} {x : Option V} {Ls : Op} (h : EnR K H [.ow l] [x] Ls) : ∃ p vs, x = some (.ref p) ∧ Ls = [(p, .lst vs)] ∧ IsL K H l vs := by
  cases h with
  | ow i h => cases h; exact ⟨_, _, rfl, rfl, i⟩
theorem EnR.cl1 {d : D} {x : Option V} {Ls : Op} (h : EnR K H [.cl d] [x] Ls) : ∃ v, x = some v ∧ IsC K H d v Ls := by
  cases h with
  | cl i h =>
    cases h
    rw [List.append_nil]
    exact ⟨_, rfl, i⟩
/-- the open list at slot i -/
theorem EnX.own {i : Nat} {l : List D} (h : EnX K M T0 H T σ ρ X) (e : ρ[i]? = some (.ow l)) : ∃ p vs, σ[i]? = some (some (.ref p)) ∧ T p = some (.lst vs) ∧ IsL K H l vs ∧
    (∀ l' vs', IsL K H l' vs' → EnX K M T0 H (upd T p (.lst vs')) σ (ρ.set i (.ow l')) X) ∧
    (Same H (upd H p (.lst vs)) ∧ EnX K M T0 (upd H p (.lst vs)) T σ (ρ.set i (.im (.lst l))) X) ∧
    EnX K M T0 H T σ (ρ.set i .no) ((p, .lst vs) :: X) := by
  obtain ⟨x, Ls, h1, h2, h3⟩ := h.take e
  obtain ⟨p, vs, rfl, rfl, h4⟩ := h2.ow1
  have hi : i < (ρ.set i .no).length := by rw [List.length_set]; exact (List.getElem?_eq_some_iff.mp e).1
  refine ⟨p, vs, h1, EnX.at_ h3, h4, fun l' vs' hl => ?_, ?_, h3⟩
  · have q := EnX.setO (i := i) (EnX.write (o' := .lst vs') h3) hi hl
    rw [set_self h1, List.set_set] at q
    exact q
  · obtain ⟨s, q⟩ := EnX.close h3
    have q2 := q.set (i := i) (d := .lst l) (v := .ref p) ⟨p, vs, rfl, upd_same, h4.up s⟩
    rw [set_self h1, List.set_set] at q2
    exact ⟨s, q2⟩
end
end FS
set_option Elab.async false
set_option linter.all false
set_option maxRecDepth 100000
set_option maxHeartbeats 4000000
namespace FS
open PySem PySem.Spec PyProof.Rows L2

/-! ### what an expression is worth -/
section
variable (K : PySem.W.Frag)
def EvD (te : TE) (ρ : Rho) (d : D) : Prop := ∀ (M : Op) (T0 H T : Hp) (σ : L2.St) (X : Op) (Q : VK), EnX K M T0 H T σ ρ X → (∀ v H' T', Same H H' → Same T T' → EnX K M T0 H' T' σ ρ X → Is K H' d v → Q v T') → te σ T Q
/-- a new list -/
def EvO (te : TE) (ρ : Rho) (l : List D) : Prop := ∀ (M : Op) (T0 H T : Hp) (σ : L2.St) (X : Op) (Q : VK), EnX K M T0 H T σ ρ X → (∀ p vs H' T', Same H H' → Same T T' → EnX K M T0 H' T' σ ρ ((p, .lst vs) :: X) → IsL K H' l vs → Q (.ref p) T') → te σ T Q
def EvT (tt : TT) (ρ : Rho) (b : Bool) : Prop := ∀ (M : Op) (T0 H T : Hp) (σ : L2.St) (X : Op) (Q : Bool → Hp → Prop), EnX K M T0 H T σ ρ X → (∀ H' T', Same H H' → Same T T' → EnX K M T0 H' T' σ ρ X → Q b T') → tt σ T Q
def EvA (ta : TA) (ρ : Rho) (ds : List D) : Prop := ∀ (M : Op) (T0 H T : Hp) (σ : L2.St) (X : Op) (Q : List V → Hp → Prop), EnX K M T0 H T σ ρ X → (∀ vs H' T', Same H H' → Same T T' → EnX K M T0 H' T' σ ρ X → IsL K H' ds vs → Q vs T') → ta σ T Q
/-- operations on values -/
def RvD (r : R2) (x y z : D) : Prop := ∀ (H T : Hp) (vx vy : V) (Q : VK), Same H T → Is K H x vx → Is K H y vy → (∀ v, Is K H z v → Q v T) → r vx vy T Q
def RuD (r : V → Hp → VK → Prop) (x z : D) : Prop := ∀ (H T : Hp) (vx : V) (Q : VK), Same H T → Is K H x vx → (∀ v, Is K H z v → Q v T) → r vx T Q
def RcD (r : List V → Hp → VK → Prop) (ds : List D) (z : D) : Prop := ∀ (H T : Hp) (vs : List V) (Q : VK), Same H T → IsL K H ds vs → (∀ v, Is K H z v → Q v T) → r vs T Q
/-- a call that makes a new list -/
def RcO (r : List V → Hp → VK → Prop) (ds l : List D) : Prop := ∀ (H T : Hp) (vs : List V) (Q : VK), Same H T → IsL K H ds vs → (∀ p us, T p = none → IsL K H l us → Q (.ref p) (upd T p (.lst us))) → r vs T Q
/-- an operation that makes a new list -/
def RvO (r : R2) (x y : D) (l : List D) : Prop := ∀ (H T : Hp) (vx vy : V) (Q : VK), Same H T → Is K H x vx → Is K H y vy → (∀ p us, T p = none → IsL K H l us → Q (.ref p) (upd T p (.lst us))) → r vx vy T Q
end

section
variable {K : PySem.W.Frag} {ρ : Rho} {ta tb te tc : TE} {t u : TT} {x y z d : D} {l : List D} {ds : List D} {tr : TA} {r : R2}
theorem EvD.is (h : EvD K te ρ x) (e : x = y) : EvD K te ρ y := e ▸ h
theorem EvO.is {l' : List D} (h : EvO K te ρ l) (e : l = l') : EvO K te ρ l' := e ▸ h
theorem EvT.is {a b : Bool} (h : EvT K t ρ a) (e : a = b) : EvT K t ρ b := e ▸ h
theorem ev_var {i : Nat} (e : ρ[i]? = some (.im d)) : EvD K (tVar i) ρ d := fun M T0 H T σ X Q h q => by
  obtain ⟨v, h1, h2⟩ := h.get e
  exact ⟨v, h1, q v H T (Same.refl _) (Same.refl _) h h2⟩
theorem ev_c {v : V} (hv : ∀ H, Is K H d v) : EvD K (tC v) ρ d := fun M T0 H T σ X Q h q => q v H T (Same.refl _) (Same.refl _) h (hv H)
theorem ev_int {i : Int} : EvD K (tC (.int i)) ρ (.int i) := ev_c fun _ => rfl
theorem ev_bl {b : Bool} : EvD K (tC (.bl b)) ρ (.bl b) := ev_c fun _ => rfl
theorem ev_non : EvD K (tC .non) ρ .non := ev_c fun _ => rfl
theorem ev_str {s : Str} : EvD K (tC (.str s)) ρ (.str s) := ev_c fun _ => rfl
/-- a new list, known from now on -/
theorem ev_fz (h : EvO K te ρ l) : EvD K te ρ (.lst l) := fun M T0 H T σ X Q e q => h M T0 H T σ X Q e fun p vs H' T' s t e' hl => by
  obtain ⟨s2, e2⟩ := e'.close
  exact q (.ref p) _ T' (s.trans s2) t e2 ⟨p, vs, rfl, upd_same, hl.up s2⟩
theorem ev_op (ha : EvD K ta ρ x) (hb : EvD K tb ρ y) (hr : RvD K r x y z) : EvD K (tOp r ta tb) ρ z := fun M T0 H T σ X Q e q =>
  ha M T0 H T σ X _ e fun v H1 T1 s1 t1 e1 i1 => hb M T0 H1 T1 σ X _ e1 fun w H2 T2 s2 t2 e2 i2 => hr H2 T2 v w Q e2.same (i1.up s2) i2 fun u iu => q u H2 T2 (s1.trans s2) (t1.trans t2) e2 iu
theorem ev_un {r : V → Hp → VK → Prop} (ha : EvD K ta ρ x) (hr : RuD K r x z) : EvD K (tUn r ta) ρ z := fun M T0 H T σ X Q e q =>
  ha M T0 H T σ X _ e fun v H1 T1 s1 t1 e1 i1 => hr H1 T1 v Q e1.same i1 fun u iu => q u H1 T1 s1 t1 e1 iu
theorem ev_opO (ha : EvD K ta ρ x) (hb : EvD K tb ρ y) (hr : RvO K r x y l) : EvO K (tOp r ta tb) ρ l := fun M T0 H T σ X Q e q =>
  ha M T0 H T σ X _ e fun v H1 T1 s1 t1 e1 i1 => hb M T0 H1 T1 σ X _ e1 fun w H2 T2 s2 t2 e2 i2 => hr H2 T2 v w Q e2.same (i1.up s2) i2 fun p us hp iu => q p us H2 _ (s1.trans s2) ((t1.trans t2).trans (same_new hp)) (e2.opened hp) iu
theorem ev_cb {r : List V → Hp → VK → Prop} (ha : EvA K tr ρ ds) (hr : RcD K r ds z) : EvD K (tCB r tr) ρ z := fun M T0 H T σ X Q e q =>
  ha M T0 H T σ X _ e fun vs H1 T1 s1 t1 e1 i1 => hr H1 T1 vs Q e1.same i1 fun u iu => q u H1 T1 s1 t1 e1 iu
theorem ev_cbO {r : List V → Hp → VK → Prop} (ha : EvA K tr ρ ds) (hr : RcO K r ds l) : EvO K (tCB r tr) ρ l := fun M T0 H T σ X Q e q =>
  ha M T0 H T σ X _ e fun vs H1 T1 s1 t1 e1 i1 => hr H1 T1 vs Q e1.same i1 fun p us hp iu => q p us H1 _ s1 (t1.trans (same_new hp)) (e1.opened hp) iu
theorem ea_nil : EvA K tNil ρ [] := fun M T0 H T σ X Q e q => q [] H T (Same.refl _) (Same.refl _) e rfl
theorem ea_cons (ha : EvD K ta ρ x) (hr : EvA K tr ρ ds) : EvA K (tCons ta tr) ρ (x :: ds) := fun M T0 H T σ X Q e q =>
  ha M T0 H T σ X _ e fun v H1 T1 s1 t1 e1 i1 => hr M T0 H1 T1 σ X _ e1 fun vs H2 T2 s2 t2 e2 i2 => q (v :: vs) H2 T2 (s1.trans s2) (t1.trans t2) e2 (.cons (i1.up s2) i2)
theorem ev_tup (ha : EvA K tr ρ ds) (hl : ds.length ≤ 1000) : EvD K (tTup tr) ρ (.tup ds) := fun M T0 H T σ X Q e q =>
  ha M T0 H T σ X _ e fun vs H1 T1 s1 t1 e1 i1 => ⟨by rw [i1.len]; exact Nat.le_trans hl (by decide), fun p hp => by
    obtain ⟨s2, e2⟩ := e1.new (o := .tup vs) hp
    exact q (.ref p) _ _ (s1.trans s2) (t1.trans (same_new hp)) e2 ⟨p, vs, rfl, .inl (.inl upd_same), i1.up s2⟩⟩
theorem evo_lst (ha : EvA K tr ρ ds) (hl : ds.length ≤ 1000) : EvO K (tLst tr) ρ ds := fun M T0 H T σ X Q e q =>
  ha M T0 H T σ X _ e fun vs H1 T1 s1 t1 e1 i1 => ⟨by rw [i1.len]; exact Nat.le_trans hl (by decide), fun p hp => q p vs H1 _ s1 (t1.trans (same_new hp)) (e1.opened hp) i1⟩
/-! tests -/
theorem et_test {b : Bool} (h : EvD K te ρ (.bl b)) : EvT K (tTest te) ρ b := fun M T0 H T σ X Q e q =>
  h M T0 H T σ X _ e fun v H1 T1 s1 t1 e1 i1 => ⟨b, i1, q H1 T1 s1 t1 e1⟩
theorem et_B {b : Bool} (h : EvD K te ρ (.bl b)) : EvT K (tB te) ρ b := fun M T0 H T σ X Q e q =>
  h M T0 H T σ X _ e fun v H1 T1 s1 t1 e1 i1 => ⟨b, i1, q H1 T1 s1 t1 e1⟩
theorem et_and {a b : Bool} (h1 : EvT K t ρ a) (h2 : a = true → EvT K u ρ b) : EvT K (tAnd t u) ρ (a && b) := fun M T0 H T σ X Q e q =>
  h1 M T0 H T σ X _ e fun H1 T1 s1 t1 e1 => by
    cases a with
    | true =>
      show u σ T1 Q
      exact h2 rfl M T0 H1 T1 σ X Q e1 fun H2 T2 s2 t2 e2 => q H2 T2 (s1.trans s2) (t1.trans t2) e2
    | false =>
      show Q false T1
      exact q H1 T1 s1 t1 e1
theorem et_or {a b : Bool} (h1 : EvT K t ρ a) (h2 : a = false → EvT K u ρ b) : EvT K (tOr t u) ρ (a || b) := fun M T0 H T σ X Q e q =>
  h1 M T0 H T σ X _ e fun H1 T1 s1 t1 e1 => by
    cases a with
    | true =>
      show Q true T1
      exact q H1 T1 s1 t1 e1
    | false =>
      show u σ T1 Q
      exact h2 rfl M T0 H1 T1 σ X Q e1 fun H2 T2 s2 t2 e2 => q H2 T2 (s1.trans s2) (t1.trans t2) e2
theorem et_not {a : Bool} (h1 : EvT K t ρ a) : EvT K (tNot t) ρ (!a) := fun M T0 H T σ X Q e q => h1 M T0 H T σ X _ e fun H1 T1 s1 t1 e1 => q H1 T1 s1 t1 e1
theorem et_yes : EvT K tYes ρ true := fun M T0 H T σ X Q e q => q H T (Same.refl _) (Same.refl _) e
theorem ev_andV {a b : Bool} (h1 : EvD K ta ρ (.bl a)) (h2 : a = true → EvD K tb ρ (.bl b)) : EvD K (tAndV ta tb) ρ (.bl (a && b)) := fun M T0 H T σ X Q e q =>
  h1 M T0 H T σ X _ e fun v H1 T1 s1 t1 e1 i1 => ⟨a, i1, by
    cases a with
    | true =>
      show tb σ T1 Q
      exact h2 rfl M T0 H1 T1 σ X Q e1 fun w H2 T2 s2 t2 e2 i2 => q w H2 T2 (s1.trans s2) (t1.trans t2) e2 i2
    | false =>
      show Q (.bl false) T1
      exact q _ H1 T1 s1 t1 e1 rfl⟩
theorem ev_orV {a b : Bool} (h1 : EvD K ta ρ (.bl a)) (h2 : a = false → EvD K tb ρ (.bl b)) : EvD K (tOrV ta tb) ρ (.bl (a || b)) := fun M T0 H T σ X Q e q =>
  h1 M T0 H T σ X _ e fun v H1 T1 s1 t1 e1 i1 => ⟨a, i1, by
    cases a with
    | true =>
      show Q (.bl true) T1
      exact q _ H1 T1 s1 t1 e1 rfl
    | false =>
      show tb σ T1 Q
      exact h2 rfl M T0 H1 T1 σ X Q e1 fun w H2 T2 s2 t2 e2 i2 => q w H2 T2 (s1.trans s2) (t1.trans t2) e2 i2⟩
theorem ev_notV {a : Bool} (h1 : EvD K ta ρ (.bl a)) : EvD K (tNotV ta) ρ (.bl (!a)) := fun M T0 H T σ X Q e q =>
  h1 M T0 H T σ X _ e fun v H1 T1 s1 t1 e1 i1 => ⟨a, i1, q _ H1 T1 s1 t1 e1 rfl⟩
theorem ev_if {b : Bool} (h : EvT K t ρ b) (h1 : b = true → EvD K ta ρ x) (h2 : b = false → EvD K tb ρ x) : EvD K (tIf t ta tb) ρ x := fun M T0 H T σ X Q e q =>
  h M T0 H T σ X _ e fun H1 T1 s1 t1 e1 => by
    cases b with
    | true =>
      show ta σ T1 Q
      exact h1 rfl M T0 H1 T1 σ X Q e1 fun w H2 T2 s2 t2 e2 i2 => q w H2 T2 (s1.trans s2) (t1.trans t2) e2 i2
    | false =>
      show tb σ T1 Q
      exact h2 rfl M T0 H1 T1 σ X Q e1 fun w H2 T2 s2 t2 e2 i2 => q w H2 T2 (s1.trans s2) (t1.trans t2) e2 i2

/-! operations on ints and others -/
theorem rv_I0 {g : Int → Int → V} {i j : Int} (hz : ∀ H, Is K H z (g i j)) : RvD K (rI0 g) (.int i) (.int j) z := fun H T vx vy Q s h1 h2 q => ⟨i, j, h1, h2, q _ (hz H)⟩
theorem rv_I {C : Int → Int → Prop} {g : Int → Int → V} {i j : Int} (hc : C i j) (hz : ∀ H, Is K H z (g i j)) : RvD K (rI C g) (.int i) (.int j) z := fun H T vx vy Q s h1 h2 q => ⟨i, j, h1, h2, hc, q _ (hz H)⟩
theorem ru_I {g : Int → V} {i : Int} (hz : ∀ H, Is K H z (g i)) : RuD K (rU g) (.int i) z := fun H T vx Q s h1 q => ⟨i, h1, q _ (hz H)⟩
theorem rv_eqI {i j : Int} : RvD K rEq (.int i) (.int j) (.bl (decide (i = j))) := fun H T vx vy Q s h1 h2 q => by
  rw [show vx = V.int i from h1, show vy = V.int j from h2]
  exact ⟨rfl, q _ (by rw [dec_int]; exact congrArg V.bl (Bool.beq_eq_decide_eq i j))⟩
theorem rv_neI {i j : Int} : RvD K rNe (.int i) (.int j) (.bl (!decide (i = j))) := fun H T vx vy Q s h1 h2 q => by
  rw [show vx = V.int i from h1, show vy = V.int j from h2]
  exact ⟨rfl, q _ (by rw [dec_int]; exact congrArg (fun b => V.bl (!b)) (Bool.beq_eq_decide_eq i j))⟩
theorem rv_eqS {i j : Str} : RvD K rEq (.str i) (.str j) (.bl (decide (i = j))) := fun H T vx vy Q s h1 h2 q => by
  rw [show vx = V.str i from h1, show vy = V.str j from h2]
  refine ⟨rfl, q _ ?_⟩
  show V.bl (decide (V.str i = V.str j)) = V.bl (decide (i = j))
  by_cases e : i = j
  · rw [decide_eq_true e, decide_eq_true (by rw [e])]
  · rw [decide_eq_false e, decide_eq_false (fun z => e (V.str.inj z))]
theorem rv_neS {i j : Str} : RvD K rNe (.str i) (.str j) (.bl (!decide (i = j))) := fun H T vx vy Q s h1 h2 q => by
  rw [show vx = V.str i from h1, show vy = V.str j from h2]
  refine ⟨rfl, q _ ?_⟩
  show V.bl (!decide (V.str i = V.str j)) = V.bl (!decide (i = j))
  by_cases e : i = j
  · rw [decide_eq_true e, decide_eq_true (by rw [e])]
  · rw [decide_eq_false e, decide_eq_false (fun z => e (V.str.inj z))]
/-- is None -/
def isNon : D → Bool
  | .non => true
  | .kn d => isNon d
  | _ => false
theorem isNon_ok {H : Hp} {v : V} : ∀ (x : D), Is K H x v → decide (v = .non) = isNon x
  | .non, h => by rw [show v = V.non from h] <;> rfl
  | .bl b, h => by rw [show v = V.bl b from h] <;> rfl
  | .int b, h => by rw [show v = V.int b from h] <;> rfl
  | .str b, h => by rw [show v = V.str b from h] <;> rfl
  | .tup l, h => by obtain ⟨a, vs, rfl, _⟩ := h; rfl
  | .lst l, h => by obtain ⟨a, vs, rfl, _⟩ := h; rfl
  | .scr l, h => by obtain ⟨a, rfl, _⟩ := h; rfl
  | .ty n, h => by rw [show v = V.ty n from h] <;> rfl
  | .obj a, h => by rw [show v = V.ref a from h] <;> rfl
  | .ins C ns l, h => by obtain ⟨a, dx, vs, rfl, _⟩ := h; rfl
  | .exc a od ns l, h => by obtain ⟨rfl, _⟩ := h; rfl
  | .dic ks l, h => by obtain ⟨a, vs, rfl, _⟩ := h; rfl
  | .slf a C ns l, h => by obtain ⟨rfl, _⟩ := h; rfl
  | .kn d, h => by rw [isNon_ok d (show Is K H d v from h), isNon]
theorem rv_isN : RvD K (fun x y H Q => y = .non ∧ Q (.bl (decide (x = .non))) H) x .non (.bl (isNon x)) := fun H T vx vy Q s h1 h2 q => ⟨h2, q _ (congrArg V.bl (isNon_ok _ h1))⟩
theorem rv_notN : RvD K (fun x y H Q => y = .non ∧ Q (.bl (!decide (x = .non))) H) x .non (.bl (!isNon x)) := fun H T vx vy Q s h1 h2 q => ⟨h2, q _ (congrArg (fun b => V.bl (!b)) (isNon_ok _ h1))⟩
theorem atI_is {H : Hp} {vs : List V} {i : Int} (h : IsL K H l vs) (e : atI l i = some d) : ∃ v, atI vs i = some v ∧ Is K H d v := by
  unfold atI at e ⊢
  rw [h.len]
  cases q : ixN l.length i with
  | none => rw [q] at e; cases e
  | some j =>
    rw [q] at e
    exact h.get (i := j) e
theorem at_nat {j : Nat} (h : l[j]? = some d) : atI l (j : Int) = some d := atI_nat h
theorem rv_ixL {i : Int} (e : atI l i = some d) : RvD K (rIxL K) (.lst l) (.int i) d := fun H T vx vy Q s ⟨a, vs, h0, h1, h2⟩ h3 q => by
  obtain ⟨v, e1, e2⟩ := atI_is h2 e
  exact ⟨a, vs, i, v, h0, h3, .inl (.inl (s _ _ h1)), e1, q v e2⟩
theorem rv_ixT {i : Int} (e : atI l i = some d) : RvD K (rIxT K) (.tup l) (.int i) d := fun H T vx vy Q s ⟨a, vs, h0, h1, h2⟩ h3 q => by
  obtain ⟨v, e1, e2⟩ := atI_is h2 e
  exact ⟨a, vs, i, v, h0, h3, same_t s h1, e1, q v e2⟩
theorem rv_ixC {ns : List Int} {i n : Int} (e : atI ns i = some n) : RvD K (rIxL K) (.scr ns) (.int i) (.int n) := fun H T vx vy Q s ⟨a, h0, h1⟩ h3 q => by
  refine ⟨a, ns.map V.int, i, .int n, h0, h3, s.seq h1, ?_, q _ rfl⟩
  unfold atI at e ⊢
  rw [List.length_map]
  cases q : ixN ns.length i with
  | none => rw [q] at e; cases e
  | some j =>
    rw [q] at e
    have e : ns[j]? = some n := e
    show (ns.map V.int)[j]? = _
    rw [List.getElem?_map, e]
    rfl
theorem rv_ixxL {i : Int} (e : atI l i = some d) : RvD K (rIx K) (.lst l) (.int i) d := fun H T vx vy Q s h1 h2 q => .inl (rv_ixL e H T vx vy Q s h1 h2 q)
theorem rv_ixxT {i : Int} (e : atI l i = some d) : RvD K (rIx K) (.tup l) (.int i) d := fun H T vx vy Q s h1 h2 q => .inr (.inl (rv_ixT e H T vx vy Q s h1 h2 q))
theorem rv_ixxC {ns : List Int} {i n : Int} (e : atI ns i = some n) : RvD K (rIx K) (.scr ns) (.int i) (.int n) := fun H T vx vy Q s h1 h2 q => .inl (rv_ixC e H T vx vy Q s h1 h2 q)
/-- an open list's item -/
theorem ev_ixO {i : Nat} {k : Int} (e : ρ[i]? = some (.ow l)) (hb : EvD K tb ρ (.int k)) (ha : atI l k = some d) : EvD K (tOp (rIx K) (tVar i) tb) ρ d := fun M T0 H T σ X Q h q => by
  obtain ⟨p, vs, h1, h2, h4, _⟩ := h.own e
  refine ⟨.ref p, h1, hb M T0 H T σ X _ h fun w H2 T2 s2 t2 e2 i2 => ?_⟩
  obtain ⟨p', vs', g1, g2, g4, _⟩ := e2.own e
  rw [h1] at g1
  cases g1
  obtain ⟨v, e3, e4⟩ := atI_is g4 ha
  exact .inl ⟨p, vs', k, v, rfl, i2, .inl (.inl g2), e3, q v H2 T2 s2 t2 e2 e4⟩
/-- len -/
abbrev rLen (K : PySem.W.Frag) : List V → Hp → VK → Prop := fun xs H Q => ∃ p ys, xs = [.ref p] ∧ (SqL K H p ys ∨ SqT K H p ys) ∧ Q (.int ys.length) H
theorem isL_one {H : Hp} {vs : List V} (h : IsL K H [d] vs) : ∃ v, vs = [v] ∧ Is K H d v := by
  obtain ⟨v, r, e, h1, h2⟩ := h
  rw [e, show r = [] from h2]
  exact ⟨v, rfl, h1⟩
theorem isL_two {H : Hp} {vs : List V} {d' : D} (h : IsL K H [d, d'] vs) : ∃ v w, vs = [v, w] ∧ Is K H d v ∧ Is K H d' w := by
  obtain ⟨v, r, e, h1, h2⟩ := h
  obtain ⟨w, e2, h3⟩ := isL_one h2
  rw [e, e2]
  exact ⟨v, w, rfl, h1, h3⟩
theorem rc_lenL : RcD K (rLen K) [.lst l] (.int (l.length : Int)) := fun H T vs Q s h q => by
  obtain ⟨v, rfl, a, us, rfl, h1, h2⟩ := isL_one h
  exact ⟨a, us, rfl, .inl (.inl (.inl (s _ _ h1))), q _ (by rw [h2.len]; exact (rfl : V.int _ = V.int _))⟩
theorem rc_lenT : RcD K (rLen K) [.tup l] (.int (l.length : Int)) := fun H T vs Q s h q => by
  obtain ⟨v, rfl, a, us, rfl, h1, h2⟩ := isL_one h
  exact ⟨a, us, rfl, .inr (same_t s h1), q _ (by rw [h2.len]; exact (rfl : V.int _ = V.int _))⟩
theorem rc_lenC {ns : List Int} : RcD K (rLen K) [.scr ns] (.int (ns.length : Int)) := fun H T vs Q s h q => by
  obtain ⟨v, rfl, a, rfl, h1⟩ := isL_one h
  exact ⟨a, ns.map V.int, rfl, .inl (s.seq h1), q _ (by rw [List.length_map]; exact (rfl : V.int _ = V.int _))⟩
theorem ev_lenO {i : Nat} (e : ρ[i]? = some (.ow l)) : EvD K (tCB (rLen K) (tCons (tVar i) tNil)) ρ (.int (l.length : Int)) := fun M T0 H T σ X Q h q => by
  obtain ⟨p, vs, h1, h2, h4, _⟩ := h.own e
  exact ⟨.ref p, h1, p, vs, rfl, .inl (.inl (.inl h2)), q _ H T (Same.refl _) (Same.refl _) h (by rw [h4.len]; exact (rfl : V.int _ = V.int _))⟩
theorem rc_int {i : Int} : RcD K (fun xs H Q => (∃ i, xs = [.int i] ∧ Q (.int i) H) ∨ ∃ k, xs = [.bl k] ∧ Q (.int (if k then 1 else 0)) H) [.int i] (.int i) := fun H T vs Q s h q => by
  obtain ⟨v, rfl, hv⟩ := isL_one h
  exact .inl ⟨i, by rw [show v = V.int i from hv], q _ rfl⟩
theorem rc_intB {b : Bool} : RcD K (fun xs H Q => (∃ i, xs = [.int i] ∧ Q (.int i) H) ∨ ∃ k, xs = [.bl k] ∧ Q (.int (if k then 1 else 0)) H) [.bl b] (.int (if b then 1 else 0)) := fun H T vs Q s h q => by
  obtain ⟨v, rfl, hv⟩ := isL_one h
  exact .inr ⟨b, by rw [show v = V.bl b from hv], q _ rfl⟩
theorem rc_abs {i : Int} : RcD K (fun xs H Q => ∃ i, xs = [.int i] ∧ Q (.int (if i < 0 then -i else i)) H) [.int i] (.int (i.natAbs : Int)) := fun H T vs Q s h q => by
  obtain ⟨v, rfl, hv⟩ := isL_one h
  refine ⟨i, by rw [show v = V.int i from hv], q _ ?_⟩
  show V.int _ = V.int _
  congr 1
  split <;> omega
theorem rc_gcd {a b : Int} : RcD K rGcd [.int a, .int b] (.int ((Nat.gcd a.natAbs b.natAbs : Nat) : Int)) := fun H T vs Q s h q => by
  obtain ⟨v, w, rfl, hv, hw⟩ := isL_two h
  exact ⟨a, b, by rw [show v = V.int a from hv, show w = V.int b from hw], q _ rfl⟩
theorem rc_list : RcO K (fun xs H Q => ∃ p ys, xs = [.ref p] ∧ (SqL K H p ys ∨ SqT K H p ys) ∧ ∀ l, H l = none → Q (.ref l) (upd H l (.lst ys))) [.lst l] l := fun H T vs Q s h q => by
  obtain ⟨v, rfl, a, us, rfl, h1, h2⟩ := isL_one h
  exact ⟨a, us, rfl, .inl (.inl (.inl (s _ _ h1))), fun p hp => q p us hp h2⟩
theorem rc_listT : RcO K (fun xs H Q => ∃ p ys, xs = [.ref p] ∧ (SqL K H p ys ∨ SqT K H p ys) ∧ ∀ l, H l = none → Q (.ref l) (upd H l (.lst ys))) [.tup l] l := fun H T vs Q s h q => by
  obtain ⟨v, rfl, a, us, rfl, h1, h2⟩ := isL_one h
  exact ⟨a, us, rfl, .inr (same_t s h1), fun p hp => q p us hp h2⟩
theorem rvo_cat {l' : List D} (hz : l.length + l'.length ≤ 100000) : RvO K rCat (.lst l) (.lst l') (l ++ l') := fun H T vx vy Q s ⟨a, us, e1, h1, h2⟩ ⟨b, ws, e2, h3, h4⟩ q =>
  ⟨a, b, us, ws, e1, e2, s _ _ h1, s _ _ h3, by rw [h2.len, h4.len]; exact Nat.le_trans hz (by decide), fun p hp => q p _ hp (h2.app h4)⟩
theorem rvo_rep {k : Int} (h1 : -(2 ^ 63) ≤ k ∧ k < 2 ^ 63) (hz : l.length * k.toNat ≤ 100000) : RvO K rRep (.lst l) (.int k) (List.replicate k.toNat l).flatten := fun H T vx vy Q s ⟨a, us, e1, g1, g2⟩ g3 q =>
  ⟨a, k, us, e1, g3, s _ _ g1, h1.1, h1.2, by rw [g2.len]; exact Nat.le_trans hz (by decide), fun p hp => q p _ hp (by
    induction k.toNat with
    | zero => exact (rfl : [] = [])
    | succ n ih =>
      rw [List.replicate_succ, List.replicate_succ, List.flatten_cons, List.flatten_cons]
      exact g2.app ih)⟩
end

/-! ### calls of the text's own defs -/
/-- an exception's data: its class, the names and the values of its fields -/
abbrev Exn := Value × List Str × List D
def IsX (K : PySem.W.Frag) (H : Hp) (od : Option Addr) (ns : List Str) (ds : List D) : Prop := (ns = [] ∧ od = none) ∨ ∃ d vs, od = some d ∧ H d = some (.xd (ns.zip vs)) ∧ IsL K H ds vs
/-- what is handed back; T0: the heap at the entry -/
def RetR (K : PySem.W.Frag) (M : Op) (T0 H T : Hp) (v : V) : Sl → Prop
  | .no => False
  | .im d => Is K H d v ∧ Opn H T M
  | .ow l => ∃ p vs, v = .ref p ∧ IsL K H l vs ∧ Opn H T ((p, .lst vs) :: M) ∧ T0 p = none
  | .cl d => ∃ Lc, IsC K H d v Lc ∧ Opn H T (Lc ++ M) ∧ ∀ x ∈ Lc, T0 x.1 = none
/-- a promise over data: what is asked of the arguments, of what comes back (R), of what is raised (Z) -/
abbrev PrD := List D → (Sl → Prop) → (Exn → Prop) → Prop
def spD (K : PySem.W.Frag) (P : PrD) : Sp := fun vs T Q E => ∃ (M : Op) (H : Hp) (ds : List D) (R : Sl → Prop) (Z : Exn → Prop), Opn H T M ∧ IsL K H ds vs ∧ P ds R Z ∧
  (∀ s v H' T', R s → Same H H' → Same T T' → RetR K M T H' T' v s → Q v T') ∧ ∀ c ns es od H' T', Z (c, ns, es) → Same H H' → Same T T' → Opn H' T' M → IsX K H' od ns es → E c od T'
section
variable {K : PySem.W.Frag} {ρ : Rho} {x z d : D} {l : List D} {ds : List D} {tr : TA} {P : PrD} {E : XK} {M X L : Op} {T0 H H' T T' : Hp} {σ : L2.St} {v : V}
theorem EnX.ret_im (e : EnX K M T0 H T σ ρ X) (r : EnR K H ρ σ L) (f : ∀ x ∈ X ++ L, T0 x.1 = none) (s : Same H H') (t : Same T T') (q : RetR K (X ++ (L ++ M)) T H' T' v (.im d)) : EnX K M T0 H' T' σ ρ X ∧ Is K H' d v :=
  ⟨⟨⟨L, r.up s, q.2, f⟩, e.t0.trans t⟩, q.1⟩
theorem EnX.ret_ow (e : EnX K M T0 H T σ ρ X) (r : EnR K H ρ σ L) (f : ∀ x ∈ X ++ L, T0 x.1 = none) (s : Same H H') (t : Same T T') (q : RetR K (X ++ (L ++ M)) T H' T' v (.ow l)) : ∃ p vs, v = .ref p ∧ EnX K M T0 H' T' σ ρ ((p, .lst vs) :: X) ∧ IsL K H' l vs := by
  obtain ⟨p, vs, rfl, h1, h2, h3⟩ := q
  refine ⟨p, vs, rfl, ⟨⟨L, r.up s, h2, fun x hx => ?_⟩, e.t0.trans t⟩, h1⟩
  rcases List.mem_cons.mp hx with rfl | hx
  · exact e.t0.free h3
  · exact f x hx
theorem EnX.ret_cl (e : EnX K M T0 H T σ ρ X) (r : EnR K H ρ σ L) (f : ∀ x ∈ X ++ L, T0 x.1 = none) (s : Same H H') (t : Same T T') (q : RetR K (X ++ (L ++ M)) T H' T' v (.cl d)) : ∃ Lc, EnX K M T0 H' T' σ ρ (Lc ++ X) ∧ IsC K H' d v Lc := by
  obtain ⟨Lc, h1, h2, h3⟩ := q
  refine ⟨Lc, ⟨⟨L, r.up s, by rw [List.append_assoc]; exact h2, fun x hx => ?_⟩, e.t0.trans t⟩, h1⟩
  rw [List.append_assoc] at hx
  rcases List.mem_append.mp hx with hx | hx
  · exact e.t0.free (h3 x hx)
  · exact f x hx
theorem ev_call (ha : EvA K tr ρ ds) (hp : P ds (fun s => s = .im z) (fun _ => False)) : EvD K (tCall (spD K P) [] E tr) ρ z := fun M T0 H T σ X Q e q =>
  ha M T0 H T σ X _ e fun vs H1 T1 s1 t1 e1 i1 => by
    obtain ⟨L, r, o, f⟩ := e1.ex
    show spD K P (vs ++ []) T1 Q E
    rw [List.append_nil]
    refine ⟨_, H1, ds, _, _, o, i1, hp, fun s v H' T' hs s' t' hr => ?_, fun _ _ _ _ _ _ h => h.elim⟩
    subst hs
    obtain ⟨e2, iz⟩ := e1.ret_im r f s' t' hr
    exact q v H' T' (s1.trans s') (t1.trans t') e2 iz
theorem ev_callO (ha : EvA K tr ρ ds) (hp : P ds (fun s => s = .ow l) (fun _ => False)) : EvO K (tCall (spD K P) [] E tr) ρ l := fun M T0 H T σ X Q e q =>
  ha M T0 H T σ X _ e fun vs H1 T1 s1 t1 e1 i1 => by
    obtain ⟨L, r, o, f⟩ := e1.ex
    show spD K P (vs ++ []) T1 Q E
    rw [List.append_nil]
    refine ⟨_, H1, ds, _, _, o, i1, hp, fun s v H' T' hs s' t' hr => ?_, fun _ _ _ _ _ _ h => h.elim⟩
    subst hs
    obtain ⟨p, us, rfl, e2, iz⟩ := e1.ret_ow r f s' t' hr
    exact q p us H' T' (s1.trans s') (t1.trans t') e2 iz
end

/-! calls that may raise; what raises -/
section
variable {K : PySem.W.Frag} {ρ : Rho} {x z d : D} {l : List D} {ds : List D} {tr : TA} {P : PrD} {W : L2.WX}
theorem ev_callS (ha : EvA K tr ρ ds) (hp : P ds (fun s => s = .im z) (fun _ => False)) : EvD K (tCallS (spD K P) (WE W) tr) ρ z := fun M T0 H T σ X Q e q =>
  ha M T0 H T σ X _ e fun vs H1 T1 s1 t1 e1 i1 => by
    obtain ⟨L, r, o, f⟩ := e1.ex
    refine ⟨_, H1, ds, _, _, o, i1, hp, fun s v H' T' hs s' t' hr => ?_, fun _ _ _ _ _ _ h => h.elim⟩
    subst hs
    obtain ⟨e2, iz⟩ := e1.ret_im r f s' t' hr
    exact q v H' T' (s1.trans s') (t1.trans t') e2 iz
theorem ev_callSO (ha : EvA K tr ρ ds) (hp : P ds (fun s => s = .ow l) (fun _ => False)) : EvO K (tCallS (spD K P) (WE W) tr) ρ l := fun M T0 H T σ X Q e q =>
  ha M T0 H T σ X _ e fun vs H1 T1 s1 t1 e1 i1 => by
    obtain ⟨L, r, o, f⟩ := e1.ex
    refine ⟨_, H1, ds, _, _, o, i1, hp, fun s v H' T' hs s' t' hr => ?_, fun _ _ _ _ _ _ h => h.elim⟩
    subst hs
    obtain ⟨p, us, rfl, e2, iz⟩ := e1.ret_ow r f s' t' hr
    exact q p us H' T' (s1.trans s') (t1.trans t') e2 iz
/-- te raises z -/
def EvZ (K : PySem.W.Frag) (W : L2.WX) (te : TE) (ρ : Rho) (z : Exn) : Prop := ∀ (M : Op) (T0 H T : Hp) (σ : L2.St) (X : Op) (Q : VK), EnX K M T0 H T σ ρ X → (∀ od H' T', Same H H' → Same T T' → EnX K M T0 H' T' σ ρ X → IsX K H' od z.2.1 z.2.2 → W z.1 od σ T') → te σ T Q
def EvZA (K : PySem.W.Frag) (W : L2.WX) (ta : TA) (ρ : Rho) (z : Exn) : Prop := ∀ (M : Op) (T0 H T : Hp) (σ : L2.St) (X : Op) (Q : List V → Hp → Prop), EnX K M T0 H T σ ρ X → (∀ od H' T', Same H H' → Same T T' → EnX K M T0 H' T' σ ρ X → IsX K H' od z.2.1 z.2.2 → W z.1 od σ T') → ta σ T Q
theorem ez_call {z : Exn} (ha : EvA K tr ρ ds) (hp : P ds (fun _ => False) (fun z' => z' = z)) : EvZ K W (tCallS (spD K P) (WE W) tr) ρ z := fun M T0 H T σ X Q e q =>
  ha M T0 H T σ X _ e fun vs H1 T1 s1 t1 e1 i1 => by
    obtain ⟨L, r, o, f⟩ := e1.ex
    refine ⟨_, H1, ds, _, _, o, i1, hp, fun _ _ _ _ h => h.elim, fun c ns es od H' T' hz s' t' o' hx => ?_⟩
    subst hz
    exact q od H' T' (s1.trans s') (t1.trans t') ⟨⟨L, r.up s', o', f⟩, e1.t0.trans t'⟩ hx
theorem ez_args {z : Exn} {sp : Sp} {E : L2.St → XK} (ha : EvZA K W tr ρ z) : EvZ K W (tCallS sp E tr) ρ z := fun M T0 H T σ X Q e q => ha M T0 H T σ X _ e q
theorem eza_here {z : Exn} {ta : TE} (h : EvZ K W ta ρ z) : EvZA K W (tCons ta tr) ρ z := fun M T0 H T σ X Q e q => h M T0 H T σ X _ e q
theorem eza_next {z : Exn} {ta : TE} (ha : EvD K ta ρ x) (h : EvZA K W tr ρ z) : EvZA K W (tCons ta tr) ρ z := fun M T0 H T σ X Q e q =>
  ha M T0 H T σ X _ e fun v H1 T1 s1 t1 e1 i1 => h M T0 H1 T1 σ X _ e1 fun od H' T' s' t' e' hx => q od H' T' (s1.trans s') (t1.trans t') e' hx
theorem ez_lst {z : Exn} (ha : EvZA K W tr ρ z) : EvZ K W (tLst tr) ρ z := fun M T0 H T σ X Q e q => ha M T0 H T σ X _ e q
theorem ez_tup {z : Exn} (ha : EvZA K W tr ρ z) : EvZ K W (tTup tr) ρ z := fun M T0 H T σ X Q e q => ha M T0 H T σ X _ e q
theorem ez_cb {z : Exn} {r : List V → Hp → VK → Prop} (ha : EvZA K W tr ρ z) : EvZ K W (tCB r tr) ρ z := fun M T0 H T σ X Q e q => ha M T0 H T σ X _ e q
theorem ez_op1 {z : Exn} {ta tb : TE} {r : R2} (ha : EvZ K W ta ρ z) : EvZ K W (tOp r ta tb) ρ z := fun M T0 H T σ X Q e q => ha M T0 H T σ X _ e q
theorem ez_op2 {z : Exn} {ta tb : TE} {r : R2} (ha : EvD K ta ρ x) (h : EvZ K W tb ρ z) : EvZ K W (tOp r ta tb) ρ z := fun M T0 H T σ X Q e q =>
  ha M T0 H T σ X _ e fun v H1 T1 s1 t1 e1 i1 => h M T0 H1 T1 σ X _ e1 fun od H' T' s' t' e' hx => q od H' T' (s1.trans s') (t1.trans t') e' hx
end

/-! ### closed results, and what is read now (no matter who owns it) -/
section
variable (K : PySem.W.Frag)
def EvC (te : TE) (ρ : Rho) (d : D) : Prop := ∀ (M : Op) (T0 H T : Hp) (σ : L2.St) (X : Op) (Q : VK), EnX K M T0 H T σ ρ X → (∀ v Lc H' T', Same H H' → Same T T' → EnX K M T0 H' T' σ ρ (Lc ++ X) → IsC K H' d v Lc → Q v T') → te σ T Q
def EvCA (ta : TA) (ρ : Rho) (ds : List D) : Prop := ∀ (M : Op) (T0 H T : Hp) (σ : L2.St) (X : Op) (Q : List V → Hp → Prop), EnX K M T0 H T σ ρ X → (∀ vs Lc H' T', Same H H' → Same T T' → EnX K M T0 H' T' σ ρ (Lc ++ X) → IsCL K H' ds vs Lc → Q vs T') → ta σ T Q
def EvN (te : TE) (ρ : Rho) (d : D) : Prop := ∀ (M : Op) (T0 H T : Hp) (σ : L2.St) (X : Op) (Q : VK), EnX K M T0 H T σ ρ X → (∀ v H' T', Same H H' → Same T T' → EnX K M T0 H' T' σ ρ X → Is K T' d v → Q v T') → te σ T Q
def EvNA (ta : TA) (ρ : Rho) (ds : List D) : Prop := ∀ (M : Op) (T0 H T : Hp) (σ : L2.St) (X : Op) (Q : List V → Hp → Prop), EnX K M T0 H T σ ρ X → (∀ vs H' T', Same H H' → Same T T' → EnX K M T0 H' T' σ ρ X → IsL K T' ds vs → Q vs T') → ta σ T Q
end
section
variable {K : PySem.W.Frag} {ρ : Rho} {x y z d : D} {l : List D} {ds : List D} {te ta tb : TE} {tr : TA} {P : PrD} {E : XK} {r : R2} {i : Nat}
theorem ec_sc (h : EvD K te ρ d) (hs : d.sc = true) : EvC K te ρ d := fun M T0 H T σ X Q e q =>
  h M T0 H T σ X _ e fun v H1 T1 s1 t1 e1 i1 => q v [] H1 T1 s1 t1 e1 (i1.sc hs)
theorem ec_ow (h : EvO K te ρ l) (hs : ∀ d ∈ l, d.sc = true) : EvC K te ρ (.lst l) := fun M T0 H T σ X Q e q =>
  h M T0 H T σ X _ e fun p vs H1 T1 s1 t1 e1 i1 => q (.ref p) [(p, .lst vs)] H1 T1 s1 t1 e1 ⟨p, vs, [], rfl, rfl, i1.sc hs⟩
/-- known already -/
theorem ec_kn (h : EvD K te ρ d) : EvC K te ρ (.kn d) := fun M T0 H T σ X Q e q => h M T0 H T σ X _ e fun v H1 T1 s1 t1 e1 i1 => q v [] H1 T1 s1 t1 e1 ⟨i1, rfl⟩
theorem ec_is (h : EvC K te ρ x) (e : x = y) : EvC K te ρ y := e ▸ h
/-- known from now on -/
theorem ec_fz (h : EvC K te ρ d) : EvD K te ρ d := fun M T0 H T σ X Q e q =>
  h M T0 H T σ X _ e fun v Lc H1 T1 s1 t1 e1 i1 => by
    obtain ⟨H2, s2, e2, h2⟩ := e1.closeAll
    exact q v H2 T1 (s1.trans s2) t1 e2 (IsC.is d v Lc (i1.up s2) h2)
theorem eca_nil : EvCA K tNil ρ [] := fun M T0 H T σ X Q e q => q [] [] H T (Same.refl _) (Same.refl _) e ⟨rfl, rfl⟩
theorem eca_cons (ha : EvC K ta ρ x) (hr : EvCA K tr ρ ds) : EvCA K (tCons ta tr) ρ (x :: ds) := fun M T0 H T σ X Q e q =>
  ha M T0 H T σ X _ e fun v L1 H1 T1 s1 t1 e1 i1 => hr M T0 H1 T1 σ _ _ e1 fun vs L2 H2 T2 s2 t2 e2 i2 => q (v :: vs) (L1 ++ L2) H2 T2 (s1.trans s2) (t1.trans t2) (e2.perm (by
    rw [← List.append_assoc]
    exact List.perm_append_comm.append_right _)) (IsCL.cons (i1.up s2) i2)
theorem ec_tup (ha : EvCA K tr ρ ds) (hl : ds.length ≤ 1000) : EvC K (tTup tr) ρ (.tup ds) := fun M T0 H T σ X Q e q =>
  ha M T0 H T σ X _ e fun vs L H1 T1 s1 t1 e1 i1 => ⟨by rw [i1.len]; exact Nat.le_trans hl (by decide), fun p hp => q (.ref p) ((p, .tup vs) :: L) H1 _ s1 (t1.trans (same_new hp)) (e1.opened hp) ⟨p, vs, L, rfl, rfl, i1⟩⟩
theorem ec_lst (ha : EvCA K tr ρ ds) (hl : ds.length ≤ 1000) : EvC K (tLst tr) ρ (.lst ds) := fun M T0 H T σ X Q e q =>
  ha M T0 H T σ X _ e fun vs L H1 T1 s1 t1 e1 i1 => ⟨by rw [i1.len]; exact Nat.le_trans hl (by decide), fun p hp => q (.ref p) ((p, .lst vs) :: L) H1 _ s1 (t1.trans (same_new hp)) (e1.opened hp) ⟨p, vs, L, rfl, rfl, i1⟩⟩
theorem ec_call (ha : EvA K tr ρ ds) (hp : P ds (fun s => s = .cl z) (fun _ => False)) : EvC K (tCall (spD K P) [] E tr) ρ z := fun M T0 H T σ X Q e q =>
  ha M T0 H T σ X _ e fun vs H1 T1 s1 t1 e1 i1 => by
    obtain ⟨L, r, o, f⟩ := e1.ex
    show spD K P (vs ++ []) T1 Q E
    rw [List.append_nil]
    refine ⟨_, H1, ds, _, _, o, i1, hp, fun s v H' T' hs s' t' hr => ?_, fun _ _ _ _ _ _ h => h.elim⟩
    subst hs
    obtain ⟨Lc, e2, iz⟩ := e1.ret_cl r f s' t' hr
    exact q v Lc H' T' (s1.trans s') (t1.trans t') e2 iz
theorem ec_callS {W : L2.WX} (ha : EvA K tr ρ ds) (hp : P ds (fun s => s = .cl z) (fun _ => False)) : EvC K (tCallS (spD K P) (WE W) tr) ρ z := fun M T0 H T σ X Q e q =>
  ha M T0 H T σ X _ e fun vs H1 T1 s1 t1 e1 i1 => by
    obtain ⟨L, r, o, f⟩ := e1.ex
    refine ⟨_, H1, ds, _, _, o, i1, hp, fun s v H' T' hs s' t' hr => ?_, fun _ _ _ _ _ _ h => h.elim⟩
    subst hs
    obtain ⟨Lc, e2, iz⟩ := e1.ret_cl r f s' t' hr
    exact q v Lc H' T' (s1.trans s') (t1.trans t') e2 iz
/-! now -/
theorem en_d (h : EvD K te ρ d) : EvN K te ρ d := fun M T0 H T σ X Q e q => h M T0 H T σ X _ e fun v H1 T1 s1 t1 e1 i1 => q v H1 T1 s1 t1 e1 (i1.up e1.same)
theorem EnX.get_cl {M X : Op} {T0 H T : Hp} {σ : L2.St} (h : EnX K M T0 H T σ ρ X) (e : ρ[i]? = some (.cl d)) : ∃ v, σ[i]? = some (some v) ∧ Is K T d v := by
  obtain ⟨x, Ls, h1, h2, h3⟩ := h.take e
  obtain ⟨v, rfl, hc⟩ := h2.cl1
  refine ⟨v, h1, IsC.is d v Ls (hc.up h3.same) fun x hx => ?_⟩
  obtain ⟨L, r, q, f⟩ := h3.ex
  exact q.at_ x (List.mem_append_left _ (List.mem_append_left _ hx))
theorem en_cl (e : ρ[i]? = some (.cl d)) : EvN K (tVar i) ρ d := fun M T0 H T σ X Q en q => by
  obtain ⟨v, h1, h2⟩ := en.get_cl e
  exact ⟨v, h1, q v H T (Same.refl _) (Same.refl _) en h2⟩
theorem en_ow (e : ρ[i]? = some (.ow l)) : EvN K (tVar i) ρ (.lst l) := fun M T0 H T σ X Q en q => by
  obtain ⟨p, vs, h1, h2, h3, _⟩ := en.own e
  exact ⟨.ref p, h1, q _ H T (Same.refl _) (Same.refl _) en ⟨p, vs, rfl, h2, h3.up en.same⟩⟩
theorem en_op (ha : EvN K ta ρ x) (hb : EvN K tb ρ y) (hr : RvD K r x y z) : EvN K (tOp r ta tb) ρ z := fun M T0 H T σ X Q e q =>
  ha M T0 H T σ X _ e fun v H1 T1 s1 t1 e1 i1 => hb M T0 H1 T1 σ X _ e1 fun w H2 T2 s2 t2 e2 i2 => hr T2 T2 v w Q (Same.refl _) (i1.up t2) i2 fun u iu => q u H2 T2 (s1.trans s2) (t1.trans t2) e2 iu
theorem en_cb {r : List V → Hp → VK → Prop} (ha : EvNA K tr ρ ds) (hr : RcD K r ds z) : EvN K (tCB r tr) ρ z := fun M T0 H T σ X Q e q =>
  ha M T0 H T σ X _ e fun vs H1 T1 s1 t1 e1 i1 => hr T1 T1 vs Q (Same.refl _) i1 fun u iu => q u H1 T1 s1 t1 e1 iu
/-- a number, a text .. read now is one for ever -/
theorem ev_now (h : EvN K te ρ d) (hs : d.sc = true) : EvD K te ρ d := fun M T0 H T σ X Q e q => h M T0 H T σ X _ e fun v H1 T1 s1 t1 e1 i1 => q v H1 T1 s1 t1 e1 (i1.any hs)
theorem ena_nil : EvNA K tNil ρ [] := fun M T0 H T σ X Q e q => q [] H T (Same.refl _) (Same.refl _) e rfl
theorem ena_cons (ha : EvN K ta ρ x) (hr : EvNA K tr ρ ds) : EvNA K (tCons ta tr) ρ (x :: ds) := fun M T0 H T σ X Q e q =>
  ha M T0 H T σ X _ e fun v H1 T1 s1 t1 e1 i1 => hr M T0 H1 T1 σ X _ e1 fun vs H2 T2 s2 t2 e2 i2 => q (v :: vs) H2 T2 (s1.trans s2) (t1.trans t2) e2 (.cons (i1.up t2) i2)
theorem Opn.all {T : Hp} : Opn T T [] := ⟨Same.refl _, fun _ h => (nomatch h), fun _ h => (nomatch h), List.nodup_nil⟩
/-- after a call to which all was lent -/
theorem EnX.lent {M X : Op} {T0 H T T' : Hp} {σ : L2.St} (e : EnX K M T0 H T σ ρ X) (t : Same T T') : EnX K M T0 H T' σ ρ X := by
  obtain ⟨L, r, o, f⟩ := e.ex
  exact ⟨⟨L, r, ⟨o.same.trans t, o.free, fun x hx => t _ _ (o.at_ x hx), o.nd⟩, f⟩, e.t0.trans t⟩
theorem EnX.lentC {M X Lc : Op} {T0 H T T' H' : Hp} {σ : L2.St} (e : EnX K M T0 H T σ ρ X) (t : Same T T') (s : Same T H') (o' : Opn H' T' (Lc ++ [])) (f' : ∀ x ∈ Lc, T x.1 = none) : EnX K M T0 H T' σ ρ (Lc ++ X) := by
  rw [List.append_nil] at o'
  obtain ⟨L, r, o, f⟩ := e.ex
  refine ⟨⟨L, r, ⟨o.same.trans t, fun x hx => ?_, fun x hx => ?_, ?_⟩, fun x hx => ?_⟩, e.t0.trans t⟩
  · rw [List.append_assoc] at hx
    rcases List.mem_append.mp hx with hx | hx
    · exact o.same.free (f' x hx)
    · exact o.free x hx
  · rw [List.append_assoc] at hx
    rcases List.mem_append.mp hx with hx | hx
    · exact o'.at_ x hx
    · exact t _ _ (o.at_ x hx)
  · rw [List.append_assoc, List.map_append, List.nodup_append]
    refine ⟨o'.nd, o.nd, fun a ha b hb z => ?_⟩
    obtain ⟨x, hx, ex⟩ := List.mem_map.mp ha
    obtain ⟨y, hy, ey⟩ := List.mem_map.mp hb
    have h1 := f' x hx
    have h2 := o.at_ y hy
    rw [ex, z, ← ey, h2] at h1
    cases h1
  · rw [List.append_assoc] at hx
    rcases List.mem_append.mp hx with hx | hx
    · exact e.t0.free (f' x hx)
    · exact f x hx
/-- a call that may read all there is; it hands back a number, a text .. -/
theorem ev_callN (ha : EvNA K tr ρ ds) (hp : P ds (fun s => s = .im z) (fun _ => False)) (hz : z.sc = true) : EvD K (tCall (spD K P) [] E tr) ρ z := fun M T0 H T σ X Q e q =>
  ha M T0 H T σ X _ e fun vs H1 T1 s1 t1 e1 i1 => by
    show spD K P (vs ++ []) T1 Q E
    rw [List.append_nil]
    refine ⟨[], T1, ds, _, _, Opn.all, i1, hp, fun s v H' T' hs s' t' hr => ?_, fun _ _ _ _ _ _ h => h.elim⟩
    subst hs
    exact q v H1 T' s1 (t1.trans t') (e1.lent t') (hr.1.any hz)
/-- a call that may read all there is; it hands back something closed -/
theorem ec_callN (ha : EvNA K tr ρ ds) (hp : P ds (fun s => s = .cl z) (fun _ => False)) (hk : z.kf = true) : EvC K (tCall (spD K P) [] E tr) ρ z := fun M T0 H T σ X Q e q =>
  ha M T0 H T σ X _ e fun vs H1 T1 s1 t1 e1 i1 => by
    show spD K P (vs ++ []) T1 Q E
    rw [List.append_nil]
    refine ⟨[], T1, ds, _, _, Opn.all, i1, hp, fun s v H' T' hs s' t' hr => ?_, fun _ _ _ _ _ _ h => h.elim⟩
    subst hs
    obtain ⟨Lc, h1, h2, h3⟩ := hr
    exact q v Lc H1 T' s1 (t1.trans t') (e1.lentC t' s' h2 h3) (IsC.any z v Lc hk h1)
theorem ec_cbN {r : List V → Hp → VK → Prop} (ha : EvNA K tr ρ ds) (hr : RcO K r ds l) (hs : ∀ d ∈ l, d.sc = true) : EvC K (tCB r tr) ρ (.lst l) := fun M T0 H T σ X Q e q =>
  ha M T0 H T σ X _ e fun vs H1 T1 s1 t1 e1 i1 => hr T1 T1 vs Q (Same.refl _) i1 fun p us hp iu => q (.ref p) [(p, .lst us)] H1 _ s1 (t1.trans (same_new hp)) (e1.opened hp) ⟨p, us, [], rfl, rfl, IsCL.any l us [] (D.kfL_of fun d hd => D.sc_kf (hs d hd)) (iu.sc hs)⟩
end
end FS
set_option Elab.async false
set_option linter.all false
set_option maxRecDepth 100000
set_option maxHeartbeats 4000000
namespace FS
open PySem PySem.Spec PyProof.Rows L2

/-! ### statements -/
structure Pst where
  nx : Rho → Prop
  rt : Sl → Prop := fun _ => False
  bk : Rho → Prop := fun _ => False
  ct : Rho → Prop := fun _ => False
  ex : Rho → Exn → Prop := fun _ _ => False
structure Lk (K : PySem.W.Frag) (M : Op) (E : L2.WX) (T0 H : Hp) (P : Pst) (Dn : Ends) : Prop where
  nx : ∀ ρ' σ' H' T', P.nx ρ' → Same H H' → En K M T0 H' T' σ' ρ' → Dn.nx σ' T'
  rt : ∀ s v H' T', P.rt s → Same H H' → Same T0 T' → RetR K M T0 H' T' v s → Dn.rt v T'
  bk : ∀ ρ' σ' H' T', P.bk ρ' → Same H H' → En K M T0 H' T' σ' ρ' → Dn.bk σ' T'
  ct : ∀ ρ' σ' H' T', P.ct ρ' → Same H H' → En K M T0 H' T' σ' ρ' → Dn.ct σ' T'
  ex : ∀ ρ' σ' c ns es od H' T', P.ex ρ' (c, ns, es) → Same H H' → En K M T0 H' T' σ' ρ' → IsX K H' od ns es → E c od σ' T'
/-- from ρ on, the code ends as P says -/
def Ws (K : PySem.W.Frag) (E : L2.WX) (ts : TS) (ρ : Rho) (P : Pst) : Prop := ∀ (M : Op) (T0 H T : Hp) (σ : L2.St) (Dn : Ends), En K M T0 H T σ ρ → Lk K M E T0 H P Dn → ts Dn σ T

section
variable {K : PySem.W.Frag} {E : L2.WX} {ρ : Rho} {P : Pst} {M X : Op} {T0 H H' T T' : Hp} {σ : L2.St} {Dn : Ends} {te ta tb : TE} {t u : TS} {tt : TT} {d x y : D} {l : List D} {ds : List D} {tr : TA} {g : TG} {i : Nat}
theorem Lk.up (k : Lk K M E T0 H P Dn) (s : Same H H') : Lk K M E T0 H' P Dn :=
  ⟨fun ρ' σ' H2 T' p s' e => k.nx ρ' σ' H2 T' p (s.trans s') e, fun v w H2 T' p s' t' e => k.rt v w H2 T' p (s.trans s') t' e, fun ρ' σ' H2 T' p s' e => k.bk ρ' σ' H2 T' p (s.trans s') e, fun ρ' σ' H2 T' p s' e => k.ct ρ' σ' H2 T' p (s.trans s') e,
    fun ρ' σ' c ns es od H2 T' p s' e => k.ex ρ' σ' c ns es od H2 T' p (s.trans s') e⟩
theorem ws_seq (h : Ws K E t ρ { P with nx := fun ρ' => Ws K E u ρ' P }) : Ws K E (tSeq t u) ρ P := fun M T0 H T σ Dn e k =>
  h M T0 H T σ { Dn with nx := u Dn } e ⟨fun ρ' σ' H' T' p s e' => p M T0 H' T' σ' Dn e' (k.up s), k.rt, k.bk, k.ct, k.ex⟩
theorem ws_mono {P' : Pst} (h : Ws K E t ρ P) (h1 : ∀ ρ', P.nx ρ' → P'.nx ρ') (h2 : ∀ s, P.rt s → P'.rt s) (h3 : ∀ ρ', P.bk ρ' → P'.bk ρ') (h4 : ∀ ρ', P.ct ρ' → P'.ct ρ') (h5 : ∀ ρ' z, P.ex ρ' z → P'.ex ρ' z) : Ws K E t ρ P' := fun M T0 H T σ Dn e k =>
  h M T0 H T σ Dn e ⟨fun ρ' σ' H' T' p => k.nx ρ' σ' H' T' (h1 ρ' p), fun s v H' T' p => k.rt s v H' T' (h2 s p), fun ρ' σ' H' T' p => k.bk ρ' σ' H' T' (h3 ρ' p), fun ρ' σ' H' T' p => k.ct ρ' σ' H' T' (h4 ρ' p), fun ρ' σ' c ns es od H' T' p => k.ex ρ' σ' c ns es od H' T' (h5 _ _ p)⟩
theorem ws_next (h : P.nx ρ) : Ws K E tNext ρ P := fun M T0 H T σ Dn e k => k.nx ρ σ H T h (Same.refl _) e
theorem ws_break (h : P.bk ρ) : Ws K E tBreak ρ P := fun M T0 H T σ Dn e k => k.bk ρ σ H T h (Same.refl _) e
theorem ws_cont (h : P.ct ρ) : Ws K E tCont ρ P := fun M T0 H T σ Dn e k => k.ct ρ σ H T h (Same.refl _) e
theorem ws_asg (hv : EvD K te ρ d) (h : P.nx (ρ.set i (.im d))) : Ws K E (tAsg te (gName i)) ρ P := fun M T0 H T σ Dn e k =>
  hv M T0 H T σ [] _ e fun v H' T' s t' e' iv => k.nx _ _ H' T' h s (e'.set iv)
theorem ws_asgO (hv : EvO K te ρ l) (hi : i < ρ.length) (h : P.nx (ρ.set i (.ow l))) : Ws K E (tAsg te (gName i)) ρ P := fun M T0 H T σ Dn e k =>
  hv M T0 H T σ [] _ e fun p vs H' T' s t' e' iv => k.nx _ _ H' T' h s (EnX.setO e' hi iv)
theorem ws_asgC (hv : EvC K te ρ d) (hi : i < ρ.length) (h : P.nx (ρ.set i (.cl d))) : Ws K E (tAsg te (gName i)) ρ P := fun M T0 H T σ Dn e k =>
  hv M T0 H T σ [] _ e fun v Lc H' T' s t' e' iv => k.nx _ _ H' T' h s (EnX.setC e' hi iv)
theorem ws_drop (hv : EvD K te ρ d) (h : P.nx ρ) : Ws K E (tDrop te) ρ P := fun M T0 H T σ Dn e k =>
  hv M T0 H T σ [] _ e fun v H' T' s t' e' iv => k.nx _ _ H' T' h s e'
theorem ws_ret (hv : EvD K te ρ d) (h : P.rt (.im d)) : Ws K E (tRet te) ρ P := fun M T0 H T σ Dn e k =>
  hv M T0 H T σ [] _ e fun v H' T' s t' e' iv => k.rt (.im d) v H' T' h s e'.t0 ⟨iv, e'.frame⟩
theorem EnX.give (e : EnX K M T0 H T σ ρ (X ++ [])) : Opn H T (X ++ M) ∧ ∀ x ∈ X, T0 x.1 = none := by
  rw [List.append_nil] at e
  obtain ⟨L, r, q, f⟩ := e.ex
  exact ⟨q.sub ((List.Sublist.refl X).append (List.sublist_append_right L M)), fun x hx => f x (List.mem_append_left _ hx)⟩
theorem ws_retO (hv : EvO K te ρ l) (h : P.rt (.ow l)) : Ws K E (tRet te) ρ P := fun M T0 H T σ Dn e k =>
  hv M T0 H T σ [] _ e fun p vs H' T' s t' e' iv => k.rt (.ow l) (.ref p) H' T' h s e'.t0 ⟨p, vs, rfl, iv, (EnX.give (X := [(p, .lst vs)]) e').1, (EnX.give (X := [(p, .lst vs)]) e').2 _ List.mem_cons_self⟩
theorem ws_retC (hv : EvC K te ρ d) (h : P.rt (.cl d)) : Ws K E (tRet te) ρ P := fun M T0 H T σ Dn e k =>
  hv M T0 H T σ [] _ e fun v Lc H' T' s t' e' iv => k.rt (.cl d) v H' T' h s e'.t0 ⟨Lc, iv, (EnX.give e').1, (EnX.give e').2⟩
/-- return x, x an open list, a closed tree -/
theorem ws_retV (e : ρ[i]? = some (.ow l)) (h : P.rt (.ow l)) : Ws K E (tRet (tVar i)) ρ P := fun M T0 H T σ Dn en k => by
  obtain ⟨p, vs, h1, h2, h4, h5, h6, h7⟩ := en.own e
  exact ⟨.ref p, h1, k.rt (.ow l) (.ref p) H T h (Same.refl _) en.t0 ⟨p, vs, rfl, h4, (EnX.give (X := [(p, .lst vs)]) h7).1, (EnX.give (X := [(p, .lst vs)]) h7).2 _ List.mem_cons_self⟩⟩
theorem ws_retVc (e : ρ[i]? = some (.cl d)) (h : P.rt (.cl d)) : Ws K E (tRet (tVar i)) ρ P := fun M T0 H T σ Dn en k => by
  obtain ⟨x, Ls, h1, h2, h3⟩ := en.take e
  obtain ⟨v, rfl, hc⟩ := h2.cl1
  exact ⟨v, h1, k.rt (.cl d) v H T h (Same.refl _) en.t0 ⟨Ls, hc, (EnX.give h3).1, (EnX.give h3).2⟩⟩
theorem ws_retN (h : P.rt (.im .non)) : Ws K E tRetN ρ P := fun M T0 H T σ Dn e k => k.rt (.im .non) .non H T h (Same.refl _) e.t0 ⟨rfl, e.frame⟩
theorem ws_if {b : Bool} (hc : EvT K tt ρ b) (h1 : b = true → Ws K E t ρ P) (h2 : b = false → Ws K E u ρ P) : Ws K E (tIfS tt t u) ρ P := fun M T0 H T σ Dn e k =>
  hc M T0 H T σ [] _ e fun H' T' s t' e' => by
    cases b with
    | true =>
      show t Dn σ T'
      exact h1 rfl M T0 H' T' σ Dn e' (k.up s)
    | false =>
      show u Dn σ T'
      exact h2 rfl M T0 H' T' σ Dn e' (k.up s)
/-- the open list at slot i is known from now on -/
theorem ws_fz (e : ρ[i]? = some (.ow l)) (h : Ws K E t (ρ.set i (.im (.lst l))) P) : Ws K E t ρ P := fun M T0 H T σ Dn en k => by
  obtain ⟨p, vs, h1, h2, h4, h5, ⟨s, h6⟩, h7⟩ := en.own e
  exact h M T0 _ T σ Dn h6 (k.up s)
theorem ws_fzC (e : ρ[i]? = some (.cl d)) (h : Ws K E t (ρ.set i (.im d)) P) : Ws K E t ρ P := fun M T0 H T σ Dn en k => by
  obtain ⟨x, Ls, h1, h2, h3⟩ := en.take e
  obtain ⟨v, rfl, hc⟩ := h2.cl1
  obtain ⟨H2, s2, e2, h4⟩ := h3.closeAll
  have e3 := e2.set (i := i) (IsC.is (K := K) d v Ls (hc.up s2) h4)
  rw [set_self h1, List.set_set] at e3
  exact h M T0 H2 T σ Dn e3 (k.up s2)
/-- an open list of numbers is a closed tree -/
theorem ws_owcl (e : ρ[i]? = some (.ow l)) (hs : ∀ d ∈ l, d.sc = true) (h : Ws K E t (ρ.set i (.cl (.lst l))) P) : Ws K E t ρ P := fun M T0 H T σ Dn en k => by
  obtain ⟨x, Ls, h1, h2, h3⟩ := en.take e
  obtain ⟨p, vs, rfl, rfl, hl⟩ := h2.ow1
  have hi : i < (ρ.set i .no).length := by rw [List.length_set]; exact (List.getElem?_eq_some_iff.mp e).1
  have e3 := EnX.setC (Lc := [(p, .lst vs)]) (d := .lst l) (v := .ref p) h3 hi ⟨p, vs, [], rfl, rfl, hl.sc hs⟩
  rw [set_self h1, List.set_set] at e3
  exact h M T0 H T σ Dn e3 k
/-- a slot forgotten -/
theorem ws_forget (hi : i < ρ.length) (h : Ws K E t (ρ.set i .no) P) : Ws K E t ρ P := fun M T0 H T σ Dn en k => by
  obtain ⟨x, hx⟩ := get_some (l := σ) (i := i) (by rw [en.len]; exact hi)
  have e2 := en.drop (i := i) (x := x)
  rw [set_self hx] at e2
  exact h M T0 H T σ Dn e2 k
/-- xs.append(e), xs an open list -/
theorem ws_app (e : ρ[i]? = some (.ow l)) (hv : EvD K te ρ d) (hz : l.length < 100000) (h : P.nx (ρ.set i (.ow (l ++ [d])))) : Ws K E (tDrop (tBM K "list" rAppend (tVar i) (tCons te tNil))) ρ P := fun M T0 H T σ Dn en k => by
  obtain ⟨p, vs, h1, h2, h4, _⟩ := en.own e
  refine ⟨.ref p, h1, .inl ⟨rfl, vs, .inl (.inl h2)⟩, hv M T0 H T σ [] _ en fun v H' T' s t' e' iv => ?_⟩
  obtain ⟨p', vs', g1, g2, g4, g5, _⟩ := e'.own e
  rw [h1] at g1
  cases g1
  exact ⟨p, vs', v, rfl, rfl, g2, by rw [g4.len]; exact Nat.lt_of_lt_of_le hz (by decide), k.nx _ _ _ _ h s (g5 _ _ (g4.app (.one iv)))⟩
/-- xs[j] = e, xs an open list -/
theorem ws_setL {j : Nat} {z : Int} (e : ρ[i]? = some (.ow l)) (hv : EvD K te ρ d) (hi : EvD K tb ρ (.int z)) (hj : ixN l.length z = some j) (h : P.nx (ρ.set i (.ow (l.set j d)))) : Ws K E (tAsg te (gSub (tVar i) tb rSetL)) ρ P := fun M T0 H T σ Dn en k =>
  hv M T0 H T σ [] _ en fun v H1 T1 s1 t1 e1 i1 => by
    obtain ⟨p, vs, h1, h2, h4, _⟩ := e1.own e
    refine ⟨.ref p, h1, hi M T0 H1 T1 σ [] _ e1 fun w H2 T2 s2 t2 e2 i2 => ?_⟩
    obtain ⟨p', vs', g1, g2, g4, g5, _⟩ := e2.own e
    rw [h1] at g1
    cases g1
    exact ⟨p, vs', z, j, rfl, i2, g2, by rw [g4.len]; exact hj, k.nx _ _ _ _ h (s1.trans s2) (g5 _ _ (IsL.set (i1.up s2) j g4))⟩
/-- name op= e -/
theorem ws_aug {r : R2} {z : D} (e : ρ[i]? = some (.im x)) (hv : EvD K te ρ y) (hr : RvD K r x y z) (h : P.nx (ρ.set i (.im z))) : Ws K E (tAug i te r) ρ P := fun M T0 H T σ Dn en k => by
  obtain ⟨v, h1, h2⟩ := en.get e
  refine ⟨v, h1, hv M T0 H T σ [] _ en fun w H1 T1 s1 t1 e1 i1 => hr H1 T1 v w _ e1.same (h2.up s1) i1 fun u iu => k.nx _ _ H1 T1 h s1 (e1.set iu)⟩
/-! raising calls -/
def okSl (P : Rho → Prop) (ρ : Rho) (i : Nat) : Sl → Prop
  | .no => False
  | s => P (ρ.set i s)
theorem ws_asgX {Pr : PrD} (ha : EvA K tr ρ ds) (hi : i < ρ.length) (h : Pr ds (okSl P.nx ρ i) (P.ex ρ)) : Ws K E (tAsg (tCallS (spD K Pr) (WE E) tr) (gName i)) ρ P := fun M T0 H T σ Dn en k =>
  ha M T0 H T σ [] _ en fun vs H1 T1 s1 t1 e1 i1 => by
    obtain ⟨L, r, o, f⟩ := e1.ex
    refine ⟨L ++ M, H1, ds, _, _, o, i1, h, fun s v H' T' hs s' t' hr => ?_, fun c ns es od H' T' hz s' t' o' hx => k.ex ρ σ c ns es od H' T' hz (s1.trans s') ⟨⟨L, r.up s', o', f⟩, e1.t0.trans t'⟩ hx⟩
    cases s with
    | no => exact hs.elim
    | im d =>
      obtain ⟨e2, iz⟩ := e1.ret_im (X := []) r f s' t' hr
      exact k.nx _ _ H' T' hs (s1.trans s') (e2.set iz)
    | ow l =>
      obtain ⟨p, us, rfl, e2, iz⟩ := e1.ret_ow (X := []) r f s' t' hr
      exact k.nx _ _ H' T' hs (s1.trans s') (e2.setO hi iz)
    | cl d =>
      obtain ⟨Lc, e2, iz⟩ := e1.ret_cl (X := []) r f s' t' hr
      exact k.nx _ _ H' T' hs (s1.trans s') (e2.setC hi iz)
theorem ws_dropX {Pr : PrD} (ha : EvA K tr ρ ds) (h : Pr ds (fun s => s ≠ .no → P.nx ρ) (P.ex ρ)) : Ws K E (tDrop (tCallS (spD K Pr) (WE E) tr)) ρ P := fun M T0 H T σ Dn en k =>
  ha M T0 H T σ [] _ en fun vs H1 T1 s1 t1 e1 i1 => by
    obtain ⟨L, r, o, f⟩ := e1.ex
    refine ⟨L ++ M, H1, ds, _, _, o, i1, h, fun s v H' T' hs s' t' hr => ?_, fun c ns es od H' T' hz s' t' o' hx => k.ex ρ σ c ns es od H' T' hz (s1.trans s') ⟨⟨L, r.up s', o', f⟩, e1.t0.trans t'⟩ hx⟩
    cases s with
    | no => exact hr.elim
    | im d =>
      obtain ⟨e2, iz⟩ := e1.ret_im (X := []) r f s' t' hr
      exact k.nx _ _ H' T' (hs (fun z => by cases z)) (s1.trans s') e2
    | ow l =>
      obtain ⟨p, us, rfl, e2, iz⟩ := e1.ret_ow (X := []) r f s' t' hr
      exact k.nx _ _ H' T' (hs (fun z => by cases z)) (s1.trans s') (e2.sub (List.nil_sublist _))
    | cl d =>
      obtain ⟨Lc, e2, iz⟩ := e1.ret_cl (X := []) r f s' t' hr
      exact k.nx _ _ H' T' (hs (fun z => by cases z)) (s1.trans s') (e2.sub (List.nil_sublist _))
theorem ws_retX {Pr : PrD} (ha : EvA K tr ρ ds) (h : Pr ds P.rt (P.ex ρ)) : Ws K E (tRet (tCallS (spD K Pr) (WE E) tr)) ρ P := fun M T0 H T σ Dn en k =>
  ha M T0 H T σ [] _ en fun vs H1 T1 s1 t1 e1 i1 => by
    obtain ⟨L, r, o, f⟩ := e1.ex
    refine ⟨L ++ M, H1, ds, _, _, o, i1, h, fun s v H' T' hs s' t' hr => ?_, fun c ns es od H' T' hz s' t' o' hx => k.ex ρ σ c ns es od H' T' hz (s1.trans s') ⟨⟨L, r.up s', o', f⟩, e1.t0.trans t'⟩ hx⟩
    refine k.rt s v H' T' hs (s1.trans s') (e1.t0.trans t') ?_
    cases s with
    | no => exact hr
    | im d => exact ⟨hr.1, hr.2.sub (List.sublist_append_right _ _)⟩
    | ow l =>
      obtain ⟨p, us, rfl, h1, h2, h3⟩ := hr
      exact ⟨p, us, rfl, h1, h2.sub ((List.sublist_append_right _ _).cons_cons _), e1.t0.free h3⟩
    | cl d =>
      obtain ⟨Lc, h1, h2, h3⟩ := hr
      exact ⟨Lc, h1, h2.sub ((List.Sublist.refl Lc).append (List.sublist_append_right _ _)), fun x hx => e1.t0.free (h3 x hx)⟩
/-! what raises -/
theorem ws_asgZ {z : Exn} (h : EvZ K E te ρ z) (hz : P.ex ρ z) : Ws K E (tAsg te g) ρ P := fun M T0 H T σ Dn en k =>
  h M T0 H T σ [] _ en fun od H' T' s' t' e' hx => k.ex ρ σ z.1 z.2.1 z.2.2 od H' T' hz s' e' hx
theorem ws_dropZ {z : Exn} (h : EvZ K E te ρ z) (hz : P.ex ρ z) : Ws K E (tDrop te) ρ P := fun M T0 H T σ Dn en k =>
  h M T0 H T σ [] _ en fun od H' T' s' t' e' hx => k.ex ρ σ z.1 z.2.1 z.2.2 od H' T' hz s' e' hx
theorem ws_retZ {z : Exn} (h : EvZ K E te ρ z) (hz : P.ex ρ z) : Ws K E (tRet te) ρ P := fun M T0 H T σ Dn en k =>
  h M T0 H T σ [] _ en fun od H' T' s' t' e' hx => k.ex ρ σ z.1 z.2.1 z.2.2 od H' T' hz s' e' hx
/-- raise X('m') -/
abbrev tRaise0 (W : L2.WX) (c : Value) : TS := fun _ σ H => W c none σ H
theorem ws_raise0 {c : Value} (hz : P.ex ρ (c, [], [])) : Ws K E (tRaise0 E c) ρ P := fun M T0 H T σ Dn en k =>
  k.ex ρ σ c [] [] none H T hz (Same.refl _) en (.inl ⟨rfl, rfl⟩)
/-- try: .. except x as n: .. -/
theorem ws_try {tb : L2.WX → TS} {ts : Addr → Value → Option Addr → TS} {c : Value} {Pc : Rho → Exn → Prop} (hb : ∀ W, Ws K W (tb W) ρ { P with ex := Pc })
    (hc : ∀ ρ' z, Pc ρ' z → ∃ b, PySem.W.exmOne K z.1 c = some b ∧
      (b = true → ∀ a od, Ws K E (ts a z.1 od) (ρ'.set i (.im (.exc a od z.2.1 z.2.2))) { nx := fun ρ2 => P.nx (ρ2.set i .no), rt := P.rt, bk := fun ρ2 => P.bk (ρ2.set i .no), ct := fun ρ2 => P.ct (ρ2.set i .no) }) ∧ (b = false → P.ex ρ' z)) :
    Ws K E (fun Dn σ H => tb (wAs K c i ts E Dn) Dn σ H) ρ P := fun M T0 H T σ Dn en k =>
  hb _ M T0 H T σ Dn en ⟨k.nx, k.rt, k.bk, k.ct, fun ρ' σ' cl ns es od H' T' hz s' e' hx => by
    obtain ⟨b, h1, h2, h3⟩ := hc ρ' (cl, ns, es) hz
    refine ⟨b, h1, fun hbt a ha => ?_, fun hbf => k.ex ρ' σ' cl ns es od H' T' (h3 hbf) s' e' hx⟩
    have e2 := EnX.set (i := i) (d := .exc a od ns es) (v := .ref a) e' ⟨rfl, hx⟩
    refine h2 hbt a od M T0 H' T' _ _ e2 ⟨fun ρ2 σ2 H2 T2 p s2 en2 => k.nx _ _ H2 T2 p (s'.trans s2) en2.drop, fun s v H2 T2 p s2 => k.rt s v H2 T2 p (s'.trans s2), fun ρ2 σ2 H2 T2 p s2 en2 => k.bk _ _ H2 T2 p (s'.trans s2) en2.drop, fun ρ2 σ2 H2 T2 p s2 en2 => k.ct _ _ H2 T2 p (s'.trans s2) en2.drop, fun _ _ _ _ _ _ _ _ hz => hz.elim⟩⟩
/-- what is never reached -/
abbrev tNo : TS := fun _ _ _ => False
end

/-! ### what is walked -/
def Grow (H T H' T' : Hp) : Prop := (H' = H ∧ T' = T) ∨ ∃ a o, T a = none ∧ T' = upd T a o ∧ H' = upd H a o
def JD (K : PySem.W.Frag) (H1 : Hp) (J : It) (l : List D) : Prop := ∀ (i : Nat) (H T : Hp), Same H1 H → Same H T →
  (∀ d, l[i]? = some d → J.go i T ∧ ∀ x T', J.yld i T x T' → ∃ H', Grow H T H' T' ∧ Is K H' d x) ∧ (l.length ≤ i → J.stop i T)
def SrcD (K : PySem.W.Frag) (wi : TI) (ρ : Rho) (l : List D) : Prop := ∀ (M : Op) (T0 H T : Hp) (σ : L2.St) (X : Op) (R : It → Hp → Prop), EnX K M T0 H T σ ρ X → (∀ J H' T', Same H H' → Same T T' → EnX K M T0 H' T' σ ρ X → JD K H' J l → R J T') → wi σ T R
section
variable {K : PySem.W.Frag} {E : L2.WX} {ρ : Rho} {P : Pst} {M X : Op} {T0 H H' T T' : Hp} {σ : L2.St} {Dn : Ends} {te tl : TE} {t u tb : TS} {tt : TT} {d x y : D} {l : List D} {ds : List D} {ta : TA} {g : TG} {i : Nat} {wi : TI}
theorem EnX.grow (h : EnX K M T0 H T σ ρ X) (gr : Grow H T H' T') : Same H H' ∧ Same T T' ∧ EnX K M T0 H' T' σ ρ X := by
  rcases gr with ⟨rfl, rfl⟩ | ⟨a, o, ha, rfl, rfl⟩
  · exact ⟨Same.refl _, Same.refl _, h⟩
  · exact ⟨(h.new ha).1, same_new ha, (h.new ha).2⟩
theorem src_list (h : EvD K tl ρ (.lst l)) : SrcD K (iList K tl) ρ l := fun M T0 H T σ X R e q =>
  h M T0 H T σ X _ e fun v H1 T1 s1 t1 e1 ⟨a, vs, ev, h1, h2⟩ => by
    subst ev
    refine ⟨a, rfl, ⟨vs, .inl (.inl (e1.same _ _ h1))⟩, q _ H1 T1 s1 t1 e1 fun i H2 T2 sa sb => ⟨fun d hd => ?_, fun hl => ⟨vs, .inl (.inl (sb _ _ (sa _ _ h1))), by rw [h2.len]; exact hl⟩⟩⟩
    obtain ⟨v, g1, g2⟩ := h2.get hd
    have hq : SqL K T2 a vs := .inl (.inl (sb _ _ (sa _ _ h1)))
    refine ⟨⟨vs, v, hq, g1⟩, fun x T' ⟨e1, e2⟩ => ⟨H2, .inl ⟨rfl, e1⟩, ?_⟩⟩
    have := e2 vs hq
    rw [g1] at this
    cases this
    exact g2.up sa
theorem src_tup (h : EvD K tl ρ (.tup l)) : SrcD K (iTup K tl) ρ l := fun M T0 H T σ X R e q =>
  h M T0 H T σ X _ e fun v H1 T1 s1 t1 e1 ⟨a, vs, ev, h1, h2⟩ => by
    subst ev
    refine ⟨a, rfl, ⟨vs, same_t e1.same h1⟩, q _ H1 T1 s1 t1 e1 fun i H2 T2 sa sb => ⟨fun d hd => ?_, fun hl => ⟨vs, same_t (sa.trans sb) h1, by rw [h2.len]; exact hl⟩⟩⟩
    obtain ⟨v, g1, g2⟩ := h2.get hd
    have hq : SqT K T2 a vs := same_t (sa.trans sb) h1
    refine ⟨⟨vs, v, hq, g1⟩, fun x T' ⟨e1, e2⟩ => ⟨H2, .inl ⟨rfl, e1⟩, ?_⟩⟩
    have := e2 vs hq
    rw [g1] at this
    cases this
    exact g2.up sa
theorem src_scr {ns : List Int} (h : EvD K tl ρ (.scr ns)) : SrcD K (iList K tl) ρ (ns.map .int) := fun M T0 H T σ X R e q =>
  h M T0 H T σ X _ e fun v H1 T1 s1 t1 e1 ⟨a, ev, h1⟩ => by
    subst ev
    refine ⟨a, rfl, ⟨_, e1.same.seq h1⟩, q _ H1 T1 s1 t1 e1 fun i H2 T2 sa sb => ⟨fun d hd => ?_, fun hl => ⟨_, (sa.trans sb).seq h1, by rw [List.length_map] at hl ⊢; exact hl⟩⟩⟩
    have hq : SqL K T2 a (ns.map V.int) := (sa.trans sb).seq h1
    rw [List.getElem?_map] at hd
    cases hn : ns[i]? with
    | none => rw [hn] at hd; cases hd
    | some n =>
      rw [hn] at hd
      cases hd
      refine ⟨⟨_, .int n, hq, by rw [List.getElem?_map, hn]; rfl⟩, fun x T' ⟨e1, e2⟩ => ⟨H2, .inl ⟨rfl, e1⟩, ?_⟩⟩
      have := e2 _ hq
      rw [List.getElem?_map, hn] at this
      cases this
      exact rfl
/-- lo, lo + 1, .. -/
def rng (lo : Int) (n : Nat) : List D := (List.range n).map fun (k : Nat) => D.int (lo + (k : Int))
theorem rng_len {lo : Int} {n : Nat} : (rng lo n).length = n := by simp [rng]
theorem rng_get {lo : Int} {n i : Nat} {d : D} (h : (rng lo n)[i]? = some d) : i < n ∧ d = .int (lo + (i : Int)) := by
  unfold rng at h
  rw [List.getElem?_map] at h
  by_cases hi : i < n
  · rw [List.getElem?_range hi] at h
    cases h
    exact ⟨hi, rfl⟩
  · rw [List.getElem?_eq_none (by simpa using hi)] at h
    cases h
theorem jd_rng {lo : Int} {n : Nat} : JD K H (Itr lo n) (rng lo n) := fun i H2 T2 sa sb =>
  ⟨fun d hd => ⟨(rng_get hd).1, fun x T' ⟨e1, e2⟩ => ⟨H2, .inl ⟨rfl, e1⟩, by rw [(rng_get hd).2, e2]; exact rfl⟩⟩, fun hl => by rw [rng_len] at hl; exact hl⟩
theorem src_rng1 {n : Int} (h : EvA K ta ρ [.int n]) (hn : -1000000 ≤ n ∧ n ≤ 1000000) : SrcD K (iRng1 ta) ρ (rng 0 n.toNat) := fun M T0 H T σ X R e q =>
  h M T0 H T σ X _ e fun vs H1 T1 s1 t1 e1 hv => by
    obtain ⟨v, rfl, hu⟩ := isL_one hv
    exact ⟨n, by rw [show v = V.int n from hu], by omega, by omega, q _ H1 T1 s1 t1 e1 jd_rng⟩
theorem src_rng2 {lo n : Int} (h : EvA K ta ρ [.int lo, .int n]) (hn : -1000000 ≤ lo ∧ lo ≤ 1000000 ∧ -1000000 ≤ n ∧ n ≤ 1000000) : SrcD K (iRng2 ta) ρ (rng lo (n - lo).toNat) := fun M T0 H T σ X R e q =>
  h M T0 H T σ X _ e fun vs H1 T1 s1 t1 e1 hv => by
    obtain ⟨v, w, rfl, hu, hw⟩ := isL_two hv
    exact ⟨lo, n, by rw [show v = V.int lo from hu, show w = V.int n from hw], ⟨by omega, by omega, by omega, by omega⟩, q _ H1 T1 s1 t1 e1 jd_rng⟩

/-! ### targets -/
def setD (ρ : Rho) : List (Nat × D) → Rho
  | [] => ρ
  | (i, d) :: r => setD (ρ.set i (.im d)) r
def setV (σ : L2.St) : List (Nat × D) → List V → L2.St
  | (i, _) :: r, v :: vs => setV (σ.set i (some v)) r vs
  | _, _ => σ
theorem EnX.setAll : ∀ {as : List (Nat × D)} {vs : List V} {σ : L2.St} {ρ : Rho}, EnX K M T0 H T σ ρ X → IsL K H (as.map (·.2)) vs → EnX K M T0 H T (setV σ as vs) (setD ρ as) X
  | [], vs, σ, ρ, h, _ => by
    cases vs <;> exact h
  | (i, d) :: r, _, σ, ρ, h, ⟨v, vs, e, h1, h2⟩ => by
    rw [e]
    exact EnX.setAll (as := r) (h.set h1) h2
/-- the target takes d apart into these slots -/
def GDs (K : PySem.W.Frag) (g : TG) (d : D) (as : List (Nat × D)) : Prop := ∀ (H T : Hp) (σ : L2.St) (v : V) (Q : L2.St → Hp → Prop), Same H T → Is K H d v → (∀ vs, IsL K H (as.map (·.2)) vs → Q (setV σ as vs) T) → g v σ T Q
theorem gd_name {j : Nat} : GDs K (gName j) d [(j, d)] := fun H T σ v Q s h q => q [v] (.one h)
def GTs (K : PySem.W.Frag) (g : TGs) (ds : List D) (as : List (Nat × D)) : Prop := ∀ (H T : Hp) (σ : L2.St) (vs : List V) (Q : L2.St → Hp → Prop), Same H T → IsL K H ds vs → (∀ us, IsL K H (as.map (·.2)) us → Q (setV σ as us) T) → g vs σ T Q
theorem gt_nil : GTs K gNil [] [] := fun H T σ vs Q s h q => ⟨h, q [] rfl⟩
theorem setV_app : ∀ (as bs : List (Nat × D)) (us ws : List V) (σ : L2.St), us.length = as.length → setV (setV σ as us) bs ws = setV σ (as ++ bs) (us ++ ws)
  | [], bs, [], ws, σ, _ => rfl
  | (i, d) :: r, bs, u :: us, ws, σ, h => setV_app r bs us ws (σ.set i (some u)) (by simpa using h)
  | [], _, _ :: _, _, _, h => by simp at h
  | _ :: _, _, [], _, _, h => by simp at h
theorem gt_cons {g1 : TG} {gr : TGs} {as bs : List (Nat × D)} (h1 : GDs K g1 d as) (h2 : GTs K gr ds bs) : GTs K (gCons g1 gr) (d :: ds) (as ++ bs) := fun H T σ vs Q s ⟨v, r, e, i1, i2⟩ q => by
  refine ⟨v, r, e, h1 H T σ v _ s i1 fun us hu => h2 H T _ r _ s i2 fun ws hw => ?_⟩
  rw [setV_app as bs us ws σ (by rw [hu.len, List.length_map])]
  exact q (us ++ ws) (by rw [List.map_append]; exact hu.app hw)
theorem gd_tup {gr : TGs} {n : Nat} {as : List (Nat × D)} (h : GTs K gr ds as) (hn : ds.length = n) : GDs K (gTup K n gr) (.tup ds) as := fun H T σ v Q s ⟨a, vs, e, h1, h2⟩ q =>
  ⟨a, vs, e, same_t s h1, by rw [h2.len]; exact hn, h H T σ vs Q s h2 q⟩
theorem gd_tup2 {i j : Nat} {d1 d2 : D} : GDs K (gTup K 2 (gCons (gName i) (gCons (gName j) gNil))) (.tup [d1, d2]) [(i, d1), (j, d2)] := gd_tup (gt_cons gd_name (gt_cons gd_name gt_nil)) rfl
theorem gd_tup3 {i j k : Nat} {d1 d2 d3 : D} : GDs K (gTup K 3 (gCons (gName i) (gCons (gName j) (gCons (gName k) gNil)))) (.tup [d1, d2, d3]) [(i, d1), (j, d2), (k, d3)] := gd_tup (gt_cons gd_name (gt_cons gd_name (gt_cons gd_name gt_nil))) rfl
theorem ws_asgG {as : List (Nat × D)} (hv : EvD K te ρ d) (hg : GDs K g d as) (h : P.nx (setD ρ as)) : Ws K E (tAsg te g) ρ P := fun M T0 H T σ Dn e k =>
  hv M T0 H T σ [] _ e fun v H' T' s t' e' iv => hg H' T' σ v _ e'.same iv fun us hu => k.nx _ _ H' T' h s (e'.setAll hu)

/-! ### for -/
theorem ws_for (hs : SrcD K wi ρ l) (Iv : Nat → Rho → Prop) (h0 : Iv 0 ρ)
    (hb : ∀ i d ρ', l[i]? = some d → Iv i ρ' → ∃ as, GDs K g d as ∧ Ws K E tb (setD ρ' as) { P with nx := Iv (i + 1), ct := Iv (i + 1), bk := P.nx })
    (hd : ∀ ρ', Iv l.length ρ' → P.nx ρ') : Ws K E (tFor wi g tb) ρ P := fun M T0 H T σ Dn e k =>
  hs M T0 H T σ [] _ e fun J H1 T1 s1 t1 e1 hj => by
    refine ⟨fun i m σ' T' => m + i = l.length ∧ ∃ H' ρ', Same H1 H' ∧ En K M T0 H' T' σ' ρ' ∧ Iv i ρ', ⟨l.length, by omega, H1, ρ, Same.refl _, e1, h0⟩, ?_⟩
    rintro i m σ' T' ⟨hm, H', ρ', s', e', iv⟩
    obtain ⟨hgo, hstop⟩ := hj i H' T' s' e'.same
    by_cases hi : i < l.length
    · obtain ⟨d, hd1⟩ := get_some hi
      obtain ⟨g1, g2⟩ := hgo d hd1
      refine .inr ⟨g1, fun σ2 T2 => ∃ H2 ρ2, Same H1 H2 ∧ En K M T0 H2 T2 σ2 ρ2 ∧ Iv (i + 1) ρ2, fun σ2 T2 ⟨H2, ρ2, a, b, c⟩ => ⟨m - 1, by omega, by omega, H2, ρ2, a, b, c⟩, fun x T2 hy => ?_⟩
      obtain ⟨H2, gr, ix⟩ := g2 x T2 hy
      obtain ⟨s2, tg, e2⟩ := e'.grow gr
      obtain ⟨as, ga, hw⟩ := hb i d ρ' hd1 iv
      refine ga H2 T2 σ' x _ e2.same ix fun us hu => hw M T0 H2 T2 _ _ (e2.setAll hu) ?_
      have kk := k.up (s1.trans (s'.trans s2))
      exact ⟨fun ρ3 σ3 H3 T3 p s3 e3 => ⟨H3, ρ3, s'.trans (s2.trans s3), e3, p⟩, kk.rt, fun ρ3 σ3 H3 T3 p s3 e3 => kk.nx _ _ _ _ p s3 e3, fun ρ3 σ3 H3 T3 p s3 e3 => ⟨H3, ρ3, s'.trans (s2.trans s3), e3, p⟩, kk.ex⟩
    · have ei : i = l.length := by omega
      subst ei
      exact .inl ⟨hstop (Nat.le_refl _), k.nx _ _ _ _ (hd ρ' iv) (s1.trans s') e'⟩
/-- while, by an invariant with a measure -/
theorem ws_while (Iv : Nat → Rho → Prop) (m0 : Nat) (h0 : Iv m0 ρ)
    (hb : ∀ m ρ', Iv m ρ' → ∃ b, EvT K tt ρ' b ∧ (b = true → Ws K E tb ρ' { P with nx := fun ρ2 => ∃ m', m' < m ∧ Iv m' ρ2, ct := fun ρ2 => ∃ m', m' < m ∧ Iv m' ρ2, bk := P.nx }) ∧ (b = false → P.nx ρ')) : Ws K E (tWhile tt tb) ρ P := fun M T0 H T σ Dn e k => by
  refine ⟨fun m σ' T' => ∃ H' ρ', Same H H' ∧ En K M T0 H' T' σ' ρ' ∧ Iv m ρ', ⟨m0, H, ρ, Same.refl _, e, h0⟩, ?_⟩
  rintro m σ' T' ⟨H', ρ', s', e', iv⟩
  obtain ⟨b, hc, h1, h2⟩ := hb m ρ' iv
  refine hc M T0 H' T' σ' [] _ e' fun H2 T2 s2 t2 e2 => ?_
  cases b with
  | true =>
    refine ⟨fun σ3 T3 => ∃ m', m' < m ∧ ∃ H3 ρ3, Same H H3 ∧ En K M T0 H3 T3 σ3 ρ3 ∧ Iv m' ρ3, fun σ3 T3 ⟨m', hm, z⟩ => ⟨m', hm, z⟩, ?_⟩
    refine h1 rfl M T0 H2 T2 σ' _ e2 ?_
    have kk := k.up (s'.trans s2)
    exact ⟨fun ρ3 σ3 H3 T3 ⟨m', hm, p⟩ s3 e3 => ⟨m', hm, H3, ρ3, s'.trans (s2.trans s3), e3, p⟩, kk.rt, fun ρ3 σ3 H3 T3 p s3 e3 => kk.nx _ _ _ _ p s3 e3, fun ρ3 σ3 H3 T3 ⟨m', hm, p⟩ s3 e3 => ⟨m', hm, H3, ρ3, s'.trans (s2.trans s3), e3, p⟩, kk.ex⟩
  | false =>
    show Dn.nx σ' T2
    exact k.nx _ _ _ _ (h2 rfl) (s'.trans s2) e2

/-! ### comprehensions -/
def wipeD (ρ : Rho) : List Nat → Rho
  | [] => ρ
  | v :: vs => (wipeD ρ vs).set v .no
def isOw : Option Sl → Bool
  | some (.ow _) => true
  | some (.cl _) => true
  | _ => false
theorem EnR.merge : ∀ {ρ ρ2 : Rho} {σ σ2 : L2.St} {L L2 : Op}, EnR K H ρ σ L → Same H H' → EnR K H' ρ2 σ2 L2 → ρ2.length = ρ.length → (∀ i : Nat, (ρ2[i]? = ρ[i]? ∧ σ2[i]? = σ[i]?) ∨ (isOw ρ[i]? = false ∧ isOw ρ2[i]? = false)) → EnR K H' ρ σ L2
  | [], ρ2, σ, σ2, L, L2, h, s, h2, hl, hp => by
    cases h
    have : ρ2 = [] := List.length_eq_zero_iff.mp hl
    subst this
    cases h2
    exact .nil
  | a :: ρ, [], σ, σ2, L, L2, h, s, h2, hl, hp => by simp at hl
  | a :: ρ, b :: ρ2, [], σ2, L, L2, h, s, h2, hl, hp => by cases h
  | a :: ρ, b :: ρ2, x :: σ, [], L, L2, h, s, h2, hl, hp => by cases h2
  | a :: ρ, b :: ρ2, x :: σ, y :: σ2, L, L2, h, s, h2, hl, hp => by
    have hl' : ρ2.length = ρ.length := by simpa using hl
    have tl : ∀ {L L2 : Op}, EnR K H ρ σ L → EnR K H' ρ2 σ2 L2 → EnR K H' ρ σ L2 := fun h h2 => EnR.merge h s h2 hl' fun i => by simpa using hp (i + 1)
    rcases hp 0 with ⟨e1, e2⟩ | ⟨e1, e2⟩
    · have ea : b = a := Option.some.inj e1
      have ex : y = x := Option.some.inj e2
      subst ea ex
      cases h2 with
      | no h2 => cases h with | no h => exact .no (tl h h2)
      | im i2 h2 => cases h with | im _ h => exact .im i2 (tl h h2)
      | ow i2 h2 => cases h with | ow _ h => exact .ow i2 (tl h h2)
      | cl i2 h2 => cases h with | cl _ h => exact .cl i2 (tl h h2)
    · have t2 : ∃ L3, L2 = L3 ∧ EnR K H' ρ2 σ2 L3 := by
        cases h2 with
        | no h2 => exact ⟨_, rfl, h2⟩
        | im i2 h2 => exact ⟨_, rfl, h2⟩
        | ow i2 h2 => cases e2
        | cl i2 h2 => cases e2
      obtain ⟨L3, rfl, h3⟩ := t2
      cases h with
      | no h => exact .no (tl h h3)
      | im ia h => exact .im (ia.up s) (tl h h3)
      | ow ia h => cases e1
      | cl ia h => cases e1
theorem wipeD_len (ρ : Rho) : ∀ vs, (wipeD ρ vs).length = ρ.length
  | [] => rfl
  | v :: vs => by unfold wipeD; rw [List.length_set, wipeD_len ρ vs]
theorem setD_len : ∀ (as : List (Nat × D)) (ρ : Rho), (setD ρ as).length = ρ.length
  | [], _ => rfl
  | (i, d) :: r, ρ => by unfold setD; rw [setD_len r, List.length_set]
theorem wipeD_out {i : Nat} : ∀ {vs : List Nat}, i ∉ vs → (wipeD ρ vs)[i]? = ρ[i]?
  | [], _ => rfl
  | v :: vs, h => by
    have h1 : v ≠ i := fun e => h (by simp [e])
    unfold wipeD
    rw [List.getElem?_set_ne h1]
    exact wipeD_out fun z => h (List.mem_cons_of_mem _ z)
theorem setD_out {i : Nat} : ∀ {as : List (Nat × D)} {ρ : Rho}, i ∉ as.map (·.1) → (setD ρ as)[i]? = ρ[i]?
  | [], _, _ => rfl
  | (j, d) :: r, ρ, h => by
    have h1 : j ≠ i := fun e => h (by simp [e])
    unfold setD
    rw [setD_out (as := r) (fun z => h (by simp [z])), List.getElem?_set_ne h1]
theorem setV_out {i : Nat} : ∀ {as : List (Nat × D)} {us : List V} {σ : L2.St}, i ∉ as.map (·.1) → (setV σ as us)[i]? = σ[i]?
  | [], us, _, _ => by cases us <;> rfl
  | (j, d) :: r, [], _, _ => rfl
  | (j, d) :: r, u :: us, σ, h => by
    have h1 : j ≠ i := fun e => h (by simp [e])
    unfold setV
    rw [setV_out (as := r) (fun z => h (by simp [z])), List.getElem?_set_ne h1]
theorem wipeD_in {i : Nat} : ∀ {vs : List Nat}, i ∈ vs → isOw (wipeD ρ vs)[i]? = false
  | v :: vs, h => by
    unfold wipeD
    by_cases e : v = i
    · subst e
      by_cases hv : v < (wipeD ρ vs).length
      · rw [List.getElem?_set_self hv] <;> rfl
      · rw [List.getElem?_eq_none (by simpa using hv)] <;> rfl
    · rw [List.getElem?_set_ne e]
      exact wipeD_in ((List.mem_cons.mp h).resolve_left fun z => e z.symm)
theorem setD_ow {i : Nat} : ∀ {as : List (Nat × D)} {ρ : Rho}, isOw ρ[i]? = false → isOw (setD ρ as)[i]? = false
  | [], _, h => h
  | (j, d) :: r, ρ, h => by
    unfold setD
    refine setD_ow (as := r) ?_
    by_cases e : j = i
    · subst e
      by_cases hv : j < ρ.length
      · rw [List.getElem?_set_self hv] <;> rfl
      · rw [List.getElem?_eq_none (by simpa using hv)] <;> rfl
    · rw [List.getElem?_set_ne e]
      exact h
theorem wipe_idem (σ : L2.St) : ∀ vs, ∀ i : Nat, (wipe σ vs)[i]? = if i ∈ vs then (σ[i]?).map (fun _ => none) else σ[i]?
  | [], i => by simp [wipe]
  | v :: vs, i => by
    unfold wipe
    by_cases e : v = i
    · subst e
      rw [if_pos List.mem_cons_self, List.getElem?_set_self', wipe_idem σ vs v]
      split <;> (cases σ[v]? <;> rfl)
    · rw [List.getElem?_set_ne e, wipe_idem σ vs i]
      by_cases h : i ∈ vs
      · rw [if_pos h, if_pos (List.mem_cons_of_mem _ h)]
      · rw [if_neg h, if_neg fun z => h ((List.mem_cons.mp z).resolve_left fun q => e q.symm)]
theorem setV_len : ∀ (as : List (Nat × D)) (us : List V) (σ : L2.St), (setV σ as us).length = σ.length
  | [], us, _ => by cases us <;> rfl
  | (i, d) :: r, [], _ => rfl
  | (i, d) :: r, u :: us, σ => by unfold setV; rw [setV_len r, List.length_set]
theorem map_none_eq {a b : Option (Option V)} (h : a.isSome = b.isSome) : a.map (fun _ => (none : Option V)) = b.map fun _ => none := by
  cases a <;> cases b <;> simp_all
theorem wipe_setV {as : List (Nat × D)} {us : List V} {vs : List Nat} (hs : ∀ i ∈ as.map (·.1), i ∈ vs) : wipe (setV (wipe σ vs) as us) vs = wipe σ vs := by
  refine List.ext_getElem? fun i => ?_
  rw [wipe_idem, wipe_idem]
  by_cases h : i ∈ vs
  · rw [if_pos h, if_pos h]
    refine map_none_eq ?_
    have l1 : (setV (wipe σ vs) as us).length = σ.length := by rw [setV_len, wipe_length]
    by_cases hi : i < σ.length
    · rw [List.getElem?_eq_getElem (by omega), List.getElem?_eq_getElem hi] <;> rfl
    · rw [List.getElem?_eq_none (by omega), List.getElem?_eq_none (by omega)]
  · rw [if_neg h, if_neg h, setV_out (fun z => h (hs i z)), wipe_idem, if_neg h]
theorem EnX.wipe {vs : List Nat} (hv : ∀ i ∈ vs, isOw ρ[i]? = false) (h : EnX K M T0 H T σ ρ X) : EnX K M T0 H T (wipe σ vs) (wipeD ρ vs) X := by
  induction vs with
  | nil => exact h
  | cons v vs ih => exact (ih fun i hi => hv i (List.mem_cons_of_mem _ hi)).drop
theorem EnX.unwipe {vs : List Nat} {as : List (Nat × D)} {us : List V} {M' : Op} (hv : ∀ i ∈ vs, isOw ρ[i]? = false) (ha : ∀ i ∈ as.map (·.1), i ∈ vs) (h0 : EnX K M T0 H T σ ρ X) (s : Same H H') {X' : Op} (h : EnX K M T0 H' T' (setV (L2.wipe σ vs) as us) (setD (wipeD ρ vs) as) X') : EnX K M T0 H' T' σ ρ X' := by
  obtain ⟨L, r, q, f⟩ := h0.ex
  obtain ⟨L2, r2, q2, f2⟩ := h.ex
  refine ⟨⟨L2, r.merge s r2 (by rw [setD_len, wipeD_len]) fun i => ?_, q2, f2⟩, h.t0⟩
  by_cases hi : i ∈ vs
  · exact .inr ⟨hv i hi, setD_ow (wipeD_in hi)⟩
  · have hn : i ∉ as.map (·.1) := fun z => hi (ha i z)
    refine .inl ⟨by rw [setD_out hn, wipeD_out hi], by rw [setV_out hn, wipe_idem, if_neg hi]⟩
theorem same_mut {A B : Hp} {p : Addr} {o : HO} (s : Same A B) (h : A p = none) : Same A (upd B p o) := fun b x e => by
  rw [upd_ne (ne_of_none e h)]
  exact s b x e
/-- .. walked by a comprehension: nothing that is open is written meanwhile -/
def JW (K : PySem.W.Frag) (H1 T1 : Hp) (J : It) (l : List D) : Prop := ∀ (i : Nat) (H T : Hp), Same H1 H → Same H T → Same T1 T →
  (∀ d, l[i]? = some d → J.go i T ∧ ∀ x T', J.yld i T x T' → ∃ H', Grow H T H' T' ∧ Is K H' d x) ∧ (l.length ≤ i → J.stop i T)
def SrcW (K : PySem.W.Frag) (wi : TI) (ρ : Rho) (l : List D) : Prop := ∀ (M : Op) (T0 H T : Hp) (σ : L2.St) (X : Op) (R : It → Hp → Prop), EnX K M T0 H T σ ρ X → (∀ J H' T', Same H H' → Same T T' → EnX K M T0 H' T' σ ρ X → JW K H' T' J l → R J T') → wi σ T R
theorem SrcD.w (h : SrcD K wi ρ l) : SrcW K wi ρ l := fun M T0 H T σ X R e q => h M T0 H T σ X R e fun J H' T' s t e' hj => q J H' T' s t e' fun i H2 T2 a b _ => hj i H2 T2 a b
/-- an open list -/
theorem src_own (e : ρ[i]? = some (.ow l)) : SrcW K (iList K (tVar i)) ρ l := fun M T0 H T σ X R en q => by
  obtain ⟨p, vs, h1, h2, h4, _⟩ := en.own e
  refine ⟨.ref p, h1, p, rfl, ⟨vs, .inl (.inl h2)⟩, q _ H T (Same.refl _) (Same.refl _) en fun k H2 T2 sa sb st => ⟨fun d hd => ?_, fun hl => ⟨vs, .inl (.inl (st _ _ h2)), by rw [h4.len]; exact hl⟩⟩⟩
  obtain ⟨v, g1, g2⟩ := h4.get hd
  have hq : SqL K T2 p vs := .inl (.inl (st _ _ h2))
  refine ⟨⟨vs, v, hq, g1⟩, fun x T' ⟨e1, e2⟩ => ⟨H2, .inl ⟨rfl, e1⟩, ?_⟩⟩
  have := e2 vs hq
  rw [g1] at this
  cases this
  exact g2.up sa
theorem evo_lcW {α : Type} {xs : List α} {enc : α → D} {vs : List Nat} (f : α → Bool) (e : α → D) (hs : SrcW K wi ρ (xs.map enc)) (hv : ∀ i ∈ vs, isOw ρ[i]? = false)
    (ht : ∀ d ∈ xs, ∃ as, GDs K g (enc d) as ∧ (∀ i ∈ as.map (·.1), i ∈ vs) ∧ EvT K tt (setD (wipeD ρ vs) as) (f d) ∧ (f d = true → EvD K te (setD (wipeD ρ vs) as) (e d))) (hz : xs.length ≤ 100000) :
    EvO K (tLc wi g tt te vs) ρ ((xs.filter f).map e) := fun M T0 H T σ X Q en q =>
  hs M T0 H T σ X _ en fun J H1 T1 s1 t1 e1 hj D hD => by
    refine ⟨fun i m T' => m + i = xs.length ∧ Same T1 T' ∧ ∃ H' us, Same H1 H' ∧ EnX K M T0 H' T' σ ρ ((D, .lst us) :: X) ∧ IsL K H' (((xs.take i).filter f).map e) us, ⟨xs.length, by omega, same_new hD, H1, [], Same.refl _, e1.opened hD, rfl⟩, ?_⟩
    rintro i m T' ⟨hm, tt1, H', us, s', e', iu⟩
    obtain ⟨hgo, hstop⟩ := hj i H' T' s' e'.same tt1
    by_cases hi : i < xs.length
    · obtain ⟨d, hd1⟩ := get_some hi
      obtain ⟨g1, g2⟩ := hgo (enc d) (by rw [List.getElem?_map, hd1]; rfl)
      refine .inr ⟨g1, fun T2 => Same T1 T2 ∧ ∃ H2 ws, Same H1 H2 ∧ EnX K M T0 H2 T2 σ ρ ((D, .lst ws) :: X) ∧ IsL K H2 (((xs.take (i + 1)).filter f).map e) ws, fun T2 ⟨z, H2, ws, a, b, c⟩ => ⟨m - 1, by omega, by omega, z, H2, ws, a, b, c⟩, fun x T2 hy => ?_⟩
      obtain ⟨H2, gr, ix⟩ := g2 x T2 hy
      obtain ⟨s2, tg, e2⟩ := e'.grow gr
      obtain ⟨as, ga, hsub, hT, hE⟩ := ht d (List.mem_of_getElem? hd1)
      have e3 := e2.wipe hv
      refine ga H2 T2 _ x _ e3.same ix fun ws hw => ⟨wipe_setV hsub, ?_⟩
      have e4 := e3.setAll hw
      have tk : xs.take (i + 1) = xs.take i ++ [d] := by
        rw [List.take_add_one, hd1]
        rfl
      refine hT M T0 H2 T2 _ _ _ e4 fun H5 T5 s5 t5 e5 => ?_
      cases hf : f d with
      | true =>
        refine hE hf M T0 H5 T5 _ _ _ e5 fun v H6 T6 s6 t6 e6 iv => ?_
        have e7 := EnX.unwipe hv hsub e2 (s5.trans s6) (M' := M) e6
        refine ⟨us, e7.at_, ?_, same_mut (tt1.trans (tg.trans (t5.trans t6))) hD, H6, us ++ [v], s'.trans (s2.trans (s5.trans s6)), e7.write, ?_⟩
        · rw [iu.len, List.length_map]
          have h1 : ((xs.take i).filter f).length ≤ (xs.take i).length := List.length_filter_le _ _
          rw [List.length_take] at h1
          have h2 : (100000 : Nat) < sizeLine := by decide
          omega
        · rw [tk, List.filter_append, List.map_append, List.filter_cons, if_pos hf]
          exact (iu.up (s2.trans (s5.trans s6))).app (.one iv)
      | false =>
        show Same T1 T5 ∧ ∃ H2 ws, _
        have e7 := EnX.unwipe hv hsub e2 s5 (M' := M) e5
        refine ⟨tt1.trans (tg.trans t5), H5, us, s'.trans (s2.trans s5), e7, ?_⟩
        rw [tk, List.filter_append, List.map_append, List.filter_cons, if_neg (by rw [hf]; decide)]
        show IsL K H5 (_ ++ []) us
        rw [List.append_nil]
        exact iu.up (s2.trans s5)
    · have ei : i = xs.length := by omega
      subst ei
      rw [List.take_length] at iu
      exact .inl ⟨hstop (by rw [List.length_map]; exact Nat.le_refl _), q D us H' T' (s1.trans s') (t1.trans tt1) e' iu⟩
theorem evo_lc {α : Type} {xs : List α} {enc : α → D} {vs : List Nat} (f : α → Bool) (e : α → D) (hs : SrcD K wi ρ (xs.map enc)) (hv : ∀ i ∈ vs, isOw ρ[i]? = false)
    (ht : ∀ d ∈ xs, ∃ as, GDs K g (enc d) as ∧ (∀ i ∈ as.map (·.1), i ∈ vs) ∧ EvT K tt (setD (wipeD ρ vs) as) (f d) ∧ (f d = true → EvD K te (setD (wipeD ρ vs) as) (e d))) (hz : xs.length ≤ 100000) :
    EvO K (tLc wi g tt te vs) ρ ((xs.filter f).map e) := evo_lcW f e hs.w hv ht hz
theorem evo_mapW {α : Type} {xs : List α} {enc : α → D} {vs : List Nat} (e : α → D) (hs : SrcW K wi ρ (xs.map enc)) (hv : ∀ i ∈ vs, isOw ρ[i]? = false)
    (ht : ∀ d ∈ xs, ∃ as, GDs K g (enc d) as ∧ (∀ i ∈ as.map (·.1), i ∈ vs) ∧ EvD K te (setD (wipeD ρ vs) as) (e d)) (hz : xs.length ≤ 100000) :
    EvO K (tLc wi g tYes te vs) ρ (xs.map e) := by
  have h := evo_lcW (tt := tYes) (te := te) (fun _ => true) e hs hv (fun d hd => by
    obtain ⟨as, a, b, c⟩ := ht d hd
    exact ⟨as, a, b, et_yes, fun _ => c⟩) hz
  have e1 : xs.filter (fun _ => true) = xs := by simp
  rw [e1] at h
  exact h
/-- without a test -/
theorem evo_map {α : Type} {xs : List α} {enc : α → D} {vs : List Nat} (e : α → D) (hs : SrcD K wi ρ (xs.map enc)) (hv : ∀ i ∈ vs, isOw ρ[i]? = false)
    (ht : ∀ d ∈ xs, ∃ as, GDs K g (enc d) as ∧ (∀ i ∈ as.map (·.1), i ∈ vs) ∧ EvD K te (setD (wipeD ρ vs) as) (e d)) (hz : xs.length ≤ 100000) :
    EvO K (tLc wi g tYes te vs) ρ (xs.map e) := by
  have h := evo_lc (tt := tYes) (te := te) (fun _ => true) e hs hv (fun d hd => by
    obtain ⟨as, a, b, c⟩ := ht d hd
    exact ⟨as, a, b, et_yes, fun _ => c⟩) hz
  have e1 : xs.filter (fun _ => true) = xs := by simp
  rw [e1] at h
  exact h

end

section
variable {K : PySem.W.Frag} {ρ : Rho} {te : TE} {tt : TT} {l : List D} {g : TG} {wi : TI}
/-- a comprehension of closed elements -/
theorem ec_lcW {α : Type} {xs : List α} {enc : α → D} {vs : List Nat} (f : α → Bool) (e : α → D) (hs : SrcW K wi ρ (xs.map enc)) (hv : ∀ i ∈ vs, isOw ρ[i]? = false)
    (ht : ∀ d ∈ xs, ∃ as, GDs K g (enc d) as ∧ (∀ i ∈ as.map (·.1), i ∈ vs) ∧ EvT K tt (setD (wipeD ρ vs) as) (f d) ∧ (f d = true → EvC K te (setD (wipeD ρ vs) as) (e d))) (hz : xs.length ≤ 100000) :
    EvC K (tLc wi g tt te vs) ρ (.lst ((xs.filter f).map e)) := fun M T0 H T σ X Q en q =>
  hs M T0 H T σ X _ en fun J H1 T1 s1 t1 e1 hj D hD => by
    refine ⟨fun i m T' => m + i = xs.length ∧ Same T1 T' ∧ ∃ H' us Lc, Same H1 H' ∧ EnX K M T0 H' T' σ ρ ((D, .lst us) :: (Lc ++ X)) ∧ IsCL K H' (((xs.take i).filter f).map e) us Lc, ⟨xs.length, by omega, same_new hD, H1, [], [], Same.refl _, e1.opened hD, rfl, rfl⟩, ?_⟩
    rintro i m T' ⟨hm, tt1, H', us, Lc, s', e', iu⟩
    obtain ⟨hgo, hstop⟩ := hj i H' T' s' e'.same tt1
    by_cases hi : i < xs.length
    · obtain ⟨d, hd1⟩ := get_some hi
      obtain ⟨g1, g2⟩ := hgo (enc d) (by rw [List.getElem?_map, hd1]; rfl)
      refine .inr ⟨g1, fun T2 => Same T1 T2 ∧ ∃ H2 ws Lc, Same H1 H2 ∧ EnX K M T0 H2 T2 σ ρ ((D, .lst ws) :: (Lc ++ X)) ∧ IsCL K H2 (((xs.take (i + 1)).filter f).map e) ws Lc, fun T2 ⟨z, H2, ws, Lc, a, b, c⟩ => ⟨m - 1, by omega, by omega, z, H2, ws, Lc, a, b, c⟩, fun x T2 hy => ?_⟩
      obtain ⟨H2, gr, ix⟩ := g2 x T2 hy
      obtain ⟨s2, tg, e2⟩ := e'.grow gr
      obtain ⟨as, ga, hsub, hT, hE⟩ := ht d (List.mem_of_getElem? hd1)
      have e3 := e2.wipe hv
      refine ga H2 T2 _ x _ e3.same ix fun ws hw => ⟨wipe_setV hsub, ?_⟩
      have e4 := e3.setAll hw
      have tk : xs.take (i + 1) = xs.take i ++ [d] := by
        rw [List.take_add_one, hd1]
        rfl
      refine hT M T0 H2 T2 _ _ _ e4 fun H5 T5 s5 t5 e5 => ?_
      cases hf : f d with
      | true =>
        refine hE hf M T0 H5 T5 _ _ _ e5 fun v L' H6 T6 s6 t6 e6 iv => ?_
        have e7 := EnX.unwipe hv hsub e2 (s5.trans s6) (M' := M) e6
        have pm : List.Perm (L' ++ ((D, HO.lst us) :: (Lc ++ X))) ((D, HO.lst us) :: ((Lc ++ L') ++ X)) := by
          refine List.perm_middle.trans (List.Perm.cons _ ?_)
          rw [← List.append_assoc]
          exact List.perm_append_comm.append_right _
        have e8 := e7.perm pm
        refine ⟨us, e8.at_, ?_, same_mut (tt1.trans (tg.trans (t5.trans t6))) hD, H6, us ++ [v], Lc ++ L', s'.trans (s2.trans (s5.trans s6)), e8.write, ?_⟩
        · rw [iu.len, List.length_map]
          have h1 : ((xs.take i).filter f).length ≤ (xs.take i).length := List.length_filter_le _ _
          rw [List.length_take] at h1
          have h2 : (100000 : Nat) < sizeLine := by decide
          omega
        · rw [tk, List.filter_append, List.map_append, List.filter_cons, if_pos hf]
          exact (iu.up (s2.trans (s5.trans s6))).app (.one iv)
      | false =>
        show Same T1 T5 ∧ ∃ H2 ws Lc, _
        have e7 := EnX.unwipe hv hsub e2 s5 (M' := M) e5
        refine ⟨tt1.trans (tg.trans t5), H5, us, Lc, s'.trans (s2.trans s5), e7, ?_⟩
        rw [tk, List.filter_append, List.map_append, List.filter_cons, if_neg (by rw [hf]; decide)]
        show IsCL K H5 (_ ++ []) us Lc
        rw [List.append_nil]
        exact iu.up (s2.trans s5)
    · have ei : i = xs.length := by omega
      subst ei
      rw [List.take_length] at iu
      exact .inl ⟨hstop (by rw [List.length_map]; exact Nat.le_refl _), q (.ref D) ((D, .lst us) :: Lc) H' T' (s1.trans s') (t1.trans tt1) e' ⟨D, us, Lc, rfl, rfl, iu⟩⟩
theorem ec_lc {α : Type} {xs : List α} {enc : α → D} {vs : List Nat} (f : α → Bool) (e : α → D) (hs : SrcD K wi ρ (xs.map enc)) (hv : ∀ i ∈ vs, isOw ρ[i]? = false)
    (ht : ∀ d ∈ xs, ∃ as, GDs K g (enc d) as ∧ (∀ i ∈ as.map (·.1), i ∈ vs) ∧ EvT K tt (setD (wipeD ρ vs) as) (f d) ∧ (f d = true → EvC K te (setD (wipeD ρ vs) as) (e d))) (hz : xs.length ≤ 100000) :
    EvC K (tLc wi g tt te vs) ρ (.lst ((xs.filter f).map e)) := ec_lcW f e hs.w hv ht hz
theorem ec_map {α : Type} {xs : List α} {enc : α → D} {vs : List Nat} (e : α → D) (hs : SrcD K wi ρ (xs.map enc)) (hv : ∀ i ∈ vs, isOw ρ[i]? = false)
    (ht : ∀ d ∈ xs, ∃ as, GDs K g (enc d) as ∧ (∀ i ∈ as.map (·.1), i ∈ vs) ∧ EvC K te (setD (wipeD ρ vs) as) (e d)) (hz : xs.length ≤ 100000) :
    EvC K (tLc wi g tYes te vs) ρ (.lst (xs.map e)) := by
  have h := ec_lc (tt := tYes) (te := te) (fun _ => true) e hs hv (fun d hd => by
    obtain ⟨as, a, b, c⟩ := ht d hd
    exact ⟨as, a, b, et_yes, fun _ => c⟩) hz
  have e1 : xs.filter (fun _ => true) = xs := by simp
  rw [e1] at h
  exact h

end

/-! ### a def -/
/-- a def's wish about what it raises -/
abbrev upX (E : XK) : L2.WX := fun c od _ T => E c od T
section
variable {K : PySem.W.Frag} {P : PrD} {vs : List V} {T : Hp} {Q : VK} {E : XK} {t : TS} {N : List Str}
theorem read_fn (h : spD K P vs T Q E) (hw : ∀ ds R Z, P ds R Z → Ws K (upX E) t (ds.map .im ++ List.replicate (N.length - ds.length) .no) { nx := fun _ => R (.im .non), rt := R, ex := fun _ => Z }) :
    t { nx := fun _ H' => Q .non H', rt := Q } (L2.start N vs) T := by
  obtain ⟨M, H, ds, R, Z, o, hd, p, k1, k2⟩ := h
  have r := EnR.start hd (N.length - ds.length)
  have e : L2.start N vs = vs.map some ++ List.replicate (N.length - ds.length) none := by unfold L2.start; rw [hd.len]
  rw [e]
  refine hw ds R Z p M T H T _ _ ⟨⟨[], r, o, fun _ h => (nomatch h)⟩, Same.refl _⟩ ⟨fun ρ' σ' H' T' q s e' => k1 (.im .non) .non H' T' q s e'.t0 ⟨rfl, e'.frame⟩, fun s v H' T' q s' t' hr => k1 s v H' T' q s' t' hr, fun _ _ _ _ q => q.elim, fun _ _ _ _ q => q.elim, fun ρ' σ' c ns es od H' T' q s' e' hx => k2 c ns es od H' T' q s' e'.t0 e'.frame hx⟩
theorem len_fn {n : Nat} (hl : ∀ ds R Z, P ds R Z → ds.length = n) (h : spD K P vs T Q E) : vs.length = n := by
  obtain ⟨M, H, ds, R, Z, o, hd, p, _⟩ := h
  rw [hd.len]
  exact hl ds R Z p
end
end FS
set_option Elab.async false
set_option linter.all false
set_option maxRecDepth 100000
set_option maxHeartbeats 4000000
namespace FS
open PySem PySem.Spec PyProof.Rows L2

/-! ### operators, by what comes in -/
section
variable {X : Cx}
abbrev rStrCat : R2 := fun x y H Q => ∃ i j, x = .str i ∧ y = .str j ∧ i.length + j.length ≤ sizeLine ∧ Q (.str (i ++ j)) H
def rAddA (K : PySem.W.Frag) : R2 := fun x y H Q => rI0 (fun i j => .int (i + j)) x y H Q ∨ rCat x y H Q ∨ rStrCat x y H Q ∨ rCatT K x y H Q
theorem opAdd : OpR X (binaryOp .Add) (rAddA X.K) := op_add.or (op_cat.or (OpR.or op_add_str op_catT))
def rMulA : R2 := fun x y H Q => rI CMul (fun i j => .int (i * j)) x y H Q ∨ rI CMulW (fun i j => .int (i * j)) x y H Q ∨ rRep x y H Q
theorem opMul : OpR X (binaryOp .Mult) rMulA := op_mul.or (op_mulW.or op_rep)
def rSubA : R2 := rI0 fun i j => .int (i - j)
theorem opSub : OpR X (binaryOp .Sub) rSubA := op_sub
def rDivA : R2 := rI CDivW fun i j => .int (i / j)
theorem opDiv : OpR X (binaryOp .FloorDiv) rDivA := op_fdivW
def rModA : R2 := rI (fun _ j => 0 < j) fun i j => .int (i % j)
theorem opMod : OpR X (binaryOp .Mod) rModA := op_mod
def rPowA : R2 := rI CPow fun i j => .int (i ^ j.toNat)
theorem opPow : OpR X (binaryOp .Pow) rPowA := op_pow
def rLtA : R2 := rI0 fun i j => .bl (decide (i < j))
def rLeA : R2 := rI0 fun i j => .bl (decide (i ≤ j))
def rGtA : R2 := rI0 fun i j => .bl (decide (j < i))
def rGeA : R2 := rI0 fun i j => .bl (decide (j ≤ i))
theorem opLt : OpR X (compareOp .Lt) rLtA := op_lt
theorem opLe : OpR X (compareOp .LtE) rLeA := op_le
theorem opGt : OpR X (compareOp .Gt) rGtA := op_gt
theorem opGe : OpR X (compareOp .GtE) rGeA := op_ge
def rEqA (K : PySem.W.Frag) : R2 := fun x y H Q => rEq x y H Q ∨ rEqD K x y H Q
def rNeA (K : PySem.W.Frag) : R2 := fun x y H Q => rNe x y H Q ∨ rNeD K x y H Q
theorem opEq (hu : X.A.units + 64 < cLine) : OpR X (compareOp .Eq) (rEqA X.K) := op_eq.or (op_eqD hu)
theorem opNe (hu : X.A.units + 64 < cLine) : OpR X (compareOp .NotEq) (rNeA X.K) := op_ne.or (op_neD hu)
def rIsN : R2 := fun x y H Q => y = .non ∧ Q (.bl (decide (x = .non))) H
def rNotN : R2 := fun x y H Q => y = .non ∧ Q (.bl (!decide (x = .non))) H
theorem opIsN : OpR X (compareOp .Is) rIsN := op_isN
theorem opNotN : OpR X (compareOp .IsNot) rNotN := op_notN
def rNegA : V → Hp → VK → Prop := rU fun i => .int (-i)
theorem unNeg : UnR X (unaryOp .USub) rNegA := un_neg
def rLenS : List V → Hp → VK → Prop := fun xs H Q => ∃ z, xs = [.str z] ∧ z.length ≤ sizeLine ∧ Q (.int z.length) H
def rLenA (K : PySem.W.Frag) : List V → Hp → VK → Prop := fun xs H Q => rLen K xs H Q ∨ rLenS xs H Q
theorem cLen : CallR X (.builtin "len") (rLenA X.K) := call_len_seq.or call_len_str
def rIntA : List V → Hp → VK → Prop := fun xs H Q => (∃ i, xs = [.int i] ∧ Q (.int i) H) ∨ ∃ k, xs = [.bl k] ∧ Q (.int (if k then 1 else 0)) H
theorem cInt : CallR X (.type "int") rIntA := call_int1
def rAbsA : List V → Hp → VK → Prop := fun xs H Q => ∃ i, xs = [.int i] ∧ Q (.int (if i < 0 then -i else i)) H
theorem cAbs : CallR X (.builtin "abs") rAbsA := call_abs
def rListA (K : PySem.W.Frag) : List V → Hp → VK → Prop := fun xs H Q => ∃ p ys, xs = [.ref p] ∧ (SqL K H p ys ∨ SqT K H p ys) ∧ ∀ l, H l = none → Q (.ref l) (upd H l (.lst ys))
theorem cList : CallR X (.type "list") (rListA X.K) := call_list_of
/-- math.lcm, of numbers of at most 13500 bits -/
def CLcm (a b : Int) : Prop := 0 < a ∧ 0 < b ∧ a < 2 ^ 13499 ∧ b < 2 ^ 13499
def rLcmA : List V → Hp → VK → Prop := fun vs H Q => ∃ a b : Int, vs = [.int a, .int b] ∧ CLcm a b ∧ Q (.int ((Nat.lcm a.natAbs b.natAbs : Nat) : Int)) H
theorem lcm_small {a b : Nat} (ha : a < 2 ^ 13499) (hb : b < 2 ^ 13499) : (Nat.lcm a b).log2 < bitsLine := by
  have h1 : Nat.lcm a b ≤ a * b := by
    unfold Nat.lcm
    exact Nat.div_le_self _ _
  have h2 : a * b < 2 ^ 26998 := by
    have : a * b < 2 ^ 13499 * 2 ^ 13499 := Nat.mul_lt_mul'' ha hb
    rw [← Nat.pow_add] at this
    exact this
  have h3 : bitsLine = 134217728 := by decide
  by_cases h0 : Nat.lcm a b = 0
  · rw [h0, Nat.log2_zero, h3]
    decide
  · have := (Nat.log2_lt h0).mpr (Nat.lt_of_le_of_lt h1 h2)
    rw [h3]
    omega
theorem log_small {a : Nat} (ha : a < 2 ^ 13499) : ¬ a.log2 / 30 + 1 > 450 := by
  by_cases h0 : a = 0
  · subst h0
    rw [Nat.log2_zero]
    decide
  · have := (Nat.log2_lt h0).mpr ha
    omega
theorem cLcm : CallR X (.builtin "math.lcm") rLcmA := by
  intro pins s σ H vs us Q I r h
  obtain ⟨a, b, rfl, ⟨h1, h2, h3, h4⟩, q⟩ := h
  obtain ⟨t, u, rfl⟩ := Vals.int2 r
  have ha : a.natAbs < 2 ^ 13499 := by
    have : (a.natAbs : Int) < ((2 ^ 13499 : Nat) : Int) := by
      rw [Int.natAbs_of_nonneg (by omega)]
      exact_mod_cast h3
    exact_mod_cast this
  have hb : b.natAbs < 2 ^ 13499 := by
    have : (b.natAbs : Int) < ((2 ^ 13499 : Nat) : Int) := by
      rw [Int.natAbs_of_nonneg (by omega)]
      exact_mod_cast h4
    exact_mod_cast this
  have p1 : 1 ≤ a.natAbs := by omega
  have p2 : 1 ≤ b.natAbs := by omega
  have e1 : Nat.lcm 1 a.natAbs = a.natAbs := Nat.lcm_one_left _
  have m1 : max 1 a.natAbs = a.natAbs := Nat.max_eq_right p1
  have g := PySem.W.mg_run_lcm a t b u (by rw [m1]; exact log_small ha)
    (log_small (by rcases Nat.le_total a.natAbs b.natAbs with z | z; · rw [Nat.max_eq_right z]; exact hb
                   · rw [Nat.max_eq_left z]; exact ha))
    (by rw [e1, Int.natAbs_natCast]; exact lcm_small ha hb)
  rw [e1] at g
  exact PySem.call_function_meets PySem.W.MGF.kind_lcm PySem.W.MGF.plain_lcm PySem.W.MGF.entry_lcm (PySem.W.MGF.args_lcm _ _) g.meets ⟨.int _, H, I.tok _, ⟨_, rfl⟩, q⟩
end

section
variable {K : PySem.W.Frag} {ρ : Rho} {x y z d : D} {l l' : List D}
theorem rv_add {i j : Int} : RvD K (rAddA K) (.int i) (.int j) (.int (i + j)) := fun H T vx vy Q s h1 h2 q => .inl (rv_I0 (g := fun i j => V.int (i + j)) (z := .int (i + j)) (fun _ => rfl) H T vx vy Q s h1 h2 q)
theorem rvo_add (hz : l.length + l'.length ≤ 100000) : RvO K (rAddA K) (.lst l) (.lst l') (l ++ l') := fun H T vx vy Q s h1 h2 q => .inr (.inl (rvo_cat hz H T vx vy Q s h1 h2 q))
theorem rv_addS {i j : Str} (hz : i.length + j.length ≤ 10000000) : RvD K (rAddA K) (.str i) (.str j) (.str (i ++ j)) := fun H T vx vy Q s h1 h2 q =>
  .inr (.inr (.inl ⟨i, j, h1, h2, Nat.le_trans hz (by decide), q _ rfl⟩))
theorem rv_sub {i j : Int} : RvD K rSubA (.int i) (.int j) (.int (i - j)) := rv_I0 fun _ => rfl
theorem rv_mul {i j : Int} (h : CMul i j) : RvD K rMulA (.int i) (.int j) (.int (i * j)) := fun H T vx vy Q s h1 h2 q => .inl (rv_I (g := fun i j => V.int (i * j)) (z := .int (i * j)) h (fun _ => rfl) H T vx vy Q s h1 h2 q)
theorem rv_mulW {i j : Int} (h : CMulW i j) : RvD K rMulA (.int i) (.int j) (.int (i * j)) := fun H T vx vy Q s h1 h2 q => .inr (.inl (rv_I (g := fun i j => V.int (i * j)) (z := .int (i * j)) h (fun _ => rfl) H T vx vy Q s h1 h2 q))
theorem rvo_mul {k : Int} (h1 : -(2 ^ 63) ≤ k ∧ k < 2 ^ 63) (hz : l.length * k.toNat ≤ 100000) : RvO K rMulA (.lst l) (.int k) (List.replicate k.toNat l).flatten := fun H T vx vy Q s g1 g2 q => .inr (.inr (rvo_rep h1 hz H T vx vy Q s g1 g2 q))
theorem rv_div {i j : Int} (h : CDivW i j) : RvD K rDivA (.int i) (.int j) (.int (i / j)) := rv_I h fun _ => rfl
theorem rv_mod {i j : Int} (h : 0 < j) : RvD K rModA (.int i) (.int j) (.int (i % j)) := rv_I h fun _ => rfl
theorem rv_pow {i j z : Int} (h : CPow i j) (e : i ^ j.toNat = z) : RvD K rPowA (.int i) (.int j) (.int z) := e ▸ rv_I h fun _ => rfl
theorem rv_lt {i j : Int} : RvD K rLtA (.int i) (.int j) (.bl (decide (i < j))) := rv_I0 fun _ => rfl
theorem rv_le {i j : Int} : RvD K rLeA (.int i) (.int j) (.bl (decide (i ≤ j))) := rv_I0 fun _ => rfl
theorem rv_gt {i j : Int} : RvD K rGtA (.int i) (.int j) (.bl (decide (j < i))) := rv_I0 fun _ => rfl
theorem rv_ge {i j : Int} : RvD K rGeA (.int i) (.int j) (.bl (decide (j ≤ i))) := rv_I0 fun _ => rfl
theorem rv_eq {i j : Int} : RvD K (rEqA K) (.int i) (.int j) (.bl (decide (i = j))) := fun H T vx vy Q s h1 h2 q => .inl (rv_eqI H T vx vy Q s h1 h2 q)
theorem rv_ne {i j : Int} : RvD K (rNeA K) (.int i) (.int j) (.bl (!decide (i = j))) := fun H T vx vy Q s h1 h2 q => .inl (rv_neI H T vx vy Q s h1 h2 q)
theorem rv_eqStr {i j : Str} : RvD K (rEqA K) (.str i) (.str j) (.bl (decide (i = j))) := fun H T vx vy Q s h1 h2 q => .inl (rv_eqS H T vx vy Q s h1 h2 q)
theorem rv_neStr {i j : Str} : RvD K (rNeA K) (.str i) (.str j) (.bl (!decide (i = j))) := fun H T vx vy Q s h1 h2 q => .inl (rv_neS H T vx vy Q s h1 h2 q)
theorem rv_is : RvD K rIsN x .non (.bl (isNon x)) := rv_isN
theorem rv_isnot : RvD K rNotN x .non (.bl (!isNon x)) := rv_notN
theorem ru_neg {i : Int} : RuD K rNegA (.int i) (.int (-i)) := ru_I fun _ => rfl
theorem rc_len : RcD K (rLenA K) [.lst l] (.int (l.length : Int)) := fun H T vs Q s h q => .inl (rc_lenL H T vs Q s h q)
theorem rc_lent : RcD K (rLenA K) [.tup l] (.int (l.length : Int)) := fun H T vs Q s h q => .inl (rc_lenT H T vs Q s h q)
theorem rc_lenc {ns : List Int} : RcD K (rLenA K) [.scr ns] (.int (ns.length : Int)) := fun H T vs Q s h q => .inl (rc_lenC H T vs Q s h q)
theorem rc_lens {t : Str} (h : t.length ≤ 10000000) : RcD K (rLenA K) [.str t] (.int (t.length : Int)) := fun H T vs Q s i q => by
  obtain ⟨v, rfl, hv⟩ := isL_one i
  exact .inr ⟨t, by rw [show v = V.str t from hv], Nat.le_trans h (by decide), q _ rfl⟩
theorem ev_lenOw {i : Nat} (e : ρ[i]? = some (.ow l)) : EvD K (tCB (rLenA K) (tCons (tVar i) tNil)) ρ (.int (l.length : Int)) := fun M T0 H T σ X Q h q => by
  obtain ⟨p, vs, h1, h2, h4, _⟩ := h.own e
  exact ⟨.ref p, h1, .inl ⟨p, vs, rfl, .inl (.inl (.inl h2)), q _ H T (Same.refl _) (Same.refl _) h (by rw [h4.len]; exact (rfl : V.int _ = V.int _))⟩⟩
theorem rc_toint {i : Int} : RcD K rIntA [.int i] (.int i) := rc_int
theorem rc_tointB {b : Bool} : RcD K rIntA [.bl b] (.int (if b then 1 else 0)) := rc_intB
theorem rc_absv {i : Int} : RcD K rAbsA [.int i] (.int (i.natAbs : Int)) := rc_abs
theorem rc_lcm {a b : Int} (h : CLcm a b) : RcD K rLcmA [.int a, .int b] (.int ((Nat.lcm a.natAbs b.natAbs : Nat) : Int)) := fun H T vs Q s i q => by
  obtain ⟨v, w, rfl, hv, hw⟩ := isL_two i
  exact ⟨a, b, by rw [show v = V.int a from hv, show w = V.int b from hw], h, q _ rfl⟩
theorem rco_list : RcO K (rListA K) [.lst l] l := rc_list
theorem rco_listT : RcO K (rListA K) [.tup l] l := rc_listT
end

/-! ### a def that stands -/
structure FnG (P : Program) (w : World) (K : PySem.W.Frag) (mg : Str → Option Value) (base : Heap) (CX : CXT) (k : Nat) (x : Str) (ps : List Str) (sp : Sp) : Prop where
  ex : ∃ f fd, FnOk P w K mg base CX k f fd ps sp ∧ mg x = some (.ref f) ∧ PySem.W.keepIn K (.ref f) = true ∧ Binds K fd ps []
section
variable {X : Cx} {CX : CXT} {k : Nat} {sp : Sp} {E : XK} {x : Str} {e : Expr} {es : List Expr} {t : TA} {p pos : Pos} {ps : List Str}
theorem pe_g (G : FnG X.prog X.w X.K X.mg X.base CX k x ps sp) (hr : Room k X.A) (hx : Passes CX X E) (ha : PA X (e :: es) t) (hg : Gl X x := by rfl) (hdb : (x == ("__debug__" : Str)) = false := by decide)
    (he : starEach (e :: es) X.env = (false, eval e X.env) :: starEach es X.env := by rfl) (hpl : (backTo pos (starEach es X.env)).any (·.1) = false := by rfl) : PE X (.Call (.Name x p) (e :: es) [] pos) (tCall sp [] E t) := by
  obtain ⟨f, fd, F, hm, hk, hb⟩ := G.ex
  exact pe_call F hr hg hm hk hb .nil hx ha hdb he hpl
end
section
variable {P : Program} {w : World} {K : PySem.W.Frag} {mg : Str → Option Value} {base : Heap} {x qual : Str} {st : Stmt} {f : Addr} {fd : FuncData} {N ps : List Str} {k : Nat} {Pr : PrD}
/-- a def of the text, its facts behind the top -/
structure Df (K : PySem.W.Frag) (mg : Str → Option Value) (x : Str) (st : Stmt) (ps : List Str) : Prop where
  ex : ∃ f fd, Fun K x x st f fd ∧ mg x = some (.ref f) ∧ Binds K fd ps []
theorem Df.ok (F : Df K mg x st ps) (S : FnScope N ps (defScope st)) (len : ∀ ds R Z, Pr ds R Z → ds.length = ps.length)
    (hbody : ∀ (f : Addr) (cdv : Value) (A : Around) (outer : List Env) (s : Shared) (H : Hp) (E : XK), Room k (A.deeper (envOfC x (defScope st) s.heap.objs.size f cdv)) →
      ∃ t, PSs (cxOf CX0 P w K mg base N x (defScope st) f cdv A outer s H E).nox (defBody st) t ∧ ∀ ds R Z, Pr ds R Z → Ws K (upX E) t (ds.map .im ++ List.replicate (N.length - ds.length) .no) { nx := fun _ => R (.im .non), rt := R, ex := fun _ => Z }) :
    FnG P w K mg base CX0 (k + 1) x ps (spD K Pr) := by
  obtain ⟨f, fd, F, hm, hb⟩ := F.ex
  refine ⟨f, fd, F.ok S (fun vs H Q E h => len_fn len h) (fun cdv A outer s H vs Q E hr h => ?_), hm, F.kp, hb⟩
  obtain ⟨t, h1, h2⟩ := hbody f cdv A outer s H E hr
  exact ⟨t, h1, read_fn h h2⟩
theorem Df.okX (F : Df K mg x st ps) (S : FnScope N ps (defScope st)) (len : ∀ ds R Z, Pr ds R Z → ds.length = ps.length)
    (hbody : ∀ (f : Addr) (cdv : Value) (A : Around) (outer : List Env) (s : Shared) (H : Hp) (E : XK), Room k (A.deeper (envOfC x (defScope st) s.heap.objs.size f cdv)) →
      ∃ t, PSs (cxOf (L2.CX P w) P w K mg base N x (defScope st) f cdv A outer s H E) (defBody st) t ∧ ∀ ds R Z, Pr ds R Z → Ws K (upX E) t (ds.map .im ++ List.replicate (N.length - ds.length) .no) { nx := fun _ => R (.im .non), rt := R, ex := fun _ => Z }) :
    FnG P w K mg base (L2.CX P w) (k + 1) x ps (spD K Pr) := by
  obtain ⟨f, fd, F, hm, hb⟩ := F.ex
  refine ⟨f, fd, F.okX S (fun vs H Q E h => len_fn len h) (fun cdv A outer s H vs Q E hr h => ?_), hm, F.kp, hb⟩
  obtain ⟨t, h1, h2⟩ := hbody f cdv A outer s H E hr
  exact ⟨t, h1, read_fn h h2⟩
end

/-! ### short words for derivations; the written part is named, so that it may stand under a comprehension's binder -/
section
variable {X : Cx} (K : PySem.W.Frag)
theorem kAdd (hK : X.K = K := by rfl) : OpR X (binaryOp .Add) (rAddA K) := hK ▸ opAdd
theorem kEq (hu : X.A.units + 64 < cLine) (hK : X.K = K := by rfl) : OpR X (compareOp .Eq) (rEqA K) := hK ▸ opEq hu
theorem kNe (hu : X.A.units + 64 < cLine) (hK : X.K = K := by rfl) : OpR X (compareOp .NotEq) (rNeA K) := hK ▸ opNe hu
theorem kLen (hK : X.K = K := by rfl) : CallR X (.builtin "len") (rLenA K) := hK ▸ cLen
theorem kList (hK : X.K = K := by rfl) : CallR X (.type "list") (rListA K) := hK ▸ cList
theorem kIsi (hK : X.K = K := by rfl) : CallR X (.builtin "isinstance") (rIsi K) := hK ▸ call_isi
theorem kIn (hK : X.K = K := by rfl) : OpR X (compareOp .In) (rIn K false) := hK ▸ op_in_seq
theorem kNotIn (hK : X.K = K := by rfl) : OpR X (compareOp .NotIn) (rIn K true) := hK ▸ op_notIn_seq
theorem kIx (hK : X.K = K := by rfl) : IxR X (rIx K) := hK ▸ ix_seq
theorem ix {a b : Expr} {ta tb : TE} {pos : Pos} (ha : PE X a ta) (hb : PE X b tb) (hK : X.K = K := by rfl) (hs : PlainIx b := by exact fun _ _ => rfl) : PE X (.Subscript a b pos) (tOp (rIx K) ta tb) := pe_ix (kIx K hK) ha hb hs
theorem pl {tg l : Expr} {tl : TE} (hl : PE X l tl) (hK : X.K = K := by rfl) : PI X tg l (iList K tl) := hK ▸ pi_list hl
theorem pt {tg l : Expr} {tl : TE} (hl : PE X l tl) (hK : X.K = K := by rfl) : PI X tg l (iTup K tl) := hK ▸ pi_tup hl
theorem gt {es : List Expr} {k : Nat} {pos : Pos} {t : TGs} {n : Nat} (hc : X.calm = true) (h : PGs X es t) (hK : X.K = K := by rfl) (hn : (assignEach es X.env).length = n := by rfl) (hst : (assignEach es X.env).findIdx? (·.1) = none := by rfl) : PG X (.Tuple es k pos) (gTup K n t) := hK ▸ pg_tup hc h hn hst
theorem ml_append {o e : Expr} {to : TE} {ta : TA} {apos cpos : Pos} (ho : PE X o to) (ha : PA X [e] ta) (hK : X.K = K := by rfl) (hbase : attributeBase o "append" X.env (eval o X.env) = eval o X.env := by rfl)
    (hfew : ((backTo cpos (starEach [e] X.env)).all (fun x => !x.1) && (backToKw cpos (keywordEach [] X.env)).all (fun x => x.1.isSome)
      && decide ([e].length + ([] : List Keyword).length + (if ([] : List Keyword).isEmpty then 0 else 1) < 30)) = true := by rfl)
    (hline : (apos.endLine == cpos.line) = true := by rfl) (hs : starEach [e] X.env = (false, eval e X.env) :: starEach [] X.env := by rfl) (hplain : (backTo cpos (starEach [] X.env)).any (·.1) = false := by rfl) :
    PE X (.Call (.Attribute o "append" apos) [e] [] cpos) (tBM K "list" rAppend to ta) := hK ▸ pe_bm PySem.F.plainAttrs_list PySem.F.slot_list_append PySem.F.type_list_append mt_append ho ha hbase hfew hline hs hplain
end
section
variable {X : Cx}
theorem sv (i : Nat) {x : Str} {e : Expr} {te : TE} {pos pos' : Pos} (hN : X.N.Nodup) (he : PE X e te) (hi : X.N[i]? = some x := by rfl) (hx : Loc X.env.scope x := by first | exact Or.inl rfl | exact Or.inr rfl) (hs : swapsWith e (some (.Name x pos')) pos.line X.env = pure false := by rfl) (hf : X.fn x = true ∨ X.env.scope.names.lookup x = some .local := by first | exact .inl rfl | exact .inr rfl) :
    PS X (.Assign [.Name x pos'] e pos) (tAsg te (gName i)) := ps_set hN hi hx he hs hf
theorem gn (i : Nat) {x : Str} {pos : Pos} (hN : X.N.Nodup) (hi : X.N[i]? = some x := by rfl) (hx : Loc X.env.scope x := by first | exact Or.inl rfl | exact Or.inr rfl) (hf : X.fn x = true ∨ X.env.scope.names.lookup x = some .local := by first | exact .inl rfl | exact .inr rfl) : PG X (.Name x pos) (gName i) := pg_name hN hi hx hf
theorem cb {x : Str} {e : Expr} {es : List Expr} {t : TA} {id : String} {r : List V → Hp → VK → Prop} {p pos : Pos} (hc : CallR X (.builtin id) r) (hm : X.mg x = none) (ha : PA X (e :: es) t) (hg : Gl X x := by rfl) (hv : bootBuiltins x = some (.builtin id) := by decide +kernel) (hn : x ≠ "__name__" := by decide) (hdb : (x == ("__debug__" : Str)) = false := by decide)
    (he : starEach (e :: es) X.env = (false, eval e X.env) :: starEach es X.env := by rfl) (hpl : (backTo pos (starEach es X.env)).any (·.1) = false := by rfl) : PE X (.Call (.Name x p) (e :: es) [] pos) (tCB r t) := pe_callB hc hg hm hv ha hn hdb he hpl
theorem ct {x : Str} {e : Expr} {es : List Expr} {t : TA} {T : String} {r : List V → Hp → VK → Prop} {p pos : Pos} (hc : CallR X (.type T) r) (hm : X.mg x = none) (ha : PA X (e :: es) t) (hg : Gl X x := by rfl) (hv : bootBuiltins x = some (.type T) := by decide +kernel) (hn : x ≠ "__name__" := by decide) (hdb : (x == ("__debug__" : Str)) = false := by decide)
    (he : starEach (e :: es) X.env = (false, eval e X.env) :: starEach es X.env := by rfl) (hpl : (backTo pos (starEach es X.env)).any (·.1) = false := by rfl) : PE X (.Call (.Name x p) (e :: es) [] pos) (tCB r t) := pe_callTy hc hg hm hv ha hn hdb he hpl
end
theorem _root_.L2.Room.le {j k : Nat} {A : Around} (r : L2.Room k A) (h : j ≤ k := by first | decide | exact Nat.le_refl _) : L2.Room j A := r.mono h

/-! ### statements, something behind -/
section
variable {K : PySem.W.Frag} {E : L2.WX} {ρ : Rho} {P : Pst} {te ta tb : TE} {t u tz : TS} {tt : TT} {d x y : D} {l : List D} {ds : List D} {tr : TA} {g : TG} {i : Nat} {wi : TI}
theorem wq_asg (hv : EvD K te ρ d) (h : Ws K E tz (ρ.set i (.im d)) P) : Ws K E (tSeq (tAsg te (gName i)) tz) ρ P := ws_seq (ws_asg hv h)
theorem wq_asgO (hv : EvO K te ρ l) (hi : i < ρ.length) (h : Ws K E tz (ρ.set i (.ow l)) P) : Ws K E (tSeq (tAsg te (gName i)) tz) ρ P := ws_seq (ws_asgO hv hi h)
theorem wq_asgC (hv : EvC K te ρ d) (hi : i < ρ.length) (h : Ws K E tz (ρ.set i (.cl d)) P) : Ws K E (tSeq (tAsg te (gName i)) tz) ρ P := ws_seq (ws_asgC hv hi h)
theorem wq_asgG {as : List (Nat × D)} (hv : EvD K te ρ d) (hg : GDs K g d as) (h : Ws K E tz (setD ρ as) P) : Ws K E (tSeq (tAsg te g) tz) ρ P := ws_seq (ws_asgG hv hg h)
theorem wq_asgX {Pr : PrD} (ha : EvA K tr ρ ds) (hi : i < ρ.length) (h : Pr ds (okSl (fun ρ' => Ws K E tz ρ' P) ρ i) (P.ex ρ)) : Ws K E (tSeq (tAsg (tCallS (spD K Pr) (WE E) tr) (gName i)) tz) ρ P := ws_seq (ws_asgX ha hi h)
theorem wq_drop (hv : EvD K te ρ d) (h : Ws K E tz ρ P) : Ws K E (tSeq (tDrop te) tz) ρ P := ws_seq (ws_drop hv h)
theorem wq_dropX {Pr : PrD} (ha : EvA K tr ρ ds) (h : Pr ds (fun s => s ≠ .no → Ws K E tz ρ P) (P.ex ρ)) : Ws K E (tSeq (tDrop (tCallS (spD K Pr) (WE E) tr)) tz) ρ P := ws_seq (ws_dropX ha h)
theorem wq_app (e : ρ[i]? = some (.ow l)) (hv : EvD K te ρ d) (hz : l.length < 100000) (h : Ws K E tz (ρ.set i (.ow (l ++ [d]))) P) : Ws K E (tSeq (tDrop (tBM K "list" rAppend (tVar i) (tCons te tNil))) tz) ρ P := ws_seq (ws_app e hv hz h)
theorem wq_setL {j : Nat} {z : Int} (e : ρ[i]? = some (.ow l)) (hv : EvD K te ρ d) (hi : EvD K tb ρ (.int z)) (hj : ixN l.length z = some j) (h : Ws K E tz (ρ.set i (.ow (l.set j d))) P) : Ws K E (tSeq (tAsg te (gSub (tVar i) tb rSetL)) tz) ρ P := ws_seq (ws_setL e hv hi hj h)
theorem wq_aug {r : R2} {z : D} (e : ρ[i]? = some (.im x)) (hv : EvD K te ρ y) (hr : RvD K r x y z) (h : Ws K E tz (ρ.set i (.im z)) P) : Ws K E (tSeq (tAug i te r) tz) ρ P := ws_seq (ws_aug e hv hr h)
theorem wq_if {b : Bool} (hc : EvT K tt ρ b) (h1 : b = true → Ws K E t ρ { P with nx := fun ρ' => Ws K E tz ρ' P }) (h2 : b = false → Ws K E u ρ { P with nx := fun ρ' => Ws K E tz ρ' P }) : Ws K E (tSeq (tIfS tt t u) tz) ρ P := ws_seq (ws_if hc h1 h2)
theorem wq_when {b : Bool} (hc : EvT K tt ρ b) (h1 : b = true → Ws K E t ρ { P with nx := fun ρ' => Ws K E tz ρ' P }) (h2 : b = false → Ws K E tz ρ P) : Ws K E (tSeq (tIfS tt t tNext) tz) ρ P := ws_seq (ws_if hc h1 fun hb => ws_next (h2 hb))
theorem wq_for (hs : SrcD K wi ρ l) (Iv : Nat → Rho → Prop) (h0 : Iv 0 ρ)
    (hb : ∀ i d ρ', l[i]? = some d → Iv i ρ' → ∃ as, GDs K g d as ∧ Ws K E tb' (setD ρ' as) { P with nx := Iv (i + 1), ct := Iv (i + 1), bk := fun ρ' => Ws K E tz ρ' P })
    (hd : ∀ ρ', Iv l.length ρ' → Ws K E tz ρ' P) : Ws K E (tSeq (tFor wi g tb') tz) ρ P := ws_seq (ws_for hs Iv h0 hb hd)
theorem wq_while {tb : TS} (Iv : Nat → Rho → Prop) (m0 : Nat) (h0 : Iv m0 ρ)
    (hb : ∀ m ρ', Iv m ρ' → ∃ b, EvT K tt ρ' b ∧ (b = true → Ws K E tb ρ' { P with nx := fun ρ2 => ∃ m', m' < m ∧ Iv m' ρ2, ct := fun ρ2 => ∃ m', m' < m ∧ Iv m' ρ2, bk := fun ρ' => Ws K E tz ρ' P }) ∧ (b = false → Ws K E tz ρ' P)) : Ws K E (tSeq (tWhile tt tb) tz) ρ P := ws_seq (ws_while Iv m0 h0 hb)
/-- a fact of the state, written as one likes -/
theorem ws_to {ρ' : Rho} (e : ρ = ρ') (h : Ws K E t ρ' P) : Ws K E t ρ P := e ▸ h
end
/-- bounds by powers of two, small numbers -/
theorem cdiv_small {i j : Int} (h : 0 < j) (h2 : j < 2 ^ 62) : CDivW i j := wide_div (b := 62) h (by omega) (by decide) (by decide)
theorem cmul_left {i j : Int} (h : -(2 ^ 62) < i ∧ i < 2 ^ 62) : CMul i j := .inl ⟨by omega, by omega⟩
theorem cmul_right {i j : Int} (h : -(2 ^ 62) < j ∧ j < 2 ^ 62) : CMul i j := .inr ⟨by omega, by omega⟩
/-! items of plain lists -/
theorem at_map {α : Type} {f : α → D} {l : List α} {k : Nat} {x : α} (h : l[k]? = some x) : atI (l.map f) (k : Int) = some (f x) := atI_nat (by rw [List.getElem?_map, h] <;> rfl)
theorem at_ints {ns : List Int} {k : Nat} (h : k < ns.length) : atI (ns.map D.int) (k : Int) = some (.int (ns.getD k 0)) := at_map (by rw [List.getD_eq_getElem?_getD, List.getElem?_eq_getElem h] <;> rfl)
end FS
set_option Elab.async false
set_option linter.all false
set_option maxRecDepth 100000
set_option maxHeartbeats 4000000
namespace FS
open PySem PySem.Spec PyProof.Rows L2

/-! ### == of data -/
mutual
def D.py : D → PyData
  | .bl b => .bool b
  | .int i => .int i
  | .str x => .str x
  | .tup l => .tuple (D.pyL l)
  | .lst l => .list (D.pyL l)
  | _ => .none
def D.pyL : List D → List PyData
  | [] => []
  | d :: l => D.py d :: D.pyL l
end
mutual
/-- None, truth values, ints, texts, lists and tuples of these, at most n deep -/
def D.flat : Nat → D → Bool
  | _, .non => true
  | _, .bl _ => true
  | _, .int _ => true
  | _, .str x => PyData.strOk x
  | n + 1, .tup l => D.flatL n l
  | n + 1, .lst l => D.flatL n l
  | _, _ => false
def D.flatL : Nat → List D → Bool
  | _, [] => true
  | n, d :: l => D.flat n d && D.flatL n l
end
theorem flatL_iff {n : Nat} : ∀ {l : List D}, D.flatL n l = true ↔ ∀ d ∈ l, d.flat n = true
  | [] => by simp [D.flatL]
  | d :: l => by simp [D.flatL, flatL_iff (l := l)]
theorem pyL_map : ∀ l : List D, D.pyL l = l.map D.py
  | [] => rfl
  | d :: l => by rw [D.pyL, pyL_map l] <;> rfl
mutual
theorem py_can : ∀ (n : Nat) (d : D), d.flat n = true → d.py.canLay0 = true ∧ d.py.depth ≤ n
  | n, .non, _ => by cases n <;> exact ⟨rfl, Nat.zero_le _⟩
  | n, .bl _, _ => ⟨rfl, Nat.zero_le _⟩
  | n, .int _, _ => ⟨rfl, Nat.zero_le _⟩
  | n, .str x, h => by
    refine ⟨?_, Nat.zero_le _⟩
    cases n <;> exact h
  | 0, .tup l, h => by cases h
  | 0, .lst l, h => by cases h
  | n + 1, .tup l, h => by
    obtain ⟨h1, h2⟩ := py_canL n l h
    exact ⟨h1, Nat.succ_le_succ h2⟩
  | n + 1, .lst l, h => by
    obtain ⟨h1, h2⟩ := py_canL n l h
    exact ⟨h1, Nat.succ_le_succ h2⟩
  | n, .scr _, h => by cases n <;> cases h
  | n, .ty _, h => by cases n <;> cases h
  | n, .obj _, h => by cases n <;> cases h
  | n, .ins _ _ _, h => by cases n <;> cases h
  | n, .exc _ _ _ _, h => by cases n <;> cases h
  | n, .dic _ _, h => by cases n <;> cases h
  | n, .slf _ _ _ _, h => by cases n <;> cases h
  | n, .kn _, h => by cases n <;> cases h
theorem py_canL : ∀ (n : Nat) (l : List D), D.flatL n l = true → PyData.canLayAll0 (D.pyL l) = true ∧ PyData.depthAll (D.pyL l) ≤ n
  | n, [], _ => ⟨rfl, Nat.zero_le _⟩
  | n, d :: l, h => by
    have h' : d.flat n = true ∧ D.flatL n l = true := by simpa [D.flatL] using h
    obtain ⟨a1, a2⟩ := py_can n d h'.1
    obtain ⟨b1, b2⟩ := py_canL n l h'.2
    refine ⟨?_, Nat.max_le.mpr ⟨a2, b2⟩⟩
    show (d.py.canLay0 && PyData.canLayAll0 (D.pyL l)) = true
    rw [a1, b1] <;> rfl
end
theorem py_shaped {n : Nat} {d : D} (h : d.flat n = true) (hn : n ≤ 64) : SeqAt.shaped d.py = true := by
  obtain ⟨h1, h2⟩ := py_can n d h
  unfold SeqAt.shaped
  rw [h1, decide_eq_true (Nat.le_trans h2 hn)] <;> rfl
mutual
theorem is_dp {K : PySem.W.Frag} {H : Hp} : ∀ (n : Nat) (d : D) (v : V), d.flat n = true → Is K H d v → Dp K H v d.py
  | n, .non, _, _, h => by rw [show _ = V.non from h]; exact .non
  | n, .bl b, _, _, h => by rw [show _ = V.bl b from h]; exact .bl b
  | n, .int i, _, _, h => by rw [show _ = V.int i from h]; exact .int i
  | n, .str x, _, _, h => by rw [show _ = V.str x from h]; exact .str x
  | 0, .tup l, _, h, _ => by cases h
  | 0, .lst l, _, h, _ => by cases h
  | n + 1, .tup l, _, h, ⟨a, vs, e, h1, h2⟩ => by
    subst e
    exact .tup h1 (is_dpL n l vs h h2)
  | n + 1, .lst l, _, h, ⟨a, vs, e, h1, h2⟩ => by
    subst e
    exact .lst (.inl (.inl h1)) (is_dpL n l vs h h2)
  | n, .scr _, _, h, _ => by cases n <;> cases h
  | n, .ty _, _, h, _ => by cases n <;> cases h
  | n, .obj _, _, h, _ => by cases n <;> cases h
  | n, .ins _ _ _, _, h, _ => by cases n <;> cases h
  | n, .exc _ _ _ _, _, h, _ => by cases n <;> cases h
  | n, .dic _ _, _, h, _ => by cases n <;> cases h
  | n, .slf _ _ _ _, _, h, _ => by cases n <;> cases h
  | n, .kn _, _, h, _ => by cases n <;> cases h
theorem is_dpL {K : PySem.W.Frag} {H : Hp} : ∀ (n : Nat) (l : List D) (vs : List V), D.flatL n l = true → IsL K H l vs → DpAll K H vs (D.pyL l)
  | n, [], _, _, h => by rw [show _ = [] from h]; exact .nil
  | n, d :: l, _, h, ⟨v, r, e, h1, h2⟩ => by
    have h' : d.flat n = true ∧ D.flatL n l = true := by simpa [D.flatL] using h
    rw [e]
    exact .cons (is_dp n d v h'.1 h1) (is_dpL n l r h'.2 h2)
end
section
variable {K : PySem.W.Frag} {ρ : Rho} {x y z d : D} {l : List D} {n : Nat} {te ta tb : TE} {i : Nat} {E : L2.WX} {P : Pst}
theorem rv_eqD (h1 : x.flat n = true) (h2 : y.flat n = true) (hn : n ≤ 64) : RvD K (rEqA K) x y (.bl (PyData.eqv x.py y.py)) := fun H T vx vy Q s i1 i2 q =>
  .inr ⟨x.py, y.py, is_dp n x vx h1 (i1.up s), is_dp n y vy h2 (i2.up s), py_shaped h1 hn, py_shaped h2 hn, q _ rfl⟩
theorem rv_neD (h1 : x.flat n = true) (h2 : y.flat n = true) (hn : n ≤ 64) : RvD K (rNeA K) x y (.bl (!PyData.eqv x.py y.py)) := fun H T vx vy Q s i1 i2 q =>
  .inr ⟨x.py, y.py, is_dp n x vx h1 (i1.up s), is_dp n y vy h2 (i2.up s), py_shaped h1 hn, py_shaped h2 hn, q _ rfl⟩
theorem rv_eqDD (h1 : x.flat n = true) (hn : n ≤ 64) : RvD K (rEqA K) x x (.bl true) := by
  have h := rv_eqD (K := K) h1 h1 hn
  rw [SeqAt.eqv_refl _ (py_can n x h1).1] at h
  exact h
theorem rv_neDD (h1 : x.flat n = true) (hn : n ≤ 64) : RvD K (rNeA K) x x (.bl false) := by
  have h := rv_neD (K := K) h1 h1 hn
  rw [SeqAt.eqv_refl _ (py_can n x h1).1] at h
  exact h

/-! ### isinstance -/
/-- the built-in class of d -/
def D.cls : D → Option String
  | .non => some "NoneType"
  | .bl _ => some "bool"
  | .int _ => some "int"
  | .str _ => some "str"
  | .tup _ => some "tuple"
  | .lst _ => some "list"
  | _ => none
theorem tyx_of {H : Hp} {v : V} {c : String} (h : Is K H d v) (e : d.cls = some c) : TyX K H v (.type c) := by
  cases d with
  | non => cases e; rw [show v = V.non from h]; exact .base .non
  | bl b => cases e; rw [show v = V.bl b from h]; exact .base (.bl b)
  | int b => cases e; rw [show v = V.int b from h]; exact .base (.int b)
  | str b => cases e; rw [show v = V.str b from h]; exact .base (.str b)
  | tup l =>
    cases e
    obtain ⟨a, vs, rfl, h1, _⟩ := h
    rcases h1 with (h1 | ⟨o, h1⟩) | ⟨o, its, n, h1, h2, _⟩
    · exact .base (.tup h1)
    · exact .fTuple h1
    · exact .kTuple h1 h2
  | lst l =>
    cases e
    obtain ⟨a, vs, rfl, h1, _⟩ := h
    exact .base (.lst h1)
  | scr l => cases e
  | ty l => cases e
  | obj l => cases e
  | ins C ns l => cases e
  | exc a od ns l => cases e
  | dic a b => cases e
  | slf a b c f => cases e
  | kn b => cases e
theorem rc_isi {c t : String} {r : Bool} (e : d.cls = some c) (hk : kitB c t = some r) : RcD K (rIsi K) [d, .ty t] (.bl r) := fun H T vs Q s h q => by
  obtain ⟨v, w, rfl, h1, h2⟩ := isL_two h
  exact ⟨v, .ty t, .type c, .type t, r, by rw [show w = V.ty t from h2], .ty t, tyx_of (h1.up s) e, kit_ty hk, q _ rfl⟩

end
theorem rv_p6 {K : PySem.W.Frag} : RvD K rPowA (.int 10) (.int 6) (.int 1000000) := rv_pow ⟨by decide, by decide, by decide⟩ (by decide)
theorem rv_p7 {K : PySem.W.Frag} : RvD K rPowA (.int 10) (.int 7) (.int 10000000) := rv_pow ⟨by decide, by decide, by decide⟩ (by decide)
theorem rv_p8 {K : PySem.W.Frag} : RvD K rPowA (.int 10) (.int 8) (.int 100000000) := rv_pow ⟨by decide, by decide, by decide⟩ (by decide)
theorem rv_p12 {K : PySem.W.Frag} : RvD K rPowA (.int 10) (.int 12) (.int 1000000000000) := rv_pow ⟨by decide, by decide, by decide⟩ (by decide)
theorem rv_p18 {K : PySem.W.Frag} : RvD K rPowA (.int 10) (.int 18) (.int 1000000000000000000) := rv_pow ⟨by decide, by decide, by decide⟩ (by decide)
theorem rv_p20 {K : PySem.W.Frag} : RvD K rPowA (.int 10) (.int 20) (.int 100000000000000000000) := rv_pow ⟨by decide, by decide, by decide⟩ (by decide)
theorem rv_p25 {K : PySem.W.Frag} : RvD K rPowA (.int 10) (.int 25) (.int 10000000000000000000000000) := rv_pow ⟨by decide, by decide, by decide⟩ (by decide)
theorem rv_p30 {K : PySem.W.Frag} : RvD K rPowA (.int 10) (.int 30) (.int 1000000000000000000000000000000) := rv_pow ⟨by decide, by decide, by decide⟩ (by decide)
theorem rv_p39 {K : PySem.W.Frag} : RvD K rPowA (.int 10) (.int 39) (.int 1000000000000000000000000000000000000000) := rv_pow ⟨by decide, by decide, by decide⟩ (by decide)
theorem rv_p40 {K : PySem.W.Frag} : RvD K rPowA (.int 10) (.int 40) (.int 10000000000000000000000000000000000000000) := rv_pow ⟨by decide, by decide, by decide⟩ (by decide)
theorem rv_p60 {K : PySem.W.Frag} : RvD K rPowA (.int 10) (.int 60) (.int 1000000000000000000000000000000000000000000000000000000000000) := rv_pow ⟨by decide, by decide, by decide⟩ (by decide)
theorem at_getD {ns : List Int} {k : Int} (h0 : 0 ≤ k) (h : k < ns.length) : atI (ns.map D.int) k = some (.int (ns.getD k.toNat 0)) := by
  have e : k = ((k.toNat : Nat) : Int) := by omega
  have := at_ints (ns := ns) (k := k.toNat) (by omega)
  rw [← e] at this
  exact this
theorem atI_getD {ns : List Int} {k : Int} (h0 : 0 ≤ k) (h : k < ns.length) : atI ns k = some (ns.getD k.toNat 0) := by
  unfold atI ixN
  rw [if_pos h0, if_pos h]
  show ns[k.toNat]? = _
  rw [List.getD_eq_getElem?_getD, List.getElem?_eq_getElem (by omega)]
  rfl
theorem ev_ty {K : PySem.W.Frag} {ρ : Rho} {n : String} : EvD K (tC (.ty n)) ρ (.ty n) := ev_c fun _ => rfl
section
variable {K : PySem.W.Frag} {E : L2.WX} {ρ : Rho} {P : Pst} {t u tz : TS} {tt : TT} {b : Bool}
theorem ws_ifT (hc : EvT K tt ρ b) (e : b = true) (h : Ws K E t ρ P) : Ws K E (tIfS tt t u) ρ P := ws_if hc (fun _ => h) (fun z => by rw [e] at z; cases z)
theorem ws_ifF (hc : EvT K tt ρ b) (e : b = false) (h : Ws K E u ρ P) : Ws K E (tIfS tt t u) ρ P := ws_if hc (fun z => by rw [e] at z; cases z) (fun _ => h)
theorem wq_ifT (hc : EvT K tt ρ b) (e : b = true) (h : Ws K E t ρ { P with nx := fun ρ' => Ws K E tz ρ' P }) : Ws K E (tSeq (tIfS tt t u) tz) ρ P := ws_seq (ws_ifT hc e h)
theorem wq_ifF (hc : EvT K tt ρ b) (e : b = false) (h : Ws K E u ρ { P with nx := fun ρ' => Ws K E tz ρ' P }) : Ws K E (tSeq (tIfS tt t u) tz) ρ P := ws_seq (ws_ifF hc e h)
theorem wq_noif (hc : EvT K tt ρ b) (e : b = false) (h : Ws K E tz ρ P) : Ws K E (tSeq (tIfS tt t tNext) tz) ρ P := ws_seq (ws_ifF hc e (ws_next h))
end
/-- a def of which nothing is said -/
theorem Df.none {P : Program} {w : World} {K : PySem.W.Frag} {mg : Str → Option Value} {base : Heap} {x : Str} {st : Stmt} {ps : List Str} {CX : CXT} {k : Nat} (F : Df K mg x st ps) : FnG P w K mg base CX k x ps (spD K fun _ _ _ => False) := by
  obtain ⟨f, fd, F, hm, hb⟩ := F.ex
  exact ⟨f, fd, ⟨fun vs H Q E h => by
    obtain ⟨_, _, _, _, _, _, _, h, _⟩ := h
    exact h.elim, fun A outer s H args us vs Q E hr he hb hv h => by
    obtain ⟨_, _, _, _, _, _, _, h, _⟩ := h
    exact h.elim⟩, hm, F.kp, hb⟩
/-! data of ints, None, tuples and lists, at most n levels deep -/
mutual
def D.pl : Nat → D → Bool
  | _, .non => true
  | _, .int _ => true
  | n + 1, .tup l => D.plL n l && decide (l.length ≤ 100000)
  | n + 1, .lst l => D.plL n l && decide (l.length ≤ 100000)
  | _, _ => false
def D.plL : Nat → List D → Bool
  | _, [] => true
  | n, d :: l => D.pl n d && D.plL n l
end
theorem D.plL_get {n : Nat} : ∀ {l : List D} {i : Nat} {d : D}, D.plL n l = true → l[i]? = some d → D.pl n d = true
  | [], _, _, _, h => by simp at h
  | x :: l, 0, d, h, e => by
    rw [D.plL, Bool.and_eq_true] at h
    cases e
    exact h.1
  | x :: l, i + 1, d, h, e => by
    rw [D.plL, Bool.and_eq_true] at h
    exact D.plL_get h.2 e
theorem D.plL_of {n : Nat} : ∀ {l : List D}, (∀ d ∈ l, D.pl n d = true) → D.plL n l = true
  | [], _ => by simp [D.plL]
  | x :: l, h => by rw [D.plL, h x List.mem_cons_self, D.plL_of fun d hd => h d (List.mem_cons_of_mem _ hd)] <;> rfl
theorem D.pl_int {n : Nat} {i : Int} : D.pl n (.int i) = true := by cases n <;> rfl
theorem D.pl_non {n : Nat} : D.pl n .non = true := by cases n <;> rfl
theorem isi_non_int {K : PySem.W.Frag} : RcD K (rIsi K) [D.non, .ty "int"] (.bl false) := rc_isi rfl (by decide +kernel)
theorem isi_non_bool {K : PySem.W.Frag} : RcD K (rIsi K) [D.non, .ty "bool"] (.bl false) := rc_isi rfl (by decide +kernel)
theorem isi_non_str {K : PySem.W.Frag} : RcD K (rIsi K) [D.non, .ty "str"] (.bl false) := rc_isi rfl (by decide +kernel)
theorem isi_non_tuple {K : PySem.W.Frag} : RcD K (rIsi K) [D.non, .ty "tuple"] (.bl false) := rc_isi rfl (by decide +kernel)
theorem isi_non_list {K : PySem.W.Frag} : RcD K (rIsi K) [D.non, .ty "list"] (.bl false) := rc_isi rfl (by decide +kernel)
theorem isi_bl_int {K : PySem.W.Frag} {b : Bool} : RcD K (rIsi K) [D.bl b, .ty "int"] (.bl true) := rc_isi rfl (by decide +kernel)
theorem isi_bl_bool {K : PySem.W.Frag} {b : Bool} : RcD K (rIsi K) [D.bl b, .ty "bool"] (.bl true) := rc_isi rfl (by decide +kernel)
theorem isi_bl_str {K : PySem.W.Frag} {b : Bool} : RcD K (rIsi K) [D.bl b, .ty "str"] (.bl false) := rc_isi rfl (by decide +kernel)
theorem isi_bl_tuple {K : PySem.W.Frag} {b : Bool} : RcD K (rIsi K) [D.bl b, .ty "tuple"] (.bl false) := rc_isi rfl (by decide +kernel)
theorem isi_bl_list {K : PySem.W.Frag} {b : Bool} : RcD K (rIsi K) [D.bl b, .ty "list"] (.bl false) := rc_isi rfl (by decide +kernel)
theorem isi_int_int {K : PySem.W.Frag} {i : Int} : RcD K (rIsi K) [D.int i, .ty "int"] (.bl true) := rc_isi rfl (by decide +kernel)
theorem isi_int_bool {K : PySem.W.Frag} {i : Int} : RcD K (rIsi K) [D.int i, .ty "bool"] (.bl false) := rc_isi rfl (by decide +kernel)
theorem isi_int_str {K : PySem.W.Frag} {i : Int} : RcD K (rIsi K) [D.int i, .ty "str"] (.bl false) := rc_isi rfl (by decide +kernel)
theorem isi_int_tuple {K : PySem.W.Frag} {i : Int} : RcD K (rIsi K) [D.int i, .ty "tuple"] (.bl false) := rc_isi rfl (by decide +kernel)
theorem isi_int_list {K : PySem.W.Frag} {i : Int} : RcD K (rIsi K) [D.int i, .ty "list"] (.bl false) := rc_isi rfl (by decide +kernel)
theorem isi_str_int {K : PySem.W.Frag} {t : Str} : RcD K (rIsi K) [D.str t, .ty "int"] (.bl false) := rc_isi rfl (by decide +kernel)
theorem isi_str_bool {K : PySem.W.Frag} {t : Str} : RcD K (rIsi K) [D.str t, .ty "bool"] (.bl false) := rc_isi rfl (by decide +kernel)
theorem isi_str_str {K : PySem.W.Frag} {t : Str} : RcD K (rIsi K) [D.str t, .ty "str"] (.bl true) := rc_isi rfl (by decide +kernel)
theorem isi_str_tuple {K : PySem.W.Frag} {t : Str} : RcD K (rIsi K) [D.str t, .ty "tuple"] (.bl false) := rc_isi rfl (by decide +kernel)
theorem isi_str_list {K : PySem.W.Frag} {t : Str} : RcD K (rIsi K) [D.str t, .ty "list"] (.bl false) := rc_isi rfl (by decide +kernel)
theorem isi_tup_int {K : PySem.W.Frag} {l : List D} : RcD K (rIsi K) [D.tup l, .ty "int"] (.bl false) := rc_isi rfl (by decide +kernel)
theorem isi_tup_bool {K : PySem.W.Frag} {l : List D} : RcD K (rIsi K) [D.tup l, .ty "bool"] (.bl false) := rc_isi rfl (by decide +kernel)
theorem isi_tup_str {K : PySem.W.Frag} {l : List D} : RcD K (rIsi K) [D.tup l, .ty "str"] (.bl false) := rc_isi rfl (by decide +kernel)
theorem isi_tup_tuple {K : PySem.W.Frag} {l : List D} : RcD K (rIsi K) [D.tup l, .ty "tuple"] (.bl true) := rc_isi rfl (by decide +kernel)
theorem isi_tup_list {K : PySem.W.Frag} {l : List D} : RcD K (rIsi K) [D.tup l, .ty "list"] (.bl false) := rc_isi rfl (by decide +kernel)
theorem isi_lst_int {K : PySem.W.Frag} {l : List D} : RcD K (rIsi K) [D.lst l, .ty "int"] (.bl false) := rc_isi rfl (by decide +kernel)
theorem isi_lst_bool {K : PySem.W.Frag} {l : List D} : RcD K (rIsi K) [D.lst l, .ty "bool"] (.bl false) := rc_isi rfl (by decide +kernel)
theorem isi_lst_str {K : PySem.W.Frag} {l : List D} : RcD K (rIsi K) [D.lst l, .ty "str"] (.bl false) := rc_isi rfl (by decide +kernel)
theorem isi_lst_tuple {K : PySem.W.Frag} {l : List D} : RcD K (rIsi K) [D.lst l, .ty "tuple"] (.bl false) := rc_isi rfl (by decide +kernel)
theorem isi_lst_list {K : PySem.W.Frag} {l : List D} : RcD K (rIsi K) [D.lst l, .ty "list"] (.bl true) := rc_isi rfl (by decide +kernel)
end FS
set_option Elab.async false
set_option linter.all false
set_option maxRecDepth 100000
set_option maxHeartbeats 4000000
namespace FS
open PySem PySem.Spec PyProof.Rows L2

/-! ### parts of open trees, by path -/
section
variable {K : PySem.W.Frag} {E : L2.WX} {ρ : Rho} {P : Pst} {M X : Op} {T0 H H' T T' : Hp} {σ : L2.St} {te ta tb to : TE} {t u : TS} {d s x y : D} {l : List D} {ds : List D} {tr : TA} {i j : Nat} {π : List Nat}
theorem EnX.spot (h : EnX K M T0 H T σ ρ X) (e : ρ[i]? = some (.cl d)) (hd : D.at π d = some s) : ∃ v u Ls L0, σ[i]? = some (some v) ∧ IsC K H s u Ls ∧ Nav T π v u ∧ EnX K M T0 H T σ (ρ.set i .no) (Ls ++ (L0 ++ X)) ∧
    ∀ H' T' X' s' Ls', Same H H' → EnX K M T0 H' T' σ (ρ.set i .no) (Ls' ++ (L0 ++ X')) → IsC K H' s' u Ls' → EnX K M T0 H' T' σ (ρ.set i (.cl (D.put π d s'))) X' := by
  obtain ⟨x, Lt, h1, h2, h3⟩ := h.take e
  obtain ⟨v, rfl, hc⟩ := h2.cl1
  obtain ⟨u, Ls, L0, k1, k2, k3, k4⟩ := hc.focus hd
  have hi : i < (ρ.set i .no).length := by rw [List.length_set]; exact (List.getElem?_eq_some_iff.mp e).1
  refine ⟨v, u, Ls, L0, h1, k1, k3 T fun x hx => ?_, ?_, fun H' T' X' s' Ls' sm h' ic => ?_⟩
  · obtain ⟨L, r, q, f⟩ := h3.ex
    exact q.at_ x (List.mem_append_left _ (List.mem_append_left _ hx))
  · refine h3.perm ?_
    rw [← List.append_assoc]
    exact k2.append_right X
  · obtain ⟨L', q1, q2⟩ := k4 H' s' Ls' sm ic
    have h'' : EnX K M T0 H' T' σ (ρ.set i .no) (L' ++ X') := h'.perm (by
      rw [← List.append_assoc]
      exact (q2.symm.append_right X'))
    have q3 := EnX.setC (i := i) h'' hi q1
    rw [set_self h1, List.set_set] at q3
    exact q3
theorem EnX.here (h : EnX K M T0 H T σ ρ X) {Ls R : Op} (e : X = Ls ++ R) : ∀ x ∈ Ls, T x.1 = some x.2 := fun x hx => by
  obtain ⟨L, r, q, f⟩ := h.ex
  exact q.at_ x (List.mem_append_left _ (by rw [e]; exact List.mem_append_left _ hx))
/-- te is the part at π of the open tree in slot i -/
def EvL (K : PySem.W.Frag) (te : TE) (ρ : Rho) (i : Nat) (π : List Nat) : Prop := ∀ (M : Op) (T0 H T : Hp) (σ : L2.St) (X : Op) (Q : VK), EnX K M T0 H T σ ρ X → (∀ u H' T', Same H H' → Same T T' → EnX K M T0 H' T' σ ρ X → (∃ v, σ[i]? = some (some v) ∧ Nav T' π v u) → Q u T') → te σ T Q
theorem el_var (e : ρ[i]? = some (.cl d)) : EvL K (tVar i) ρ i [] := fun M T0 H T σ X Q h q => by
  obtain ⟨v, u, Ls, L0, h1, h2, h3, _⟩ := h.spot (π := []) e rfl
  exact ⟨v, h1, q v H T (Same.refl _) (Same.refl _) h ⟨v, h1, rfl⟩⟩
theorem Nav.snoc {v a : V} : ∀ {π : List Nat} {v w : V} {a : Addr}, Nav T π v (.ref a) → ((∃ vs, (T a = some (.lst vs) ∨ T a = some (.tup vs)) ∧ vs[j]? = some w) ∨ (∃ C dx fs n, T a = some (.ins C dx fs) ∧ fs[j]? = some (n, w)) ∨ (∃ kvs k, T a = some (.dK kvs) ∧ kvs[j]? = some (k, w))) → Nav T (π ++ [j]) v w
  | [], v, w, a, h, q => ⟨a, w, h, q, rfl⟩
  | k :: π, v, w, a, ⟨b, z, e, h, n⟩, q => ⟨b, z, e, h, Nav.snoc (v := v) (a := v) n q⟩
theorem at_snoc : ∀ {π : List Nat} {d s t : D}, D.at π d = some s → D.at [j] s = some t → D.at (π ++ [j]) d = some t
  | [], d, s, t, e, h => by
    have e : d = s := Option.some.inj e
    rw [e]
    exact h
  | k :: π, d, s, t, e, h => by
    cases d with
    | tup l =>
      obtain ⟨x, hx, e⟩ := Option.bind_eq_some_iff.mp (show (l[k]?).bind (D.at π) = some s from e)
      exact Option.bind_eq_some_iff.mpr ⟨x, hx, at_snoc e h⟩
    | lst l =>
      obtain ⟨x, hx, e⟩ := Option.bind_eq_some_iff.mp (show (l[k]?).bind (D.at π) = some s from e)
      exact Option.bind_eq_some_iff.mpr ⟨x, hx, at_snoc e h⟩
    | ins C ns l =>
      have e : (if k < ns.length then (l[k]?).bind (D.at π) else none) = some s := e
      by_cases hk : k < ns.length
      · rw [if_pos hk] at e
        obtain ⟨x, hx, e⟩ := Option.bind_eq_some_iff.mp e
        show (if k < ns.length then (l[k]?).bind (D.at (π ++ [j])) else none) = some t
        rw [if_pos hk]
        exact Option.bind_eq_some_iff.mpr ⟨x, hx, at_snoc e h⟩
      · rw [if_neg hk] at e
        cases e
    | slf a C ns l =>
      have e : (if k < ns.length then (l[k]?).bind (D.at π) else none) = some s := e
      by_cases hk : k < ns.length
      · rw [if_pos hk] at e
        obtain ⟨x, hx, e⟩ := Option.bind_eq_some_iff.mp e
        show (if k < ns.length then (l[k]?).bind (D.at (π ++ [j])) else none) = some t
        rw [if_pos hk]
        exact Option.bind_eq_some_iff.mpr ⟨x, hx, at_snoc e h⟩
      · rw [if_neg hk] at e
        cases e
    | dic ns l =>
      have e : (if k < ns.length then (l[k]?).bind (D.at π) else none) = some s := e
      by_cases hk : k < ns.length
      · rw [if_pos hk] at e
        obtain ⟨x, hx, e⟩ := Option.bind_eq_some_iff.mp e
        show (if k < ns.length then (l[k]?).bind (D.at (π ++ [j])) else none) = some t
        rw [if_pos hk]
        exact Option.bind_eq_some_iff.mpr ⟨x, hx, at_snoc e h⟩
      · rw [if_neg hk] at e
        cases e
    | non => cases e
    | bl b => cases e
    | int b => cases e
    | str b => cases e
    | scr b => cases e
    | ty b => cases e
    | obj b => cases e
    | exc a b c f => cases e
    | kn b => cases e
theorem atI_of {vs : List V} {k : Int} {w : V} (h : ixN vs.length k = some j) (e : vs[j]? = some w) : atI vs k = some w := by
  unfold atI
  rw [h]
  exact e
/-- PATH[k], a list -/
theorem el_ix {k : Int} (e : ρ[i]? = some (.cl d)) (ha : EvL K ta ρ i π) (hd : D.at π d = some (.lst l)) (hb : EvD K tb ρ (.int k)) (hj : ixN l.length k = some j) : EvL K (tOp (rIx K) ta tb) ρ i (π ++ [j]) := fun M T0 H T σ X Q h q =>
  ha M T0 H T σ X _ h fun u H1 T1 s1 t1 e1 ⟨v, n1, n2⟩ => hb M T0 H1 T1 σ X _ e1 fun w H2 T2 s2 t2 e2 iw => by
    obtain ⟨v', u', Ls, L0, h1, ⟨a, vs, Lt, eu, eL, hl⟩, h3, h4, _⟩ := e2.spot e hd
    rw [n1] at h1
    cases h1
    have eu' := Nav.eq (n2.up t2) h3
    subst eu'
    subst eu
    have hT : T2 a = some (.lst vs) := h4.here rfl (a, .lst vs) (by rw [eL]; exact List.mem_cons_self)
    have hlen := hl.len
    have hjl : j < vs.length := by
      rw [hlen]
      unfold ixN at hj
      split at hj
      · split at hj
        · cases hj
          omega
        · cases hj
      · split at hj
        · cases hj
          omega
        · cases hj
    obtain ⟨z, hz⟩ := get_some hjl
    refine .inl ⟨a, vs, k, z, rfl, iw, .inl (.inl hT), atI_of (by rw [hlen]; exact hj) hz, q z H2 T2 (s1.trans s2) (t1.trans t2) e2 ⟨v, n1, ?_⟩⟩
    exact Nav.snoc (v := z) (a := z) h3 (.inl ⟨vs, .inl hT, hz⟩)
/-- PATH[k], a tuple -/
theorem el_ixT {k : Int} (e : ρ[i]? = some (.cl d)) (ha : EvL K ta ρ i π) (hd : D.at π d = some (.tup l)) (hb : EvD K tb ρ (.int k)) (hj : ixN l.length k = some j) : EvL K (tOp (rIx K) ta tb) ρ i (π ++ [j]) := fun M T0 H T σ X Q h q =>
  ha M T0 H T σ X _ h fun u H1 T1 s1 t1 e1 ⟨v, n1, n2⟩ => hb M T0 H1 T1 σ X _ e1 fun w H2 T2 s2 t2 e2 iw => by
    obtain ⟨v', u', Ls, L0, h1, ⟨a, vs, Lt, eu, eL, hl⟩, h3, h4, _⟩ := e2.spot e hd
    rw [n1] at h1
    cases h1
    have eu' := Nav.eq (n2.up t2) h3
    subst eu'
    subst eu
    have hT : T2 a = some (.tup vs) := h4.here rfl (a, .tup vs) (by rw [eL]; exact List.mem_cons_self)
    have hlen := hl.len
    have hjl : j < vs.length := by
      rw [hlen]
      unfold ixN at hj
      split at hj
      · split at hj
        · cases hj
          omega
        · cases hj
      · split at hj
        · cases hj
          omega
        · cases hj
    obtain ⟨z, hz⟩ := get_some hjl
    refine .inr (.inl ⟨a, vs, k, z, rfl, iw, .inl (.inl hT), atI_of (by rw [hlen]; exact hj) hz, q z H2 T2 (s1.trans s2) (t1.trans t2) e2 ⟨v, n1, ?_⟩⟩)
    exact Nav.snoc (v := z) (a := z) h3 (.inl ⟨vs, .inr hT, hz⟩)
/-- which field -/
def fldAt (ns : List Str) (f : Str) : Option Nat := ns.findIdx? (· == f)
theorem fld_look {α : Type} : ∀ {ns : List Str} {vs : List α} {f : Str} {j : Nat} {w : α}, fldAt ns f = some j → vs[j]? = some w → (ns.zip vs).lookup f = some w ∧ ∃ n, (ns.zip vs)[j]? = some (n, w)
  | [], _, _, _, _, h, _ => by simp [fldAt] at h
  | n :: ns, [], _, _, _, _, h => by simp at h
  | n :: ns, v :: vs, f, j, w, h, e => by
    unfold fldAt at h
    rw [List.findIdx?_cons] at h
    by_cases hn : (n == f) = true
    · rw [if_pos hn] at h
      cases h
      have hn' : n = f := by simpa using hn
      have e : v = w := Option.some.inj e
      subst e
      subst hn'
      exact ⟨by simp [List.lookup], ⟨n, rfl⟩⟩
    · rw [if_neg hn] at h
      obtain ⟨k, hk, ek⟩ := Option.map_eq_some_iff.mp h
      subst ek
      obtain ⟨h1, m, h2⟩ := fld_look (ns := ns) (vs := vs) (f := f) (j := k) (w := w) hk (by simpa using e)
      have hn' : (f == n) = false := by
        have : ¬ n = f := by simpa using hn
        simpa using fun z => this z.symm
      refine ⟨?_, ⟨m, by simpa using h2⟩⟩
      rw [List.zip_cons_cons, List.lookup_cons, hn']
      exact h1
theorem fldAt_lt {ns : List Str} {f : Str} (h : fldAt ns f = some j) : j < ns.length := by
  unfold fldAt at h
  exact (List.findIdx?_eq_some_iff_findIdx_eq.mp h).1
/-- PATH.f -/
theorem el_fld {C : Addr} {ns : List Str} {f : Str} (e : ρ[i]? = some (.cl d)) (ha : EvL K ta ρ i π) (hd : D.at π d = some (.ins C ns l)) (hj : fldAt ns f = some j) (hl0 : j < l.length) (c : Cls K C) (n : NoAttr K C f) : EvL K (tFld K ta f) ρ i (π ++ [j]) := fun M T0 H T σ X Q h q =>
  ha M T0 H T σ X _ h fun u H1 T1 s1 t1 e1 ⟨v, n1, n2⟩ => by
    obtain ⟨v', u', Ls, L0, h1, ⟨a, dx, vs, Lt, eu, eL, hl⟩, h3, h4, _⟩ := e1.spot e hd
    rw [n1] at h1
    cases h1
    have eu' := Nav.eq n2 h3
    subst eu'
    subst eu
    have hT : T1 a = some (.ins C dx (ns.zip vs)) := h4.here rfl (a, .ins C dx (ns.zip vs)) (by rw [eL]; exact List.mem_cons_self)
    obtain ⟨z, hz⟩ := get_some (l := vs) (i := j) (by rw [hl.len]; exact hl0)
    obtain ⟨g1, m, g2⟩ := fld_look hj hz
    exact ⟨a, C, dx, _, z, rfl, hT, c, n, g1, q z H1 T1 s1 t1 e1 ⟨v, n1, Nav.snoc (v := z) (a := z) h3 (.inr (.inl ⟨C, dx, _, m, hT, g2⟩))⟩⟩
/-- what is read there now -/
theorem en_spot (e : ρ[i]? = some (.cl d)) (ha : EvL K ta ρ i π) (hd : D.at π d = some s) : EvN K ta ρ s := fun M T0 H T σ X Q h q =>
  ha M T0 H T σ X _ h fun u H1 T1 s1 t1 e1 ⟨v, n1, n2⟩ => by
    obtain ⟨v', u', Ls, L0, h1, hc, h3, h4, _⟩ := e1.spot e hd
    rw [n1] at h1
    cases h1
    have eu' := Nav.eq n2 h3
    subst eu'
    exact q u H1 T1 s1 t1 e1 (IsC.is s u Ls (hc.up e1.same) (h4.here rfl))
theorem ev_spot (e : ρ[i]? = some (.cl d)) (ha : EvL K ta ρ i π) (hd : D.at π d = some (.kn s)) : EvD K ta ρ s := fun M T0 H T σ X Q h q =>
  ha M T0 H T σ X _ h fun u H1 T1 s1 t1 e1 ⟨v, n1, n2⟩ => by
    obtain ⟨v', u', Ls, L0, h1, hc, h3, h4, _⟩ := e1.spot e hd
    rw [n1] at h1
    cases h1
    have eu' := Nav.eq n2 h3
    subst eu'
    exact q u H1 T1 s1 t1 e1 hc.1
theorem ev_spotS (e : ρ[i]? = some (.cl d)) (ha : EvL K ta ρ i π) (hd : D.at π d = some s) (hs : s.sc = true) : EvD K ta ρ s := ev_now (en_spot e ha hd) hs

/-! ### changes in place -/
/-- PATH.append(e) -/
theorem ws_appP (e : ρ[i]? = some (.cl d)) (hp : EvL K to ρ i π) (hd : D.at π d = some (.lst l)) (hv : EvC K te ρ x) (hz : l.length < 100000) (h : P.nx (ρ.set i (.cl (D.put π d (.lst (l ++ [x])))))) :
    Ws K E (tDrop (tBM K "list" rAppend to (tCons te tNil))) ρ P := fun M T0 H T σ Dn en k =>
  hp M T0 H T σ [] _ en fun u H1 T1 s1 t1 e1 ⟨v, n1, n2⟩ => by
    obtain ⟨v', u', Ls, L0, h1, ⟨a, vs, Lt, eu, eL, hl⟩, h3, h4, _⟩ := e1.spot e hd
    rw [n1] at h1
    cases h1
    have eu' := Nav.eq n2 h3
    subst eu'
    subst eu
    have hT : T1 a = some (.lst vs) := h4.here rfl (a, .lst vs) (by rw [eL]; exact List.mem_cons_self)
    refine ⟨.inl ⟨rfl, vs, .inl (.inl hT)⟩, hv M T0 H1 T1 σ [] _ e1 fun w Lw H2 T2 s2 t2 e2 iw => ?_⟩
    obtain ⟨v2, u2, Ls2, L02, g1, ⟨a2, vs2, Lt2, eu2, eL2, hl2⟩, g3, g4, g5⟩ := e2.spot e hd
    rw [n1] at g1
    cases g1
    have ea := Nav.eq (h3.up t2) g3
    rw [eu2] at ea
    cases ea
    subst eu2
    subst eL2
    have hT2 : T2 a = some (.lst vs2) := g4.here rfl (a, .lst vs2) List.mem_cons_self
    refine ⟨a, vs2, w, rfl, rfl, hT2, by rw [hl2.len]; exact Nat.lt_of_lt_of_le hz (by decide), k.nx _ σ H2 _ h (s1.trans s2) ?_⟩
    refine g5 H2 _ [] (.lst (l ++ [x])) ((a, .lst (vs2 ++ [w])) :: (Lt2 ++ Lw)) (Same.refl _) ?_ ⟨a, _, _, rfl, rfl, hl2.app (.one iw)⟩
    have g6 := EnX.write (o' := .lst (vs2 ++ [w])) g4
    refine g6.perm (List.Perm.cons _ ?_)
    show List.Perm (Lt2 ++ (L02 ++ (Lw ++ []))) ((Lt2 ++ Lw) ++ (L02 ++ []))
    rw [List.append_nil, List.append_nil, List.append_assoc]
    exact List.Perm.append_left _ List.perm_append_comm
/-- PATH[k] = e -/
theorem ws_setP {k : Int} {y0 : D} (e : ρ[i]? = some (.cl d)) (hv : EvC K te ρ x) (hp : EvL K to ρ i π) (hd : D.at π d = some (.lst l)) (hb : EvD K tb ρ (.int k)) (hj : ixN l.length k = some j) (h0 : l[j]? = some y0) (h : P.nx (ρ.set i (.cl (D.put π d (.lst (l.set j x)))))) :
    Ws K E (tAsg te (gSub to tb rSetL)) ρ P := fun M T0 H T σ Dn en kk =>
  hv M T0 H T σ [] _ en fun w Lw H0 T00 s0 t0 e0 iw => hp M T0 H0 T00 σ _ _ e0 fun u H1 T1 s1 t1 e1 ⟨v, n1, n2⟩ => hb M T0 H1 T1 σ _ _ e1 fun z H2 T2 s2 t2 e2 iz => by
    obtain ⟨v2, u2, Ls2, L02, g1, ⟨a2, vs2, Lt2, eu2, eL2, hl2⟩, g3, g4, g5⟩ := e2.spot e hd
    rw [n1] at g1
    cases g1
    have ea := Nav.eq (n2.up t2) g3
    subst ea
    subst eu2
    subst eL2
    have hT2 : T2 a2 = some (.lst vs2) := g4.here rfl (a2, .lst vs2) List.mem_cons_self
    obtain ⟨w0, Lo, L1, L2, q1, q2, q3, q4⟩ := hl2.part h0
    refine ⟨a2, vs2, k, j, rfl, iz, hT2, by rw [hl2.len]; exact hj, kk.nx _ σ H2 _ h (s0.trans (s1.trans s2)) ?_⟩
    refine g5 H2 _ [] (.lst (l.set j x)) ((a2, .lst (vs2.set j w)) :: (L1 ++ (Lw ++ L2))) (Same.refl _) ?_ ⟨a2, _, _, rfl, rfl, q4 H2 x w Lw (Same.refl _) (iw.up (s1.trans s2))⟩
    have g6 := EnX.write (o' := .lst (vs2.set j w)) g4
    subst q3
    have sb : List.Sublist ((a2, HO.lst (vs2.set j w)) :: ((L1 ++ L2) ++ (L02 ++ (Lw ++ [])))) (((a2, HO.lst (vs2.set j w)) :: (L1 ++ (Lo ++ L2))) ++ (L02 ++ (Lw ++ []))) := by
      refine List.Sublist.cons_cons _ ?_
      exact (((List.Sublist.refl _).append (List.sublist_append_right _ _))).append (List.Sublist.refl _)
    refine (g6.sub sb).perm (List.Perm.cons _ ?_)
    show List.Perm ((L1 ++ L2) ++ (L02 ++ (Lw ++ []))) ((L1 ++ (Lw ++ L2)) ++ (L02 ++ []))
    have e1 : (L1 ++ L2) ++ (L02 ++ (Lw ++ [])) = L1 ++ ((L2 ++ L02) ++ Lw) := by simp [List.append_assoc]
    have e2 : (L1 ++ (Lw ++ L2)) ++ (L02 ++ []) = L1 ++ (Lw ++ (L2 ++ L02)) := by simp [List.append_assoc]
    rw [e1, e2]
    exact List.Perm.append_left _ List.perm_append_comm
end
/-! ### fields, methods, making -/
section
variable {K : PySem.W.Frag} {E : L2.WX} {XE' : XK} {ρ : Rho} {P : Pst} {M X : Op} {T0 H H' T T' : Hp} {σ : L2.St} {te ta tb to : TE} {t u : TS} {d s x y z : D} {l : List D} {ds : List D} {tr : TA} {i j : Nat} {C : Addr} {ns : List Str} {f : Str}
theorem is_fld {v : V} {dd : D} (h : Is K H (.ins C ns l) v) (hj : fldAt ns f = some j) (hd : l[j]? = some dd) : ∃ a dx fs w, v = .ref a ∧ H a = some (.ins C dx fs) ∧ fs.lookup f = some w ∧ Is K H dd w := by
  obtain ⟨a, dx, vs, rfl, h1, h2⟩ := h
  obtain ⟨w, e1, e2⟩ := h2.get hd
  exact ⟨a, dx, _, w, rfl, h1, (fld_look hj e1).1, e2⟩
theorem ev_fld (ha : EvD K ta ρ (.ins C ns l)) (hj : fldAt ns f = some j) (hd : l[j]? = some d) (c : Cls K C) (n : NoAttr K C f) : EvD K (tFld K ta f) ρ d := fun M T0 H T σ X Q h q =>
  ha M T0 H T σ X _ h fun v H1 T1 s1 t1 e1 i1 => by
    obtain ⟨a, dx, fs, w, rfl, g1, g2, g3⟩ := is_fld i1 hj hd
    exact ⟨a, C, dx, fs, w, rfl, e1.same _ _ g1, c, n, g2, q w H1 T1 s1 t1 e1 g3⟩
theorem en_fld (ha : EvN K ta ρ (.ins C ns l)) (hj : fldAt ns f = some j) (hd : l[j]? = some d) (c : Cls K C) (n : NoAttr K C f) : EvN K (tFld K ta f) ρ d := fun M T0 H T σ X Q h q =>
  ha M T0 H T σ X _ h fun v H1 T1 s1 t1 e1 i1 => by
    obtain ⟨a, dx, fs, w, rfl, g1, g2, g3⟩ := is_fld i1 hj hd
    exact ⟨a, C, dx, fs, w, rfl, g1, c, n, g2, q w H1 T1 s1 t1 e1 g3⟩
theorem putF_zip : ∀ {ns : List Str} {vs : List V} {f : Str} {w : V}, ns.length = vs.length → f ∉ ns → putF f w (ns.zip vs) = (ns ++ [f]).zip (vs ++ [w])
  | [], [], f, w, _, _ => rfl
  | n :: ns, v :: vs, f, w, h, hn => by
    have h1 : ¬ n = f := fun e => hn (by simp [e])
    have ih := putF_zip (ns := ns) (vs := vs) (f := f) (w := w) (by simpa using h) (fun q => hn (List.mem_cons_of_mem _ q))
    show putF f w ((n, v) :: ns.zip vs) = (n, v) :: (ns ++ [f]).zip (vs ++ [w])
    rw [← ih]
    exact if_neg h1
  | [], v :: vs, _, _, h, _ => by simp at h
  | n :: ns, [], _, _, h, _ => by simp at h
/-- x.f of an instance that is being made -/
theorem el_self {a : Addr} (e : ρ[i]? = some (.cl (.slf a C ns l))) (hj : fldAt ns f = some j) (hl0 : j < l.length) (c : Cls K C) (n : NoAttr K C f) : EvL K (tFld K (tVar i) f) ρ i [j] := fun M T0 H T σ X Q h q => by
  obtain ⟨v, u, Ls, L0, h1, ⟨eu, dx, vs, Lt, eL, hl⟩, h3, h4, _⟩ := h.spot (π := []) e rfl
  have ev : v = u := h3
  subst ev
  subst eu
  have hT : T a = some (.ins C dx (ns.zip vs)) := h4.here rfl (a, .ins C dx (ns.zip vs)) (by rw [eL]; exact List.mem_cons_self)
  obtain ⟨z, hz⟩ := get_some (l := vs) (i := j) (by rw [hl.len]; exact hl0)
  obtain ⟨g1, m, g2⟩ := fld_look hj hz
  exact ⟨.ref a, h1, a, C, dx, _, z, rfl, hT, c, n, g1, q z H T (Same.refl _) (Same.refl _) h ⟨_, h1, a, z, rfl, .inr (.inl ⟨C, dx, _, m, hT, g2⟩), rfl⟩⟩
/-- x.f = e, x an instance that is being made, without f -/
theorem ws_fld {a : Addr} (e : ρ[i]? = some (.cl (.slf a C ns l))) (hv : EvC K te ρ x) (hn : ns.length = l.length) (hf : f ∉ ns) (hz : ns.length < 1000) (c : Cls K C) (n : NoAttr K C f) (h : P.nx (ρ.set i (.cl (.slf a C (ns ++ [f]) (l ++ [x]))))) :
    Ws K E (sFld K (tVar i) te f) ρ P := fun M T0 H T σ Dn en kk =>
  hv M T0 H T σ [] _ en fun w Lw H1 T1 s1 t1 e1 iw => by
    obtain ⟨v, u, Ls, L0, h1, ⟨eu, dx, vs, Lt, eL, hl⟩, h3, h4, h5⟩ := e1.spot (π := []) e rfl
    have ev : v = u := h3
    subst ev
    subst eu
    subst eL
    have hT : T1 a = some (.ins C dx (ns.zip vs)) := h4.here rfl (a, .ins C dx (ns.zip vs)) List.mem_cons_self
    have hlv : ns.length = vs.length := by rw [hn, hl.len]
    refine ⟨.ref a, h1, a, C, dx, _, rfl, hT, c, n, by rw [List.length_zip]; exact Nat.lt_of_le_of_lt (Nat.min_le_left _ _) hz, kk.nx _ σ H1 _ h s1 ?_⟩
    rw [putF_zip hlv hf]
    refine h5 H1 _ [] (.slf a C (ns ++ [f]) (l ++ [x])) ((a, .ins C dx ((ns ++ [f]).zip (vs ++ [w]))) :: (dx, .own a) :: (Lt ++ Lw)) (Same.refl _) ?_ ⟨rfl, dx, _, _, rfl, hl.app (.one iw)⟩
    have g6 := EnX.write (o' := .ins C dx ((ns ++ [f]).zip (vs ++ [w]))) h4
    refine g6.perm (List.Perm.cons _ (List.Perm.cons _ ?_))
    show List.Perm (Lt ++ (L0 ++ (Lw ++ []))) ((Lt ++ Lw) ++ (L0 ++ []))
    rw [List.append_nil, List.append_nil, List.append_assoc]
    exact List.Perm.append_left _ List.perm_append_comm
/-! methods: the instance is the first argument -/
theorem look_none {ns : List Str} {vs : List V} {m : Str} (h : m ∉ ns) : (ns.zip vs).lookup m = none := by
  rw [List.lookup_eq_none_iff]
  intro p hp
  have := (List.of_mem_zip (show (p.1, p.2) ∈ ns.zip vs from hp)).1
  simpa using fun e : m = p.1 => h (e ▸ this)
theorem ev_meth {m : Str} {P : PrD} {Ex : XK} (ha : EvD K ta ρ (.ins C ns l)) (hm : m ∉ ns) (hr : EvA K tr ρ ds) (hp : P (.ins C ns l :: ds) (fun s => s = .im z) (fun _ => False)) : EvD K (tMeth C m (spD K P) [] Ex ta tr) ρ z := fun M T0 H T σ X Q e q =>
  ha M T0 H T σ X _ e fun v H0 T0' s0 t0 e0 i0 => by
    obtain ⟨a, dx, us, rfl, g1, g2⟩ := i0
    refine ⟨a, dx, _, rfl, e0.same _ _ g1, look_none hm, hr M T0 H0 T0' σ X _ e0 fun vs H1 T1 s1 t1 e1 i1 => ?_⟩
    obtain ⟨L, r, o, f⟩ := e1.ex
    show spD K P (.ref a :: (vs ++ [])) T1 Q Ex
    rw [List.append_nil]
    refine ⟨_, H1, .ins C ns l :: ds, _, _, o, .cons ((show Is K H0 (.ins C ns l) (.ref a) from ⟨a, dx, us, rfl, g1, g2⟩).up s1) i1, hp, fun s v H' T' hs s' t' hr => ?_, fun _ _ _ _ _ _ h => h.elim⟩
    subst hs
    obtain ⟨e2, iz⟩ := e1.ret_im r f s' t' hr
    exact q v H' T' (s0.trans (s1.trans s')) (t0.trans (t1.trans t')) e2 iz
theorem ec_meth {m : Str} {P : PrD} {Ex : XK} (ha : EvD K ta ρ (.ins C ns l)) (hm : m ∉ ns) (hr : EvA K tr ρ ds) (hp : P (.ins C ns l :: ds) (fun s => s = .cl z) (fun _ => False)) : EvC K (tMeth C m (spD K P) [] Ex ta tr) ρ z := fun M T0 H T σ X Q e q =>
  ha M T0 H T σ X _ e fun v H0 T0' s0 t0 e0 i0 => by
    obtain ⟨a, dx, us, rfl, g1, g2⟩ := i0
    refine ⟨a, dx, _, rfl, e0.same _ _ g1, look_none hm, hr M T0 H0 T0' σ X _ e0 fun vs H1 T1 s1 t1 e1 i1 => ?_⟩
    obtain ⟨L, r, o, f⟩ := e1.ex
    show spD K P (.ref a :: (vs ++ [])) T1 Q Ex
    rw [List.append_nil]
    refine ⟨_, H1, .ins C ns l :: ds, _, _, o, .cons ((show Is K H0 (.ins C ns l) (.ref a) from ⟨a, dx, us, rfl, g1, g2⟩).up s1) i1, hp, fun s v H' T' hs s' t' hr => ?_, fun _ _ _ _ _ _ h => h.elim⟩
    subst hs
    obtain ⟨Lc, e2, iz⟩ := e1.ret_cl r f s' t' hr
    exact q v Lc H' T' (s0.trans (s1.trans s')) (t0.trans (t1.trans t')) e2 iz
/-- the promise of an __init__: R says what instance is made -/
def spMk (K : PySem.W.Frag) (C : Addr) (P : List D → (D → Prop) → (Exn → Prop) → Prop) : Sp := fun vs T Q Ex => ∃ (x dx : Addr) (us : List V) (M : Op) (H T0 : Hp) (ds : List D) (R : D → Prop) (Z : Exn → Prop), vs = .ref x :: us ∧ Opn H T ((x, .ins C dx []) :: (dx, .own x) :: M) ∧ IsL K H ds us ∧ T0 x = none ∧ T0 dx = none ∧ Same T0 T ∧ P ds R Z ∧
  (∀ d Lc H' T', R d → Same H H' → Same T0 T' → IsC K H' d (.ref x) Lc → Opn H' T' (Lc ++ M) → (∀ p ∈ Lc, T0 p.1 = none) → Q .non T') ∧ ∀ c ns es od H' T', Z (c, ns, es) → Same H H' → Same T0 T' → Opn H' T' M → IsX K H' od ns es → Ex c od T'
theorem ec_make {P : List D → (D → Prop) → (Exn → Prop) → Prop} {Ex : XK} (hr : EvA K tr ρ ds) (hp : P ds (fun d => d = z) (fun _ => False)) : EvC K (tMake C (spMk K C P) [] Ex tr) ρ z := fun M T0 H T σ X Q e q =>
  hr M T0 H T σ X _ e fun vs H1 T1 s1 t1 e1 i1 => fun x dx hx hdx hne => by
    obtain ⟨L, r, o, f⟩ := e1.ex
    show spMk K C P (.ref x :: (vs ++ [])) _ _ Ex
    rw [List.append_nil]
    have o1 := o.opened (o := .own x) hdx
    have hx1 : (upd T1 dx (.own x)) x = none := by rw [upd_ne (Ne.symm hne)]; exact hx
    have o2 := o1.opened (o := .ins C dx []) hx1
    refine ⟨x, dx, vs, _, H1, T1, ds, _, _, rfl, o2, i1, hx, hdx, (same_new hdx).trans (same_new hx1), hp, fun d Lc H' T' hd s' t' ic o' f' => ?_, fun _ _ _ _ _ _ h => h.elim⟩
    subst hd
    refine ⟨rfl, q (.ref x) Lc H' T' (s1.trans s') (t1.trans t') ⟨⟨L, r.up s', ?_, fun y hy => ?_⟩, e1.t0.trans t'⟩ ic⟩
    · rw [List.append_assoc]
      exact o'
    · rw [List.append_assoc] at hy
      rcases List.mem_append.mp hy with hy | hy
      · exact e1.t0.free (f' y hy)
      · exact f y hy
/-- an __init__'s body -/
theorem read_init {P : List D → (D → Prop) → (Exn → Prop) → Prop} {vs : List V} {Q : VK} {Ex : XK} {N : List Str} (h : spMk K C P vs T Q Ex)
    (hw : ∀ a ds R Z, P ds R Z → Ws K (upX Ex) t (.cl (.slf a C [] []) :: (ds.map .im ++ List.replicate (N.length - (ds.length + 1)) .no)) { nx := fun ρ' => ∃ ns l, ρ'[0]? = some (.cl (.slf a C ns l)) ∧ R (.ins C ns l), ex := fun _ => Z }) :
    t { nx := fun _ H' => Q .non H', rt := Q } (L2.start N vs) T := by
  obtain ⟨x, dx, us, M, H, T0, ds, R, Z, rfl, o, hi, hx, hdx, hs, p, k1, k2⟩ := h
  have r := EnR.start hi (N.length - (ds.length + 1))
  have e : L2.start N (.ref x :: us) = some (.ref x) :: (us.map some ++ List.replicate (N.length - (ds.length + 1)) none) := by
    unfold L2.start
    rw [List.length_cons, hi.len]
    rfl
  rw [e]
  have ic : IsC K H (.slf x C [] []) (.ref x) [(x, .ins C dx []), (dx, .own x)] := ⟨rfl, dx, [], [], rfl, rfl, rfl⟩
  have r2 := EnR.cl ic r
  refine hw x ds R Z p M T0 H T _ _ ⟨⟨_, r2, o, fun y hy => ?_⟩, hs⟩ ⟨fun ρ' σ' H' T' ⟨ns, l, q1, q2⟩ s' e' => ?_, fun _ _ _ _ q => q.elim, fun _ _ _ _ q => q.elim, fun _ _ _ _ q => q.elim, fun ρ' σ' c ns es od H' T' q s' e' hx => k2 c ns es od H' T' q s' e'.t0 e'.frame hx⟩
  · rw [List.append_nil] at hy
    have hy : y ∈ [(x, HO.ins C dx []), (dx, HO.own x)] := by simpa using hy
    rcases List.mem_cons.mp hy with rfl | hy
    · exact hx
    · have hy := List.mem_singleton.mp hy
      subst hy
      exact hdx
  · obtain ⟨x', Ls, h1, h2, h3⟩ := e'.take q1
    obtain ⟨v, rfl, hc⟩ := h2.cl1
    obtain ⟨rfl, dx', vs', Lt, rfl, hl⟩ := hc
    obtain ⟨g1, g2⟩ := EnX.give h3
    exact k1 (.ins C ns l) _ H' T' q2 s' e'.t0 ⟨x, dx', vs', Lt, rfl, rfl, hl⟩ g1 g2
end
end FS
set_option Elab.async false
set_option linter.all false
set_option maxRecDepth 100000
set_option maxHeartbeats 4000000
namespace FS
open PySem PySem.Spec PyProof.Rows L2

/-- a statement that is never reached -/
theorem ps_no {X : Cx} {st : Stmt} : PS X st tNo := ⟨fun pins s σ H D I h => h.elim⟩

/-! ### more built-ins -/
theorem vals_of_get : ∀ {xs : List V} {us : List Value}, xs.length = us.length → (∀ (i : Nat) (x : V) (u : Value), xs[i]? = some x → us[i]? = some u → RelV x u) → Vals xs us
  | [], [], _, _ => .nil
  | x :: xs, u :: us, h, q => .cons (q 0 x u rfl rfl) (vals_of_get (by simpa using h) fun i y v h1 h2 => q (i + 1) y v (by simpa using h1) (by simpa using h2))
  | [], _ :: _, h, _ => by simp at h
  | _ :: _, [], h, _ => by simp at h
section
variable {X : Cx}
def rRng1 : List V → Hp → VK → Prop := fun vs H Q => ∃ j : Int, vs = [V.int j] ∧ ∀ p, H p = none → Q (.ref p) (upd H p (.rng 0 j))
theorem cRng1 : CallR X (.type "range") rRng1 := by
  intro pins s σ H vs us Q I r h
  obtain ⟨j, rfl, q⟩ := h
  obtain ⟨u, rfl, t, rfl⟩ := vals1 r
  refine call_range_1 ⟨.ref s.heap.objs.size, upd H s.heap.objs.size (.rng 0 j), I.laid (t' := s.toks + 1 + 1) (fun b o e => Heap.get?_push_of_some _ e) (Nat.le_refl _) ?_, rfl, q _ (I.hok.fresh (Nat.le_refl _))⟩
  exact ⟨s.toks, t, s.toks + 1, Heap.get?_push_size _ rfl⟩
def rngV (n : Nat) : List V := (List.range n).map fun k : Nat => V.int (0 + (k : Int))
def rListRng : List V → Hp → VK → Prop := fun xs H Q => ∃ (p : Addr) (j : Int), xs = [.ref p] ∧ H p = some (.rng 0 j) ∧ 0 ≤ j ∧ j ≤ 100000 ∧ ∀ l, H l = none → Q (.ref l) (upd H l (.lst (rngV j.toNat)))
theorem rng_vals {n : Nat} {acc : Array Value} (h : ItemsOf (fun i v => ∃ t, v = .int (0 + i * 1) t) acc n) : Vals (rngV n) acc.toList := by
  obtain ⟨h1, h2⟩ := h
  refine vals_of_get (by rw [rngV, List.length_map, List.length_range, Array.length_toList, h1]) fun i x u hx hu => ?_
  obtain ⟨t, rfl⟩ := h2 i u (by simpa using hu)
  rw [rngV, List.getElem?_map] at hx
  obtain ⟨k, hk, rfl⟩ := Option.map_eq_some_iff.mp hx
  have : k = i := by
    have hi : i < n := by
      have := (List.getElem?_eq_some_iff.mp hk).1
      rwa [List.length_range] at this
    rw [List.getElem?_range hi] at hk
    exact (Option.some.inj hk).symm
  subst this
  refine ⟨t, ?_⟩
  rw [Int.mul_one]
theorem cListRng (hc : X.A.handled = none) : CallR X (.type "list") rListRng := by
  intro pins s σ H xs us Q I r h
  obtain ⟨p, j, rfl, hp, h0, h1, q⟩ := h
  obtain ⟨u, rfl, rx⟩ := vals1 r
  cases rx
  obtain ⟨t, v, w, hr⟩ := (show ObjOk X.prog X.w H s.heap p (.rng 0 j) from I.hok p _ hp)
  have hn : Builtin.Range.rangeSize 0 j 1 = ((j.toNat : Nat) : Int) := by rw [rangeSize_one]; split <;> omega
  refine call_list_range hc hr (small_one (by decide) (by decide) (by omega) (by omega)) hn (by omega) fun h' tk acc' c' kp e it => ?_
  refine ⟨.ref s.heap.objs.size, _, I.laid (t' := tk) kp (Nat.le_refl _) (show ObjOk X.prog X.w _ h' _ (.lst (rngV j.toNat)) from ⟨?_, acc'.toList, c', rng_vals it, by simpa using e⟩), rfl, q _ (I.hok.fresh (Nat.le_refl _))⟩
  rw [rngV, List.length_map, List.length_range]
  have : (100000 : Nat) ≤ sizeLine := by decide
  omega
end
section
variable {K : PySem.W.Frag} {E : L2.WX} {ρ : Rho} {P : Pst} {te ta tb to : TE} {tz : TS} {tt : TT} {d s x y z : D} {l l' : List D} {ds : List D} {tr : TA} {i j : Nat}
theorem isL_rng {H : Hp} (n : Nat) : IsL K H (rng 0 n) (rngV n) := by
  unfold rng rngV
  generalize List.range n = r
  induction r with
  | nil => exact (rfl : [] = [])
  | cons a r ih => exact ⟨_, _, rfl, rfl, ih⟩
/-- list(range(n)) -/
theorem evo_rng {n : Int} (h : EvA K tr ρ [.int n]) (h0 : 0 ≤ n) (h1 : n ≤ 100000) : EvO K (tCB rListRng (tCons (tCB rRng1 tr) tNil)) ρ (rng 0 n.toNat) := fun M T0 H T σ X Q e q =>
  h M T0 H T σ X _ e fun vs H1 T1 s1 t1 e1 i1 => by
    obtain ⟨v, rfl, hv⟩ := isL_one i1
    refine ⟨n, by rw [show v = V.int n from hv], fun p hp => ?_⟩
    obtain ⟨s2, e2⟩ := e1.new (o := .rng 0 n) hp
    refine ⟨p, n, rfl, upd_same, h0, h1, fun p2 hp2 => ?_⟩
    exact q p2 _ _ _ (s1.trans s2) (t1.trans ((same_new hp).trans (same_new hp2))) (e2.opened hp2) (isL_rng _)
/-! sums and the like -/
theorem seq_of {H T : Hp} {v : V} {ns : List Int} (h : Is K H (.lst (ns.map .int)) v) (s : Same H T) : ∃ a, v = .ref a ∧ SqL K T a (ns.map V.int) := by
  obtain ⟨a, vs, rfl, h1, h2⟩ := h
  rw [isL_ints_inv h2] at h1
  exact ⟨a, rfl, .inl (.inl (s _ _ h1))⟩
theorem rc_sum {ns : List Int} : RcD K (rSum K) [.lst (ns.map .int)] (.int ns.sum) := fun H T vs Q s h q => by
  obtain ⟨v, rfl, hv⟩ := isL_one h
  obtain ⟨a, rfl, hq⟩ := seq_of hv s
  exact ⟨a, ns, rfl, hq, q _ rfl⟩
theorem rc_max {ns : List Int} {m : Int} (hm : m ∈ ns) (h0 : ∀ y ∈ ns, y ≤ m) : RcD K (rMax K) [.lst (ns.map .int)] (.int m) := fun H T vs Q s h q => by
  obtain ⟨v, rfl, hv⟩ := isL_one h
  obtain ⟨a, rfl, hq⟩ := seq_of hv s
  refine ⟨a, ns, rfl, hq, List.length_pos_of_mem hm, fun k hk h1 => ?_⟩
  have : k = m := Int.le_antisymm (h0 k hk) (h1 m hm)
  rw [this]
  exact q _ rfl
theorem rc_min {ns : List Int} {m : Int} (hm : m ∈ ns) (h0 : ∀ y ∈ ns, m ≤ y) : RcD K (rMin K) [.lst (ns.map .int)] (.int m) := fun H T vs Q s h q => by
  obtain ⟨v, rfl, hv⟩ := isL_one h
  obtain ⟨a, rfl, hq⟩ := seq_of hv s
  refine ⟨a, ns, rfl, hq, List.length_pos_of_mem hm, fun k hk h1 => ?_⟩
  have : k = m := Int.le_antisymm (h1 m hm) (h0 k hk)
  rw [this]
  exact q _ rfl
theorem sorted_uniq : ∀ {l l' : List Int}, l'.Perm l → l'.Pairwise (· ≤ ·) → l.Pairwise (· ≤ ·) → l' = l := fun h h1 h2 => List.Perm.eq_of_pairwise (fun a b _ _ x y => Int.le_antisymm x y) h1 h2 h
theorem rco_sorted {ns ns' : List Int} (hp : ns'.Perm ns) (hs : ns'.Pairwise (· ≤ ·)) : RcO K (rSortedI K) [.lst (ns.map .int)] (ns'.map .int) := fun H T vs Q s h q => by
  obtain ⟨v, rfl, hv⟩ := isL_one h
  obtain ⟨a, rfl, hq⟩ := seq_of hv s
  refine ⟨a, ns, rfl, hq, fun zs p h1 h2 hn => ?_⟩
  have : zs = ns' := sorted_uniq (h1.trans hp.symm) h2 hs
  rw [this]
  exact q p _ hn (isL_ints _)
theorem is_bls {H : Hp} : ∀ {bs : List Bool} {vs : List V}, IsL K H (bs.map .bl) vs → vs = bs.map V.bl
  | [], _, h => h
  | n :: r, _, ⟨v, q, e, h1, h2⟩ => by rw [e, show v = V.bl n from h1, is_bls h2] <;> rfl
theorem rc_any {bs : List Bool} : RcD K (rAny K) [.lst (bs.map .bl)] (.bl (bs.any id)) := fun H T vs Q s h q => by
  obtain ⟨v, rfl, a, us, rfl, h1, h2⟩ := isL_one h
  rw [is_bls h2] at h1
  exact ⟨a, bs, rfl, .inl (.inl (s _ _ h1)), q _ rfl⟩
theorem rc_all {bs : List Bool} : RcD K (rAll K) [.lst (bs.map .bl)] (.bl (bs.all id)) := fun H T vs Q s h q => by
  obtain ⟨v, rfl, a, us, rfl, h1, h2⟩ := isL_one h
  rw [is_bls h2] at h1
  exact ⟨a, bs, rfl, .inl (.inl (s _ _ h1)), q _ rfl⟩
theorem inV_int {x : Int} : ∀ {ns : List Int}, inV (.int x) (ns.map V.int) = decide (x ∈ ns)
  | [] => by simp [inV]
  | n :: r => by
    have ih := inV_int (x := x) (ns := r)
    unfold inV at ih ⊢
    rw [List.map_cons, List.any_cons, ih]
    by_cases h : n = x
    · subst h
      simp [eqV]
    · have h' : ¬ x = n := fun e => h e.symm
      have : eqV (.int n) (.int x) = false := by simp [eqV, h]
      rw [this]
      simp [h']
theorem flat_ints {ns : List Int} : (ns.map V.int).all flatV = true := by
  induction ns with
  | nil => rfl
  | cons a r ih => rw [List.map_cons, List.all_cons, ih] <;> rfl
theorem rv_in {x : Int} {ns : List Int} : RvD K (rIn K false) (.int x) (.lst (ns.map .int)) (.bl (decide (x ∈ ns))) := fun H T vx vy Q s h1 h2 q => by
  obtain ⟨a, rfl, hq⟩ := seq_of h2 s
  refine ⟨a, _, rfl, .inl hq, by rw [show vx = V.int x from h1] <;> rfl, flat_ints, ?_⟩
  rw [show vx = V.int x from h1, inV_int]
  exact q _ rfl
theorem rv_notin {x : Int} {ns : List Int} : RvD K (rIn K true) (.int x) (.lst (ns.map .int)) (.bl (!decide (x ∈ ns))) := fun H T vx vy Q s h1 h2 q => by
  obtain ⟨a, rfl, hq⟩ := seq_of h2 s
  refine ⟨a, _, rfl, .inl hq, by rw [show vx = V.int x from h1] <;> rfl, flat_ints, ?_⟩
  rw [show vx = V.int x from h1, inV_int]
  exact q _ rfl
/-! extend -/
theorem ws_ext (e : ρ[i]? = some (.ow l)) (hv : EvD K te ρ (.lst l')) (hz : l.length + l'.length ≤ 100000) (h : P.nx (ρ.set i (.ow (l ++ l')))) : Ws K E (tDrop (tBM K "list" rExtend (tVar i) (tCons te tNil))) ρ P := fun M T0 H T σ Dn en k => by
  obtain ⟨p, vs, h1, h2, h4, _⟩ := en.own e
  refine ⟨.ref p, h1, .inl ⟨rfl, vs, .inl (.inl h2)⟩, hv M T0 H T σ [] _ en fun v H' T' s t' e' ⟨a, us, ev, g1, g2⟩ => ?_⟩
  subst ev
  obtain ⟨p', vs', q1, q2, q4, q5, _⟩ := e'.own e
  rw [h1] at q1
  cases q1
  exact ⟨p, a, vs', us, rfl, rfl, q2, e'.same _ _ g1, by rw [q4.len, g2.len]; exact Nat.le_trans hz (by decide), k.nx _ _ _ _ h s (q5 _ _ (q4.app g2))⟩
theorem wq_ext (e : ρ[i]? = some (.ow l)) (hv : EvD K te ρ (.lst l')) (hz : l.length + l'.length ≤ 100000) (h : Ws K E tz (ρ.set i (.ow (l ++ l'))) P) : Ws K E (tSeq (tDrop (tBM K "list" rExtend (tVar i) (tCons te tNil))) tz) ρ P := ws_seq (ws_ext e hv hz h)
theorem wq_appP {π : List Nat} (e : ρ[i]? = some (.cl d)) (hp : EvL K to ρ i π) (hd : D.at π d = some (.lst l)) (hv : EvC K te ρ x) (hz : l.length < 100000) (h : Ws K E tz (ρ.set i (.cl (D.put π d (.lst (l ++ [x]))))) P) :
    Ws K E (tSeq (tDrop (tBM K "list" rAppend to (tCons te tNil))) tz) ρ P := ws_seq (ws_appP e hp hd hv hz h)
theorem wq_fld {C a : Addr} {ns : List Str} {f : Str} (e : ρ[i]? = some (.cl (.slf a C ns l))) (hv : EvC K te ρ x) (hn : ns.length = l.length) (hf : f ∉ ns) (hz : ns.length < 1000) (c : Cls K C) (n : NoAttr K C f) (h : Ws K E tz (ρ.set i (.cl (.slf a C (ns ++ [f]) (l ++ [x])))) P) :
    Ws K E (tSeq (sFld K (tVar i) te f) tz) ρ P := ws_seq (ws_fld e hv hn hf hz c n h)

/-! ### dicts with int keys -/
def ik (ks : List Int) : List Key := ks.map .inl
theorem valV_zip : ∀ {ks : List Int} {vs : List V} {x : Int}, ks.length = vs.length → valV ((ik ks).zip vs) (.inl x) = (ks.findIdx? (· == x)).bind (vs[·]?)
  | [], [], x, _ => rfl
  | k :: ks, v :: vs, x, h => by
    have ih := valV_zip (ks := ks) (vs := vs) (x := x) (by simpa using h)
    show valV ((Sum.inl k, v) :: (ik ks).zip vs) (.inl x) = _
    rw [List.findIdx?_cons]
    by_cases e : k = x
    · subst e
      rw [valV_pos rfl]
      simp
    · rw [valV_neg (by simpa using e), ih]
      have : (k == x) = false := by simpa using e
      rw [this]
      simp only [Bool.false_eq_true, if_false]
      cases ks.findIdx? (· == x) <;> rfl
  | [], _ :: _, _, h => by simp at h
  | _ :: _, [], _, h => by simp at h
theorem ec_dnew : EvC K tDNewK ρ (.dic (ik []) []) := fun M T0 H T σ X Q e q => fun p hp => q (.ref p) [(p, .dK [])] H _ (Same.refl _) (same_new hp) (e.opened hp) ⟨p, [], [], rfl, rfl, rfl, rfl⟩
/-- x in d, d open -/
theorem dic_open {M X : Op} {T0 H T : Hp} {σ : L2.St} {ks : List Key} (en : EnX K M T0 H T σ ρ X) (e : ρ[i]? = some (.cl (.dic ks l))) : ∃ a vs Lt L0, σ[i]? = some (some (.ref a)) ∧ T a = some (.dK (ks.zip vs)) ∧ vs.length = l.length ∧ IsCL K H l vs Lt ∧
    EnX K M T0 H T σ (ρ.set i .no) (((a, .dK (ks.zip vs)) :: Lt) ++ (L0 ++ X)) ∧
    ∀ H' T' X' s' Ls', Same H H' → EnX K M T0 H' T' σ (ρ.set i .no) (Ls' ++ (L0 ++ X')) → IsC K H' s' (.ref a) Ls' → EnX K M T0 H' T' σ (ρ.set i (.cl s')) X' := by
  obtain ⟨v, u, Ls, L0, h1, ⟨a, vs, Lt, eu, eL, hl⟩, h3, h4, h5⟩ := en.spot (π := []) e rfl
  have ev : v = u := h3
  subst ev
  subst eu
  subst eL
  exact ⟨a, vs, Lt, L0, h1, h4.here rfl (a, .dK (ks.zip vs)) List.mem_cons_self, hl.len, hl, h4, h5⟩
theorem et_notind {ks : List Int} {xv : Int} (e : ρ[i]? = some (.cl (.dic (ik ks) l))) (hl : ks.length = l.length) (hv : EvD K te ρ (.int xv)) : EvD K (tDNotIn te (tVar i)) ρ (.bl (!decide (xv ∈ ks))) := fun M T0 H T σ X Q en q =>
  hv M T0 H T σ X _ en fun v H1 T1 s1 t1 e1 i1 => by
    obtain ⟨a, vs, Lt, L0, h1, h2, h3, _⟩ := dic_open e1 e
    refine ⟨.ref a, h1, a, valV ((ik ks).zip vs) (.inl xv), rfl, ?_, ?_⟩
    · rw [show v = kV (.inl xv) from i1]
      exact DGet.k h2
    · rw [valV_zip (by omega)]
      have : ((ks.findIdx? (· == xv)).bind (vs[·]?)).isSome = decide (xv ∈ ks) := by
        by_cases hm : xv ∈ ks
        · have hi : ks.findIdx? (· == xv) = some (ks.findIdx (· == xv)) := by
            rw [List.findIdx?_eq_some_iff_findIdx_eq]
            exact ⟨List.findIdx_lt_length_of_exists ⟨xv, hm, by simp⟩, rfl⟩
          have hlt : ks.findIdx (· == xv) < vs.length := by
            have := List.findIdx_lt_length_of_exists (p := (· == xv)) ⟨xv, hm, by simp⟩
            omega
          rw [hi, decide_eq_true hm]
          show (vs[ks.findIdx (· == xv)]?).isSome = true
          rw [List.getElem?_eq_getElem hlt] <;> rfl
        · have hi : ks.findIdx? (· == xv) = none := by
            rw [List.findIdx?_eq_none_iff]
            intro y hy
            simp only [beq_eq_false_iff_ne, ne_eq]
            exact fun z => hm (z ▸ hy)
          rw [hi, decide_eq_false hm] <;> rfl
      rw [this]
      exact q _ H1 T1 s1 t1 e1 rfl
theorem putK_new : ∀ {ks : List Int} {vs : List V} {x : Int} {v : V}, ks.length = vs.length → x ∉ ks → putK ((ik ks).zip vs) (.inl x) v = (ik (ks ++ [x])).zip (vs ++ [v]) := by
  intro ks vs x v h hn
  have ha : (((ik ks).zip vs).any fun kv => decide (kv.1 = (Sum.inl x : Key))) = false := by
    rw [List.any_eq_false]
    intro p hp
    have := (List.of_mem_zip (show (p.1, p.2) ∈ (ik ks).zip vs from hp)).1
    simp only [decide_eq_true_eq]
    intro z
    rw [z] at this
    obtain ⟨y, hy, ey⟩ := List.mem_map.mp this
    cases ey
    exact hn hy
  unfold putK
  rw [ha]
  simp only [Bool.false_eq_true, if_false]
  unfold ik
  rw [List.map_append, List.zip_append (by rw [List.length_map, h])]
  rfl
/-- d[x] = e, x new -/
theorem ws_dput {ks : List Int} {xv : Int} (e : ρ[i]? = some (.cl (.dic (ik ks) l))) (hl : ks.length = l.length) (hz : ks.length < 100000) (hn : xv ∉ ks) (hv : EvD K te ρ d) (hs : d.sc = true) (hx : EvD K tb ρ (.int xv)) (h : P.nx (ρ.set i (.cl (.dic (ik (ks ++ [xv])) (l ++ [d]))))) :
    Ws K E (sDPut (tVar i) tb te) ρ P := fun M T0 H T σ Dn en k =>
  hv M T0 H T σ [] _ en fun v H1 T1 s1 t1 e1 i1 => by
    obtain ⟨a, vs, Lt, L0, h1, _⟩ := dic_open e1 e
    refine ⟨.ref a, h1, hx M T0 H1 T1 σ [] _ e1 fun w H2 T2 s2 t2 e2 i2 => ?_⟩
    obtain ⟨a2, vs2, Lt2, L02, g1, g2, g3, g4, g5, g6⟩ := dic_open e2 e
    rw [h1] at g1
    cases g1
    refine ⟨a, upd T2 a (.dK ((ik (ks ++ [xv])).zip (vs2 ++ [v]))), rfl, ?_, ?_⟩
    · rw [show w = kV (.inl xv) from i2, ← putK_new (by omega) hn]
      refine DPut.k g2 ?_
      have : (100000 : Nat) ≤ sizeLine := by decide
      rw [List.length_zip]
      unfold ik
      rw [List.length_map]
      omega
    · refine k.nx _ σ H2 _ h (s1.trans s2) (g6 H2 _ [] (.dic (ik (ks ++ [xv])) (l ++ [d])) ((a, .dK ((ik (ks ++ [xv])).zip (vs2 ++ [v]))) :: (Lt2 ++ [])) (Same.refl _) ?_ ⟨a, _, _, rfl, rfl, g4.app (.one ((i1.up s2).sc hs))⟩)
      have g7 := EnX.write (o' := .dK ((ik (ks ++ [xv])).zip (vs2 ++ [v]))) g5
      rw [List.append_nil]
      exact g7
/-- d[x], d known -/
theorem ev_dget {ks : List Int} {xv : Int} {jj : Nat} (hd : EvD K ta ρ (.dic (ik ks) l)) (hx : EvD K tb ρ (.int xv)) (hl : ks.length = l.length) (hj : ks.findIdx? (· == xv) = some jj) (hg : l[jj]? = some d) : EvD K (tDGet ta tb) ρ d := fun M T0 H T σ X Q en q =>
  hd M T0 H T σ X _ en fun v H1 T1 s1 t1 e1 ⟨a, vs, ev, g1, g2⟩ => hx M T0 H1 T1 σ X _ e1 fun w H2 T2 s2 t2 e2 i2 => by
    subst ev
    obtain ⟨u, g3, g4⟩ := g2.get hg
    refine ⟨a, u, rfl, ?_, q u H2 T2 (s1.trans s2) (t1.trans t2) e2 (g4.up s2)⟩
    have := DGet.k (k := .inl xv) (e2.same _ _ (s2 _ _ g1))
    rw [valV_zip (by rw [hl, g2.len]), hj] at this
    rw [show w = kV (.inl xv) from i2]
    rw [show (some jj).bind (vs[·]?) = some u from g3] at this
    exact this
end

/-! ### methods and makers that stand -/
structure FnM (P : Program) (w : World) (K : PySem.W.Frag) (mg : Str → Option Value) (base : Heap) (CX : CXT) (k : Nat) (C : Addr) (m : Str) (ps : List Str) (sp : Sp) : Prop where
  ex : ∃ f fd, FnOk P w K mg base CX k f fd ps sp ∧ Meth K C m f ∧ Binds K fd ps []
structure FnI (P : Program) (w : World) (K : PySem.W.Frag) (mg : Str → Option Value) (base : Heap) (CX : CXT) (k : Nat) (C : Addr) (x : Str) (ps : List Str) (sp : Sp) : Prop where
  ex : ∃ f fd, FnOk P w K mg base CX k f fd ps sp ∧ Mk K C f ∧ mg x = some (.ref C) ∧ Binds K fd ps []
section
variable {X : Cx} {CX : CXT} {k : Nat} {sp : Sp} {E : XK} {x m : Str} {o e : Expr} {es : List Expr} {t : TA} {ta : TE} {p apos pos : Pos} {ps : List Str} {C : Addr}
theorem pe_m {pl : Sem Bool} (G : FnM X.prog X.w X.K X.mg X.base CX k C m ps sp) (c : Cls X.K C) (hr : Room k X.A) (hx : Passes CX X E) (he : PE X o ta) (ha : PA X (e :: es) t)
    (hst : starEach (e :: es) X.env = (false, eval e X.env) :: starEach es X.env := by rfl) (hpl : (backTo pos (starEach es X.env)).any (·.1) = false := by rfl)
    (ht : eval (.Call (.Attribute o m apos) (e :: es) [] pos) X.env = (do
      let ov ← eval o X.env
      standAt apos.atName
      let (f, first) ← holding [ov] (getMethod ov m pl)
      callWith pos f first (backTo pos (starEach (e :: es) X.env)) (backToKw pos (keywordEach [] X.env))) := by rfl) : PE X (.Call (.Attribute o m apos) (e :: es) [] pos) (tMeth C m sp [] E ta t) := by
  obtain ⟨f, fd, F, hm, hb⟩ := G.ex
  exact pe_meth he c hm F hr hb .nil hx ha hst hpl ht
theorem pe_m0 {pl : Sem Bool} (G : FnM X.prog X.w X.K X.mg X.base CX k C m ps sp) (c : Cls X.K C) (hr : Room k X.A) (hx : Passes CX X E) (he : PE X o ta)
    (ht : eval (.Call (.Attribute o m apos) [] [] pos) X.env = (do
      let ov ← eval o X.env
      standAt apos.atName
      let (f, first) ← holding [ov] (getMethod ov m pl)
      callWith pos f first (backTo pos (starEach [] X.env)) (backToKw pos (keywordEach [] X.env))) := by rfl) : PE X (.Call (.Attribute o m apos) [] [] pos) (tMeth C m sp [] E ta tNil) := by
  obtain ⟨f, fd, F, hm, hb⟩ := G.ex
  exact pe_meth0 he c hm F hr hb .nil hx ht
theorem pe_mk (G : FnI X.prog X.w X.K X.mg X.base CX k C x ps sp) (hr : Room (k + 1) X.A) (hx : Passes CX X E) (ha : PA X (e :: es) t) (hg : Gl X x := by rfl) (hdb : (x == ("__debug__" : Str)) = false := by decide)
    (he : starEach (e :: es) X.env = (false, eval e X.env) :: starEach es X.env := by rfl) (hpl : (backTo pos (starEach es X.env)).any (·.1) = false := by rfl) : PE X (.Call (.Name x p) (e :: es) [] pos) (tMake C sp [] E t) := by
  obtain ⟨f, fd, F, hm, hC, hb⟩ := G.ex
  exact pe_make hm F hr hg hC hb .nil hx ha hdb he hpl
end
section
variable {P : Program} {w : World} {K : PySem.W.Frag} {mg : Str → Option Value} {base : Heap} {x m qual : Str} {st : Stmt} {N ps : List Str} {k : Nat} {Pr : PrD} {C : Addr}
/-- a method's facts -/
structure Dm (K : PySem.W.Frag) (C : Addr) (m qual : Str) (st : Stmt) (ps : List Str) : Prop where
  ex : ∃ f fd, Fun K m qual st f fd ∧ Meth K C m f ∧ Binds K fd ps []
/-- an __init__'s -/
structure Di (K : PySem.W.Frag) (mg : Str → Option Value) (C : Addr) (x qual : Str) (st : Stmt) (ps : List Str) : Prop where
  ex : ∃ f fd, Fun K "__init__" qual st f fd ∧ Mk K C f ∧ mg x = some (.ref C) ∧ Binds K fd ps []
theorem Dm.ok (F : Dm K C m qual st ps) (S : FnScope N ps (defScope st)) (len : ∀ ds R Z, Pr ds R Z → ds.length = ps.length)
    (hbody : ∀ (f : Addr) (cdv : Value) (A : Around) (outer : List Env) (s : Shared) (H : Hp) (E : XK), Room k (A.deeper (envOfC qual (defScope st) s.heap.objs.size f cdv)) →
      ∃ t, PSs (cxOf CX0 P w K mg base N qual (defScope st) f cdv A outer s H E).nox (defBody st) t ∧ ∀ ds R Z, Pr ds R Z → Ws K (upX E) t (ds.map .im ++ List.replicate (N.length - ds.length) .no) { nx := fun _ => R (.im .non), rt := R, ex := fun _ => Z }) :
    FnM P w K mg base CX0 (k + 1) C m ps (spD K Pr) := by
  obtain ⟨f, fd, F, hm, hb⟩ := F.ex
  refine ⟨f, fd, F.ok S (fun vs H Q E h => len_fn len h) (fun cdv A outer s H vs Q E hr h => ?_), hm, hb⟩
  obtain ⟨t, h1, h2⟩ := hbody f cdv A outer s H E hr
  exact ⟨t, h1, read_fn h h2⟩
theorem len_mk {P : List D → (D → Prop) → (Exn → Prop) → Prop} {n : Nat} (hl : ∀ ds R Z, P ds R Z → ds.length + 1 = n) {vs : List V} {T : Hp} {Q : VK} {E : XK} (h : spMk K C P vs T Q E) : vs.length = n := by
  obtain ⟨x, dx, us, M, H, T0, ds, R, Z, rfl, o, hi, _, _, _, p, _⟩ := h
  rw [List.length_cons, hi.len]
  exact hl ds R Z p
theorem Di.ok {Pm : List D → (D → Prop) → (Exn → Prop) → Prop} (F : Di K mg C x qual st ps) (S : FnScope N ps (defScope st)) (len : ∀ ds R Z, Pm ds R Z → ds.length + 1 = ps.length)
    (hbody : ∀ (f : Addr) (cdv : Value) (A : Around) (outer : List Env) (s : Shared) (H : Hp) (E : XK), Room k (A.deeper (envOfC qual (defScope st) s.heap.objs.size f cdv)) →
      ∃ t, PSs (cxOf CX0 P w K mg base N qual (defScope st) f cdv A outer s H E).nox (defBody st) t ∧ ∀ a ds R Z, Pm ds R Z → Ws K (upX E) t (.cl (.slf a C [] []) :: (ds.map .im ++ List.replicate (N.length - (ds.length + 1)) .no)) { nx := fun ρ' => ∃ ns l, ρ'[0]? = some (.cl (.slf a C ns l)) ∧ R (.ins C ns l), ex := fun _ => Z }) :
    FnI P w K mg base CX0 (k + 1) C x ps (spMk K C Pm) := by
  obtain ⟨f, fd, F, hm, hC, hb⟩ := F.ex
  refine ⟨f, fd, F.ok S (fun vs H Q E h => len_mk len h) (fun cdv A outer s H vs Q E hr h => ?_), hm, hC, hb⟩
  obtain ⟨t, h1, h2⟩ := hbody f cdv A outer s H E hr
  exact ⟨t, h1, read_init h h2⟩
end
end FS
set_option Elab.async false
set_option linter.all false
set_option maxRecDepth 100000
set_option maxHeartbeats 4000000
namespace FS
open PySem PySem.Spec PyProof.Rows L2
/-! ### more short words for derivations -/
section
variable {X : Cx} (K : PySem.W.Frag)
theorem cListRngC (hc : X.calm = true) : CallR X (.type "list") rListRng := fun pins s σ H xs us Q I r h => cListRng (I.ok.hd hc) pins s σ H xs us Q I r h
theorem kSum (hc : X.calm = true) (hK : X.K = K := by rfl) : CallR X (.builtin "sum") (rSum K) := hK ▸ cr_sum hc
theorem kMax (hc : X.calm = true) (hK : X.K = K := by rfl) : CallR X (.builtin "max") (rMax K) := hK ▸ cr_max hc
theorem kMin (hc : X.calm = true) (hK : X.K = K := by rfl) : CallR X (.builtin "min") (rMin K) := hK ▸ cr_min hc
theorem kAny (hc : X.calm = true) (hK : X.K = K := by rfl) : CallR X (.builtin "any") (rAny K) := hK ▸ cr_any hc
theorem kAll (hc : X.calm = true) (hK : X.K = K := by rfl) : CallR X (.builtin "all") (rAll K) := hK ▸ cr_all hc
theorem kSorted (hK : X.K = K := by rfl) : CallR X (.builtin "sorted") (rSortedI K) := hK ▸ cr_sortedI
def rLenD : List V → Hp → VK → Prop := fun xs H Q => ∃ a kvs, xs = [V.ref a] ∧ H a = some (.dK kvs) ∧ Q (.int kvs.length) H
theorem kLenD : CallR X (.builtin "len") rLenD := call_lenD
theorem fl {o : Expr} {f : Str} {pos : Pos} {ta : TE} (he : PE X o ta) (hK : X.K = K := by rfl) (hb : attributeBase o f X.env (eval o X.env) = eval o X.env := by rfl) : PE X (.Attribute o f pos) (tFld K ta f) := hK ▸ pe_fld he hb
theorem fs {o value : Expr} {f : Str} {pos pos' : Pos} {ta tv : TE} (ha : PE X o ta) (hv : PE X value tv) (hK : X.K = K := by rfl) (hs : swapsWith value (some (.Attribute o f pos')) pos.line X.env = pure false := by rfl) : PS X (.Assign [.Attribute o f pos'] value pos) (sFld K ta tv f) := hK ▸ ps_fld ha hv hs
theorem ml_extend {o e : Expr} {to : TE} {ta : TA} {apos cpos : Pos} (ho : PE X o to) (ha : PA X [e] ta) (hK : X.K = K := by rfl) (hbase : attributeBase o "extend" X.env (eval o X.env) = eval o X.env := by rfl)
    (hfew : ((backTo cpos (starEach [e] X.env)).all (fun x => !x.1) && (backToKw cpos (keywordEach [] X.env)).all (fun x => x.1.isSome)
      && decide ([e].length + ([] : List Keyword).length + (if ([] : List Keyword).isEmpty then 0 else 1) < 30)) = true := by rfl)
    (hline : (apos.endLine == cpos.line) = true := by rfl) (hs : starEach [e] X.env = (false, eval e X.env) :: starEach [] X.env := by rfl) (hplain : (backTo cpos (starEach [] X.env)).any (·.1) = false := by rfl) :
    PE X (.Call (.Attribute o "extend" apos) [e] [] cpos) (tBM K "list" rExtend to ta) := hK ▸ pe_bm PySem.F.plainAttrs_list PySem.F.slot_list_extend PySem.F.type_list_extend mt_extend ho ha hbase hfew hline hs hplain
end
section
variable {X : Cx}
/-- a name of the module that is an int -/
theorem gl {x : Str} {i : Int} {pos : Pos} (h : ∃ t, X.mg x = some (.int i t)) (hg : Gl X x := by rfl) (hd : (x == ("__debug__" : Str)) = false := by decide) : PE X (.Name x pos) (tC (.int i)) := by
  obtain ⟨t, h⟩ := h
  exact pe_glob hg h ⟨t, rfl⟩ hd
theorem dput {o i value : Expr} {pos pos' : Pos} {td ty tv : TE} (hu : X.A.units + 64 < cLine) (ho : PE X o td) (hi : PE X i ty) (hv : PE X value tv) (hs : swapsWith value (some (.Subscript o i pos')) pos.line X.env = pure false := by rfl) : PS X (.Assign [.Subscript o i pos'] value pos) (sDPut td ty tv) := ps_dput (by omega) ho hi hv hs
theorem din {o i : Expr} {td ty : TE} (hu : X.A.units + 64 < cLine) (hi : PE X i ty) (ho : PE X o td) : PC X .In i o (tDIn ty td) := pc_din (by omega) hi ho
theorem dnotin {o i : Expr} {td ty : TE} (hu : X.A.units + 64 < cLine) (hi : PE X i ty) (ho : PE X o td) : PC X .NotIn i o (tDNotIn ty td) := pc_dnotin (by omega) hi ho
theorem dget {o i : Expr} {pos : Pos} {td ty : TE} (hu : X.A.units + 64 < cLine) (ho : PE X o td) (hi : PE X i ty) (hs : NoSl i := by exact fun _ _ => rfl) : PE X (.Subscript o i pos) (tDGet td ty) := pe_dget (by omega) ho hi hs
end
section
variable {K : PySem.W.Frag} {ρ : Rho} {i : Nat} {l : List D} {ks : List Key}
theorem ev_lenD (e : ρ[i]? = some (.cl (.dic ks l))) (hl : ks.length = l.length) : EvD K (tCB rLenD (tCons (tVar i) tNil)) ρ (.int (l.length : Int)) := fun M T0 H T σ X Q en q => by
  obtain ⟨a, vs, Lt, L0, h1, h2, h3, _⟩ := dic_open en e
  refine ⟨.ref a, h1, a, _, rfl, h2, q _ H T (Same.refl _) (Same.refl _) en ?_⟩
  show V.int _ = V.int _
  rw [List.length_zip, h3, hl, Nat.min_self]
end
end FS
set_option Elab.async false
set_option linter.all false
set_option maxRecDepth 100000
set_option maxHeartbeats 4000000
set_option exponentiation.threshold 20000
namespace FS
/-! ### drawn numbers -/
def drawsBig : Int → List Int → List Int
  | _, [] => []
  | r, s :: t => r % s :: drawsBig (r / s) t
def drawsLow : Int → Int → List Int → List Int
  | _, _, [] => []
  | seed, k, s :: t => ((((seed * 48271 + 11 * k + 7) % 2147483647) * 69621 + 3 * k + 1) % 2147483629 / 7) % s :: drawsLow ((seed * 48271 + 11 * k + 7) % 2147483647) (k + 1) t
def draws (c : Int) (sizes : List Int) : List Int := if (1000000000000000000 : Int) ≤ c then drawsBig (c - 1000000000000000000) sizes else drawsLow (c % 2147483647) 0 sizes
theorem drawsBig_len : ∀ (s : List Int) (r : Int), (drawsBig r s).length = s.length
  | [], _ => rfl
  | _ :: t, _ => by rw [drawsBig, List.length_cons, List.length_cons, drawsBig_len t]
theorem drawsLow_len : ∀ (s : List Int) (r k : Int), (drawsLow r k s).length = s.length
  | [], _, _ => rfl
  | _ :: t, _, _ => by rw [drawsLow, List.length_cons, List.length_cons, drawsLow_len t]
theorem draws_len (c : Int) (s : List Int) : (draws c s).length = s.length := by
  unfold draws
  split
  · exact drawsBig_len _ _
  · exact drawsLow_len _ _ _
theorem drawsBig_bd : ∀ (s : List Int) (r : Int) (i : Nat), (∀ x ∈ s, 0 < x) → i < s.length → 0 ≤ (drawsBig r s).getD i 0 ∧ (drawsBig r s).getD i 0 < s.getD i 0
  | [], _, _, _, h => by simp at h
  | x :: t, r, 0, hp, _ => by
    have := hp x List.mem_cons_self
    exact ⟨Int.emod_nonneg _ (by omega), Int.emod_lt_of_pos _ this⟩
  | x :: t, r, i + 1, hp, h => by
    have := drawsBig_bd t (r / x) i (fun y hy => hp y (List.mem_cons_of_mem _ hy)) (by simpa using h)
    simpa [drawsBig] using this
theorem drawsLow_bd : ∀ (s : List Int) (r k : Int) (i : Nat), (∀ x ∈ s, 0 < x) → i < s.length → 0 ≤ (drawsLow r k s).getD i 0 ∧ (drawsLow r k s).getD i 0 < s.getD i 0
  | [], _, _, _, _, h => by simp at h
  | x :: t, r, k, 0, hp, _ => by
    have := hp x List.mem_cons_self
    exact ⟨Int.emod_nonneg _ (by omega), Int.emod_lt_of_pos _ this⟩
  | x :: t, r, k, i + 1, hp, h => by
    have := drawsLow_bd t ((r * 48271 + 11 * k + 7) % 2147483647) (k + 1) i (fun y hy => hp y (List.mem_cons_of_mem _ hy)) (by simpa using h)
    simpa [drawsLow] using this
theorem draws_bd (c : Int) (s : List Int) (i : Nat) (hp : ∀ x ∈ s, 0 < x) (h : i < s.length) : 0 ≤ (draws c s).getD i 0 ∧ (draws c s).getD i 0 < s.getD i 0 := by
  unfold draws
  split
  · exact drawsBig_bd _ _ _ hp h
  · exact drawsLow_bd _ _ _ _ hp h

/-! ### Euclid's turns: x, y behind i turns -/
structure Eu (a b x y i : Nat) : Prop where
  g : Nat.gcd x y = Nat.gcd a b
  z : i = 0 → x = a ∧ y = b
  s : 1 ≤ i → y < x ∨ (x = 0 ∧ y = 0 ∧ b = 0) ∨ y = 0
  p : 1 ≤ i → x * y * 2 ^ (i - 1) ≤ b * b
theorem Eu.start (a b : Nat) : Eu a b a b 0 := ⟨rfl, fun _ => ⟨rfl, rfl⟩, fun h => by omega, fun h => by omega⟩
theorem Eu.turn {a b x y i : Nat} (h : Eu a b x y i) (hy : y ≠ 0) : Eu a b y (x % y) (i + 1) := by
  refine ⟨?_, fun h => by omega, fun _ => .inl (Nat.mod_lt _ (by omega)), fun _ => ?_⟩
  · rw [← h.g, Nat.gcd_comm x y, Nat.gcd_rec y x, Nat.gcd_comm]
  · by_cases hi : i = 0
    · obtain ⟨rfl, rfl⟩ := h.z hi
      subst hi
      have : x % y ≤ y := Nat.le_of_lt (Nat.mod_lt _ (by omega))
      show y * (x % y) * 2 ^ 0 ≤ y * y
      rw [Nat.pow_zero, Nat.mul_one]
      exact Nat.mul_le_mul_left _ this
    · have hp := h.p (by omega)
      have hs : y < x := by
        rcases h.s (by omega) with q | ⟨_, q, _⟩ | q
        · exact q
        · exact absurd q hy
        · exact absurd q hy
      have h2 : 2 * (x % y) ≤ x := by
        have e := Nat.div_add_mod x y
        have h1 : x % y < y := Nat.mod_lt _ (by omega)
        have h3 : 1 ≤ x / y := Nat.div_pos (by omega) (by omega)
        have h4 : y * 1 ≤ y * (x / y) := Nat.mul_le_mul_left y h3
        omega
      have e : i + 1 - 1 = (i - 1) + 1 := by omega
      rw [e, Nat.pow_succ]
      calc y * (x % y) * (2 ^ (i - 1) * 2) = y * (2 * (x % y)) * 2 ^ (i - 1) := by
            rw [Nat.mul_comm (2 ^ (i - 1)) 2, ← Nat.mul_assoc, Nat.mul_assoc y (x % y) 2, Nat.mul_comm (x % y) 2]
        _ ≤ y * x * 2 ^ (i - 1) := Nat.mul_le_mul_right _ (Nat.mul_le_mul_left _ h2)
        _ = x * y * 2 ^ (i - 1) := by rw [Nat.mul_comm y x]
        _ ≤ b * b := hp
theorem Eu.stop {a b x y i : Nat} (h : Eu a b x y i) (hy : y = 0) : x = Nat.gcd a b := by rw [← h.g, hy, Nat.gcd_zero_right]
/-- behind enough turns nothing is left -/
theorem Eu.done {a b x y n k : Nat} (h : Eu a b x y n) (hb : b < 2 ^ k) (hn : 2 * k + 1 ≤ n) : y = 0 := by
  rcases Nat.eq_zero_or_pos y with q | q
  · exact q
  · exfalso
    have hp := h.p (by omega)
    have hx : 1 ≤ x := by
      rcases h.s (by omega) with z | ⟨_, z, _⟩ | z <;> omega
    have h1 : 1 ≤ x * y := Nat.mul_pos hx q
    have h2 : 2 ^ (n - 1) ≤ x * y * 2 ^ (n - 1) := Nat.le_mul_of_pos_left _ h1
    have h3 : b * b < 2 ^ (2 * k) := by
      rw [Nat.two_mul, Nat.pow_add]
      exact Nat.mul_lt_mul'' hb hb
    have h4 : 2 ^ (2 * k) ≤ 2 ^ (n - 1) := Nat.pow_le_pow_right (by decide) (by omega)
    omega

/-! ### numbers -/
abbrev Num := Int × Int
def numD (x : Num) : D := .tup [.int x.1, .int x.2]
def mk (n d : Int) : Num := (n / (Nat.gcd n.natAbs d.natAbs : Nat), d / (Nat.gcd n.natAbs d.natAbs : Nat))
/-- a number of at most k bits above and below -/
structure Good (k : Nat) (x : Num) : Prop where
  pos : 0 < x.2
  up : x.1.natAbs < 2 ^ k
  dn : x.2 < 2 ^ k
  co : Nat.gcd x.1.natAbs x.2.natAbs = 1
theorem gcd_pos' {n d : Int} (h : 0 < d) : 0 < Nat.gcd n.natAbs d.natAbs := Nat.gcd_pos_of_pos_right _ (by omega)
theorem natAbs_div {n : Int} {g : Nat} (hg : 0 < g) (hd : g ∣ n.natAbs) : (n / (g : Int)).natAbs = n.natAbs / g := by
  have : (g : Int) ∣ n := Int.ofNat_dvd_left.mpr hd
  rw [Int.natAbs_ediv_of_dvd this, Int.natAbs_natCast]
theorem mk_good {n d : Int} {k : Nat} (h : 0 < d) (hn : n.natAbs < 2 ^ k) (hd : d < 2 ^ k) : Good k (mk n d) := by
  have g0 := gcd_pos' (n := n) h
  have e1 : (mk n d).1.natAbs = n.natAbs / Nat.gcd n.natAbs d.natAbs := natAbs_div g0 (Nat.gcd_dvd_left _ _)
  have e2 : (mk n d).2.natAbs = d.natAbs / Nat.gcd n.natAbs d.natAbs := natAbs_div g0 (Nat.gcd_dvd_right _ _)
  have hdd : ((Nat.gcd n.natAbs d.natAbs : Nat) : Int) ∣ d := Int.ofNat_dvd_left.mpr (Nat.gcd_dvd_right _ _)
  refine ⟨?_, ?_, ?_, ?_⟩
  · exact Int.ediv_pos_of_pos_of_dvd h (by omega) hdd
  · rw [e1]
    exact Nat.lt_of_le_of_lt (Nat.div_le_self _ _) hn
  · refine Int.lt_of_le_of_lt ?_ hd
    exact Int.ediv_le_self _ (by omega)
  · rw [e1, e2, Nat.gcd_div (Nat.gcd_dvd_left _ _) (Nat.gcd_dvd_right _ _)]
    exact Nat.div_self g0
end FS
set_option Elab.async false
set_option linter.all false
set_option maxRecDepth 100000
set_option maxHeartbeats 4000000
namespace FS
open PySem PySem.Spec PyProof.Rows L2
/-! ### the end -/
section
variable {P : Program} {w : World} {K : PySem.W.Frag} {mg : Str → Option Value} {base h : Heap} {x : Str} {st : Stmt} {f : Addr} {fd : FuncData} {N ps : List Str} {k : Nat} {Pr : PrD}
theorem df_of {oc : Value} {od an : Option Addr} {osl : Array (Option Value)} {kV doc pm cdv ct : Value} (X : K.In h) (G : h.Ns mainGlobals mg) (a : PySem.W.nsIn K mainGlobals x = some (some (.ref f))) (l : K.lookup f = some ⟨oc, od, .func (PySem.W.fnOf x x (defArgs st) (defBody st) (defScope st) .none kV doc pm an cdv ct), osl⟩)
    (c : PySem.W.codeIn K cdv x = true) (k : PySem.W.keepIn K (.ref f) = true) (b : ∀ (kV doc pm : Value) (an : Option Addr) (cdv ct : Value) (us : List Value), us.length = ps.length → bindArgs (PySem.W.fnOf x x (defArgs st) (defBody st) (defScope st) .none kV doc pm an cdv ct) ⟨us, []⟩ = pure (ps.zip us)) : Df K mg x st ps :=
  ⟨f, _, fun_mk l c k, PySem.W.mg_of X G a, (fun_mk l c k).binds b⟩
theorem okD (F : Fun K x x st f fd) (S : FnScope N ps (defScope st)) (len : ∀ ds R Z, Pr ds R Z → ds.length = ps.length)
    (hbody : ∀ (f : Addr) (cdv : Value) (A : Around) (outer : List Env) (s : Shared) (H : Hp) (E : XK), Room k (A.deeper (envOfC x (defScope st) s.heap.objs.size f cdv)) →
      ∃ t, PSs (cxOf CX0 P w K mg base N x (defScope st) f cdv A outer s H E).nox (defBody st) t ∧ ∀ ds R Z, Pr ds R Z → Ws K (upX E) t (ds.map .im ++ List.replicate (N.length - ds.length) .no) { nx := fun _ => R (.im .non), rt := R, ex := fun _ => Z }) :
    FnOk P w K mg base CX0 (k + 1) f fd ps (spD K Pr) :=
  F.ok S (fun vs H Q E h => len_fn len h) fun cdv A outer s H vs Q E hr h => by
    obtain ⟨t, h1, h2⟩ := hbody f cdv A outer s H E hr
    exact ⟨t, h1, read_fn h h2⟩
/-- what is asked of a law -/
def P_law : PrD := fun ds R _ => ∃ ns : List Int, ds = [.scr ns] ∧ R (.im (.bl true))
theorem sp_law {H : Hp} {a : Addr} {ns : List Int} (hS : SqL K H a (ns.map V.int)) : spD K P_law [.ref a] H (fun v _ => v = .bl true) fun _ _ _ => False :=
  ⟨[], H, [.scr ns], fun s => s = .im (.bl true), fun _ => False, Opn.all, .one ⟨a, rfl, hS⟩, ⟨ns, rfl, rfl⟩, fun s v H' T' hs _ _ hr => by
    subst hs
    exact hr.1, fun _ _ _ _ _ _ h => h.elim⟩
theorem law_end {k : Nat} {l : PySem.W.OpenLaw} {oc : Value} {od an : Option Addr} {osl : Array (Option Value)} {kV doc pm cdv ct : Value} {fa : Addr} (X : K.In h) (G : h.Ns mainGlobals mg) (hfa : mg "law" = some (.ref fa)) (a : PySem.W.nsIn K mainGlobals "law" = some (some (.ref f))) (lk : K.lookup f = some ⟨oc, od, .func (PySem.W.fnOf "law" "law" (defArgs st) (defBody st) (defScope st) .none kV doc pm an cdv ct), osl⟩)
    (c : PySem.W.codeIn K cdv "law" = true) (kp : PySem.W.keepIn K (.ref f) = true) (CX : CXT)
    (b : ∀ (s : Shared) (v : Value), BindsTo s (PySem.W.fnOf "law" "law" (defArgs st) (defBody st) (defScope st) .none kV doc pm an cdv ct) ⟨[v], []⟩ [("script", v)])
    (ok : ∀ (fd : FuncData) (base : Heap), Fun K "law" "law" st f fd → FnOk l.prog w K mg base CX k f fd ["script"] (spD K P_law)) :
    ∃ fd : FuncData, (∀ (s : Shared) (v : Value), BindsTo s fd ⟨[v], []⟩ [("script", v)]) ∧ ∀ base : Heap, K.In base → base.Ns mainGlobals mg → FnOk l.prog w K mg base CX k fa fd ["script"] (spD K P_law) := by
  have e := hfa.symm.trans (PySem.W.mg_of X G a)
  cases e
  exact ⟨_, b, fun base _ _ => ok _ base (fun_mk lk c kp)⟩
end
end FS
set_option Elab.async false
set_option linter.all false
set_option maxRecDepth 100000
set_option maxHeartbeats 4000000
set_option exponentiation.threshold 20000
namespace FS
open PySem PySem.Spec PyProof.Rows L2
theorem map_get {α : Type} {f : α → D} {l : List α} {i : Nat} {d : D} (h : (l.map f)[i]? = some d) : ∃ x, l[i]? = some x ∧ d = f x := by
  rw [List.getElem?_map] at h
  cases e : l[i]? with
  | none => rw [e] at h; cases h
  | some x =>
    rw [e] at h
    exact ⟨x, rfl, (Option.some.inj h).symm⟩
theorem drop_get {α : Type} {l : List α} {i : Nat} {x : α} (h : l[i]? = some x) : l.drop i = x :: l.drop (i + 1) := by
  obtain ⟨hi, e⟩ := List.getElem?_eq_some_iff.mp h
  rw [List.drop_eq_getElem_cons hi, e]
theorem ws_cut {K : PySem.W.Frag} {E : L2.WX} {t u : TS} {ρ : Rho} {P : Pst} (ρm : Rho) (h : Ws K E t ρ { P with nx := fun ρ' => ρ' = ρm }) (h2 : Ws K E u ρm P) : Ws K E (tSeq t u) ρ P :=
  ws_seq (ws_mono h (fun ρ' e => by rw [show ρ' = ρm from e]; exact h2) (fun _ q => q) (fun _ q => q) (fun _ q => q) fun _ _ q => q)
/-- .. where some slots are told loosely -/
theorem ws_mid {K : PySem.W.Frag} {E : L2.WX} {t u : TS} {ρ : Rho} {P : Pst} (I : Rho → Prop) (h : Ws K E t ρ { P with nx := I }) (h2 : ∀ ρ', I ρ' → Ws K E u ρ' P) : Ws K E (tSeq t u) ρ P :=
  ws_seq (ws_mono h (fun ρ' q => h2 ρ' q) (fun _ q => q) (fun _ q => q) (fun _ q => q) fun _ _ q => q)
def cell (ns : List Int) (k : Int) : Int := if k < ns.length then ns.getD k.toNat 0 else 31 * k + 5
theorem cdiv_200 {i j : Int} (h : 0 < j) (h2 : j < 2 ^ 200) : CDivW i j := wide_div (b := 200) h (by omega) (by decide) (by decide)
theorem scal_ints (l : List Int) : ∀ d ∈ l.map D.int, d.sc = true := by
  intro d hd
  obtain ⟨x, _, rfl⟩ := List.mem_map.mp hd
  rfl
theorem cast_lt {a k : Nat} (h : a < 2 ^ k) : (a : Int) < 2 ^ k := by exact_mod_cast h
theorem abs_lt {d : Int} {k : Nat} (h0 : 0 ≤ d) (h : d < 2 ^ k) : d.natAbs < 2 ^ k := by
  have : (d.natAbs : Int) < ((2 ^ k : Nat) : Int) := by
    rw [Int.natAbs_of_nonneg h0]
    exact_mod_cast h
  exact_mod_cast this
theorem div_up {f : Nat} {d : Int} {k : Nat} (h : f < 2 ^ k) (hd : 0 < d) : ((f : Int) / d).natAbs < 2 ^ k := by
  have e : ((f : Int) / d) = ((f / d.natAbs : Nat) : Int) := by
    have : d = ((d.natAbs : Nat) : Int) := by omega
    rw [Int.natCast_ediv, ← this]
  rw [e, Int.natAbs_natCast]
  exact Nat.lt_of_le_of_lt (Nat.div_le_self _ _) h
theorem EvC.is {K : PySem.W.Frag} {ρ : Rho} {te : TE} {x y : D} (h : EvC K te ρ x) (e : x = y) : EvC K te ρ y := e ▸ h
theorem ev_er {K : PySem.W.Frag} {ρ : Rho} {te : TE} {d : D} (h : EvD K te ρ d) : EvD K te ρ d.er := fun M T0 H T σ X Q e q => h M T0 H T σ X _ e fun v H1 T1 s1 t1 e1 i1 => q v H1 T1 s1 t1 e1 (Is.er d v i1)
theorem erL_kn {α : Type} {f : α → D} : ∀ l : List α, D.erL (l.map fun x => .kn (f x)) = l.map f
  | [] => rfl
  | x :: l => by rw [List.map_cons, List.map_cons, D.erL, erL_kn l] <;> rfl
/-! rows of numbers -/
def intsD (l : List Int) : D := .lst (l.map .int)
def natsD (l : List Nat) : D := .lst (l.map fun n : Nat => .int (n : Int))
def nats (l : List Nat) : List Int := l.map fun n : Nat => (n : Int)
theorem natsD_eq (l : List Nat) : natsD l = intsD (nats l) := by
  unfold natsD intsD nats
  rw [List.map_map]
  rfl
theorem rng_nats (n : Nat) : rng 0 n = (nats (List.range n)).map .int := by
  unfold rng nats
  rw [List.map_map]
  refine List.map_congr_left fun k _ => ?_
  show D.int (0 + (k : Int)) = D.int (k : Int)
  rw [Int.zero_add]
theorem mem_nats {l : List Nat} {x : Nat} : (x : Int) ∈ nats l ↔ x ∈ l := by
  unfold nats
  rw [List.mem_map]
  exact ⟨fun ⟨y, h, e⟩ => by rw [← Int.ofNat.inj e]; exact h, fun h => ⟨x, h, rfl⟩⟩
theorem at_nats {l : List Nat} {k x : Nat} (h : l[k]? = some x) : atI (l.map fun n : Nat => D.int (n : Int)) (k : Int) = some (.int (x : Int)) := at_map (f := fun n : Nat => D.int (n : Int)) h
theorem kf_ints (l : List Int) : (intsD l).kf = true := D.kf_lst fun d hd => D.sc_kf (scal_ints l d hd)
/-- what a filter leaves when one more is looked at -/
theorem filter_range_succ {n : Nat} {p : Nat → Bool} : (List.range (n + 1)).filter p = (List.range n).filter p ++ if p n then [n] else [] := by
  rw [List.range_succ, List.filter_append, List.filter_cons]
  cases p n <;> rfl
theorem rv_p9 {K : PySem.W.Frag} : RvD K rPowA (.int 10) (.int 9) (.int 1000000000) := rv_pow ⟨by decide, by decide, by decide⟩ (by decide)
theorem rv_p31 {K : PySem.W.Frag} : RvD K rPowA (.int 10) (.int 31) (.int 10000000000000000000000000000000) := rv_pow ⟨by decide, by decide, by decide⟩ (by decide)
theorem rv_p51 {K : PySem.W.Frag} : RvD K rPowA (.int 10) (.int 51) (.int 1000000000000000000000000000000000000000000000000000) := rv_pow ⟨by decide, by decide, by decide⟩ (by decide)
end FS
set_option Elab.async false
set_option linter.all false
set_option maxRecDepth 100000
set_option maxHeartbeats 4000000
set_option exponentiation.threshold 20000
namespace FS
open PySem PySem.Spec PyProof.Rows L2

def topS (i : Nat) : Stmt := PySem.Challenge.pw_fairstart_k12_what_is_commonly_believed.main.body.getD i (.Pass ⟨0, 0, 0, 0⟩)
abbrev s_ratio : Stmt := topS 11
abbrev N_ratio : List Str := ["n", "d", "common"]
theorem sc_ratio : FnScope ["n", "d", "common"] ["n", "d"] (defScope s_ratio) := ⟨rfl, rfl, rfl, by decide +kernel, rfl, by decide +kernel, by decide +kernel⟩
abbrev s_check_person : Stmt := topS 16
abbrev N_check_person : List Str := ["book", "person"]
theorem sc_check_person : FnScope ["book", "person"] ["book", "person"] (defScope s_check_person) := ⟨rfl, rfl, rfl, by decide +kernel, rfl, by decide +kernel, by decide +kernel⟩
abbrev s_check_group : Stmt := topS 17
abbrev N_check_group : List Str := ["book", "group", "person"]
theorem sc_check_group : FnScope ["book", "group", "person"] ["book", "group"] (defScope s_check_group) := ⟨rfl, rfl, rfl, by decide +kernel, rfl, by decide +kernel, by decide +kernel⟩
abbrev s_check_world : Stmt := topS 18
abbrev N_check_world : List Str := ["book", "world"]
theorem sc_check_world : FnScope ["book", "world"] ["book", "world"] (defScope s_check_world) := ⟨rfl, rfl, rfl, by decide +kernel, rfl, by decide +kernel, by decide +kernel⟩
abbrev s_check_lot : Stmt := topS 19
abbrev N_check_lot : List Str := ["book", "lot", "world", "at"]
theorem sc_check_lot : FnScope ["book", "lot", "world", "at"] ["book", "lot"] (defScope s_check_lot) := ⟨rfl, rfl, rfl, by decide +kernel, rfl, by decide +kernel, by decide +kernel⟩
abbrev s_check_sights : Stmt := topS 20
abbrev N_check_sights : List Str := ["sights", "worlds", "row", "label"]
theorem sc_check_sights : FnScope ["sights", "worlds", "row", "label"] ["sights"] (defScope s_check_sights) := ⟨rfl, rfl, rfl, by decide +kernel, rfl, by decide +kernel, by decide +kernel⟩
abbrev s_check_odds : Stmt := topS 21
abbrev N_check_odds : List Str := ["sights", "odds", "row", "weight"]
theorem sc_check_odds : FnScope ["sights", "odds", "row", "weight"] ["sights", "odds"] (defScope s_check_odds) := ⟨rfl, rfl, rfl, by decide +kernel, rfl, by decide +kernel, by decide +kernel⟩
abbrev s_numbered : Stmt := topS 22
abbrev N_numbered : List Str := ["row", "seen", "label"]
theorem sc_numbered : FnScope ["row", "seen", "label"] ["row"] (defScope s_numbered) := ⟨rfl, rfl, rfl, by decide +kernel, rfl, by decide +kernel, by decide +kernel⟩
abbrev s_gathered : Stmt := topS 23
abbrev N_gathered : List Str := ["labels", "cells", "_", "world"]
theorem sc_gathered : FnScope ["labels", "cells", "_", "world"] ["labels"] (defScope s_gathered) := ⟨rfl, rfl, rfl, by decide +kernel, rfl, by decide +kernel, by decide +kernel⟩
abbrev s_lowest : Stmt := topS 24
abbrev N_lowest : List Str := ["person", "cells", "weights", "told", "cell", "common", "world"]
theorem sc_lowest : FnScope ["person", "cells", "weights", "told", "cell", "common", "world"] ["person", "cells", "weights"] (defScope s_lowest) := ⟨rfl, rfl, rfl, by decide +kernel, rfl, by decide +kernel, by decide +kernel⟩
abbrev s_Book_init : Stmt := inClass (topS 25) 0
abbrev N_Book_init : List Str := ["self", "sights", "odds", "row", "labels", "person", "weights", "cell", "world"]
theorem sc_Book_init : FnScope ["self", "sights", "odds", "row", "labels", "person", "weights", "cell", "world"] ["self", "sights", "odds"] (defScope s_Book_init) := ⟨rfl, rfl, rfl, by decide +kernel, rfl, by decide +kernel, by decide +kernel⟩
abbrev s_Book_sights : Stmt := inClass (topS 25) 2
abbrev N_Book_sights : List Str := ["self", "row"]
theorem sc_Book_sights : FnScope ["self", "row"] ["self"] (defScope s_Book_sights) := ⟨rfl, rfl, rfl, by decide +kernel, rfl, by decide +kernel, by decide +kernel⟩
abbrev s_Book_odds : Stmt := inClass (topS 25) 3
abbrev N_Book_odds : List Str := ["self", "row"]
theorem sc_Book_odds : FnScope ["self", "row"] ["self"] (defScope s_Book_odds) := ⟨rfl, rfl, rfl, by decide +kernel, rfl, by decide +kernel, by decide +kernel⟩
abbrev s_Book_cells : Stmt := inClass (topS 25) 4
abbrev N_Book_cells : List Str := ["self", "person", "cell"]
theorem sc_Book_cells : FnScope ["self", "person", "cell"] ["self", "person"] (defScope s_Book_cells) := ⟨rfl, rfl, rfl, by decide +kernel, rfl, by decide +kernel, by decide +kernel⟩
abbrev s_Book_cell : Stmt := inClass (topS 25) 5
abbrev N_Book_cell : List Str := ["self", "person", "world"]
theorem sc_Book_cell : FnScope ["self", "person", "world"] ["self", "person", "world"] (defScope s_Book_cell) := ⟨rfl, rfl, rfl, by decide +kernel, rfl, by decide +kernel, by decide +kernel⟩
abbrev s_Book_weight : Stmt := inClass (topS 25) 6
abbrev N_Book_weight : List Str := ["self", "person", "world"]
theorem sc_Book_weight : FnScope ["self", "person", "world"] ["self", "person", "world"] (defScope s_Book_weight) := ⟨rfl, rfl, rfl, by decide +kernel, rfl, by decide +kernel, by decide +kernel⟩
abbrev s_Book_share : Stmt := inClass (topS 25) 7
abbrev N_Book_share : List Str := ["self", "person", "world"]
theorem sc_Book_share : FnScope ["self", "person", "world"] ["self", "person", "world"] (defScope s_Book_share) := ⟨rfl, rfl, rfl, by decide +kernel, rfl, by decide +kernel, by decide +kernel⟩
abbrev s_believes : Stmt := topS 27
abbrev N_believes : List Str := ["book", "person", "lot", "chance", "told", "cell", "total", "held", "world"]
theorem sc_believes : FnScope ["book", "person", "lot", "chance", "told", "cell", "total", "held", "world"] ["book", "person", "lot", "chance"] (defScope s_believes) := ⟨rfl, rfl, rfl, by decide +kernel, rfl, by decide +kernel, by decide +kernel⟩
abbrev s_common_belief : Stmt := topS 28
abbrev N_common_belief : List Str := ["book", "group", "lot", "chance", "told", "person", "first", "world", "count", "held"]
theorem sc_common_belief : FnScope ["book", "group", "lot", "chance", "told", "person", "first", "world", "count", "held"] ["book", "group", "lot", "chance"] (defScope s_common_belief) := ⟨rfl, rfl, rfl, by decide +kernel, rfl, by decide +kernel, by decide +kernel⟩
abbrev s_law_cell : Stmt := topS 30
abbrev N_law_cell : List Str := ["script", "k"]
theorem sc_law_cell : FnScope ["script", "k"] ["script", "k"] (defScope s_law_cell) := ⟨rfl, rfl, rfl, by decide +kernel, rfl, by decide +kernel, by decide +kernel⟩
abbrev s_law_draws : Stmt := topS 31
abbrev N_law_draws : List Str := ["cell", "sizes", "told", "rest", "size", "seed", "k", "mixed"]
theorem sc_law_draws : FnScope ["cell", "sizes", "told", "rest", "size", "seed", "k", "mixed"] ["cell", "sizes"] (defScope s_law_draws) := ⟨rfl, rfl, rfl, by decide +kernel, rfl, by decide +kernel, by decide +kernel⟩
abbrev s_law_gcd : Stmt := topS 32
abbrev N_law_gcd : List Str := ["first", "second", "k", "rest"]
theorem sc_law_gcd : FnScope ["first", "second", "k", "rest"] ["first", "second"] (defScope s_law_gcd) := ⟨rfl, rfl, rfl, by decide +kernel, rfl, by decide +kernel, by decide +kernel⟩
abbrev s_law_same : Stmt := topS 33
abbrev N_law_same : List Str := ["actual", "due", "k"]
theorem sc_law_same : FnScope ["actual", "due", "k"] ["actual", "due"] (defScope s_law_same) := ⟨rfl, rfl, rfl, by decide +kernel, rfl, by decide +kernel, by decide +kernel⟩
abbrev s_law_ratio : Stmt := topS 34
abbrev N_law_ratio : List Str := ["n", "d", "common"]
theorem sc_law_ratio : FnScope ["n", "d", "common"] ["n", "d"] (defScope s_law_ratio) := ⟨rfl, rfl, rfl, by decide +kernel, rfl, by decide +kernel, by decide +kernel⟩
abbrev s_law_weights : Stmt := topS 35
abbrev N_law_weights : List Str := ["cell", "worlds", "least", "large", "sizes", "w", "drawn", "row", "n"]
theorem sc_law_weights : FnScope ["cell", "worlds", "least", "large", "sizes", "w", "drawn", "row", "n"] ["cell", "worlds", "least", "large"] (defScope s_law_weights) := ⟨rfl, rfl, rfl, by decide +kernel, rfl, by decide +kernel, by decide +kernel⟩
abbrev s_law_tables : Stmt := topS 36
abbrev N_law_tables : List Str := ["script", "shape", "worlds", "people", "sights", "odds", "person", "drawn", "menu", "labels", "row", "w", "k", "v"]
theorem sc_law_tables : FnScope ["script", "shape", "worlds", "people", "sights", "odds", "person", "drawn", "menu", "labels", "row", "w", "k", "v"] ["script"] (defScope s_law_tables) := ⟨rfl, rfl, rfl, by decide +kernel, rfl, by decide +kernel, by decide +kernel⟩
abbrev s_law_group : Stmt := topS 37
abbrev N_law_group : List Str := ["cell", "people", "drawn", "k"]
theorem sc_law_group : FnScope ["cell", "people", "drawn", "k"] ["cell", "people"] (defScope s_law_group) := ⟨rfl, rfl, rfl, by decide +kernel, rfl, by decide +kernel, by decide +kernel⟩
abbrev s_law_chance : Stmt := topS 38
abbrev N_law_chance : List Str := ["cell", "tables", "lot", "drawn", "person", "labels", "world", "inside", "w", "total", "held"]
theorem sc_law_chance : FnScope ["cell", "tables", "lot", "drawn", "person", "labels", "world", "inside", "w", "total", "held"] ["cell", "tables", "lot"] (defScope s_law_chance) := ⟨rfl, rfl, rfl, by decide +kernel, rfl, by decide +kernel, by decide +kernel⟩
abbrev s_law_believed : Stmt := topS 39
abbrev N_law_believed : List Str := ["tables", "person", "lot", "chance", "labels", "weights", "told", "w", "inside", "held", "v"]
theorem sc_law_believed : FnScope ["tables", "person", "lot", "chance", "labels", "weights", "told", "w", "inside", "held", "v"] ["tables", "person", "lot", "chance"] (defScope s_law_believed) := ⟨rfl, rfl, rfl, by decide +kernel, rfl, by decide +kernel, by decide +kernel⟩
abbrev s_law_left : Stmt := topS 40
abbrev N_law_left : List Str := ["tables", "group", "lot", "chance", "told", "person", "held", "w", "turn", "before"]
theorem sc_law_left : FnScope ["tables", "group", "lot", "chance", "told", "person", "held", "w", "turn", "before"] ["tables", "group", "lot", "chance"] (defScope s_law_left) := ⟨rfl, rfl, rfl, by decide +kernel, rfl, by decide +kernel, by decide +kernel⟩
abbrev s_law_every_lot : Stmt := topS 41
abbrev N_law_every_lot : List Str := ["worlds", "lots", "w", "lot"]
theorem sc_law_every_lot : FnScope ["worlds", "lots", "w", "lot"] ["worlds"] (defScope s_law_every_lot) := ⟨rfl, rfl, rfl, by decide +kernel, rfl, by decide +kernel, by decide +kernel⟩
abbrev s_law_is_greatest : Stmt := topS 42
abbrev N_law_is_greatest : List Str := ["tables", "group", "lot", "chance", "actual", "people", "person", "first", "other", "fits", "k", "held", "w"]
theorem sc_law_is_greatest : FnScope ["tables", "group", "lot", "chance", "actual", "people", "person", "first", "other", "fits", "k", "held", "w"] ["tables", "group", "lot", "chance", "actual"] (defScope s_law_is_greatest) := ⟨rfl, rfl, rfl, by decide +kernel, rfl, by decide +kernel, by decide +kernel⟩
abbrev s_law_believes_right : Stmt := topS 43
abbrev N_law_believes_right : List Str := ["book", "tables", "person", "lot", "chance", "due", "handed", "answer"]
theorem sc_law_believes_right : FnScope ["book", "tables", "person", "lot", "chance", "due", "handed", "answer"] ["book", "tables", "person", "lot", "chance"] (defScope s_law_believes_right) := ⟨rfl, rfl, rfl, by decide +kernel, rfl, by decide +kernel, by decide +kernel⟩
abbrev s_law_common_right : Stmt := topS 44
abbrev N_law_common_right : List Str := ["book", "tables", "group", "lot", "chance", "due", "handed", "answer"]
theorem sc_law_common_right : FnScope ["book", "tables", "group", "lot", "chance", "due", "handed", "answer"] ["book", "tables", "group", "lot", "chance"] (defScope s_law_common_right) := ⟨rfl, rfl, rfl, by decide +kernel, rfl, by decide +kernel, by decide +kernel⟩
abbrev s_law : Stmt := topS 45
abbrev N_law : List Str := ["script", "tables", "people", "worlds", "book", "row", "drawn", "group", "bits", "w", "lot", "first", "second", "chance", "person"]
theorem sc_law : FnScope ["script", "tables", "people", "worlds", "book", "row", "drawn", "group", "bits", "w", "lot", "first", "second", "chance", "person"] ["script"] (defScope s_law) := ⟨rfl, rfl, rfl, by decide +kernel, rfl, by decide +kernel, by decide +kernel⟩
structure Gm (K : PySem.W.Frag) (mg : Str → Option Value) (C_Book : Addr) : Prop where
  Book__cells : NoAttr K C_Book "_cells"
  Book__labels : NoAttr K C_Book "_labels"
  Book__totals : NoAttr K C_Book "_totals"
  Book__weights : NoAttr K C_Book "_weights"
  Book_c : Cls K C_Book
  Book_people : NoAttr K C_Book "people"
  Book_worlds : NoAttr K C_Book "worlds"
  MOST_PEOPLE : ∃ t, mg "MOST_PEOPLE" = some (.int 6 t)
  MOST_WEIGHT : ∃ t, mg "MOST_WEIGHT" = some (.int 10000000000000000000000000000000000000000 t)
  MOST_WORLDS : ∃ t, mg "MOST_WORLDS" = some (.int 12 t)
  abs : mg "abs" = none
  bool : mg "bool" = none
  gcd : mg "gcd" = some (.builtin "math.gcd")
  int : mg "int" = none
  isinstance : mg "isinstance" = none
  len : mg "len" = none
  list : mg "list" = none
  max : mg "max" = none
  range : mg "range" = none
  sorted : mg "sorted" = none
  sum : mg "sum" = none
  tuple : mg "tuple" = none
end FS
set_option Elab.async false
set_option linter.all false
set_option maxRecDepth 100000
set_option maxHeartbeats 4000000
set_option exponentiation.threshold 20000
namespace FS
open PySem PySem.Spec PyProof.Rows L2

local macro_rules | `(tactic| walk_at "side") => `(tactic| first | assumption | omega | decide)
local macro_rules | `(tactic| walk_at "hv") => `(tactic| (intro i hi; simp at hi; first | (subst hi; rfl) | (rcases hi with rfl | rfl <;> rfl) | (rcases hi with rfl | rfl | rfl <;> rfl)))
local macro_rules | `(tactic| walk_at "pr") => `(tactic| fail "no promise")
local macro_rules | `(tactic| walk_at "rv") => `(tactic| first
  | (with_reducible exact rv_add) | (with_reducible exact rv_sub) | (with_reducible exact rv_lt) | (with_reducible exact rv_le) | (with_reducible exact rv_gt) | (with_reducible exact rv_ge) | (with_reducible exact rv_eq) | (with_reducible exact rv_ne)
  | (with_reducible exact rv_is) | (with_reducible exact rv_isnot)
  | ((with_reducible apply rv_div); first | assumption | exact cdiv_small (by omega) (by omega))
  | ((with_reducible apply rv_mod); first | assumption | omega)
  | ((with_reducible apply rv_mul); first | assumption | exact cmul_left (by omega) | exact cmul_right (by omega))
  | ((with_reducible apply rv_mulW); assumption)
  | (with_reducible exact rv_p8) | (with_reducible exact rv_p18) | (with_reducible exact rv_p40) | (with_reducible exact rv_p20) | (with_reducible exact rv_p6) | (with_reducible exact rv_p7) | (with_reducible exact rv_p12) | (with_reducible exact rv_p25) | (with_reducible exact rv_p30) | (with_reducible exact rv_p39) | (with_reducible exact rv_p60)
  | ((with_reducible apply rv_ixxL); first | assumption | exact at_getD (by omega) (by omega) | exact at_nat rfl)
  | ((with_reducible apply rv_ixxT); first | assumption | exact at_getD (by omega) (by omega) | exact at_nat rfl)
  | ((with_reducible apply rv_ixxC); first | assumption)
  | (with_reducible exact ru_neg))
local macro_rules | `(tactic| walk_at "isi") => `(tactic| first | (with_reducible exact isi_non_int) | (with_reducible exact isi_non_bool) | (with_reducible exact isi_non_str) | (with_reducible exact isi_non_tuple) | (with_reducible exact isi_non_list) | (with_reducible exact isi_bl_int) | (with_reducible exact isi_bl_bool) | (with_reducible exact isi_bl_str) | (with_reducible exact isi_bl_tuple) | (with_reducible exact isi_bl_list) | (with_reducible exact isi_int_int) | (with_reducible exact isi_int_bool) | (with_reducible exact isi_int_str) | (with_reducible exact isi_int_tuple) | (with_reducible exact isi_int_list) | (with_reducible exact isi_str_int) | (with_reducible exact isi_str_bool) | (with_reducible exact isi_str_str) | (with_reducible exact isi_str_tuple) | (with_reducible exact isi_str_list) | (with_reducible exact isi_tup_int) | (with_reducible exact isi_tup_bool) | (with_reducible exact isi_tup_str) | (with_reducible exact isi_tup_tuple) | (with_reducible exact isi_tup_list) | (with_reducible exact isi_lst_int) | (with_reducible exact isi_lst_bool) | (with_reducible exact isi_lst_str) | (with_reducible exact isi_lst_tuple) | (with_reducible exact isi_lst_list))
local macro_rules | `(tactic| walk_at "rc") => `(tactic| first
  | walk_at "isi"
  | (with_reducible exact rc_len) | (with_reducible exact rc_lent) | (with_reducible exact rc_lenc) | (with_reducible exact rc_toint) | (with_reducible exact rc_absv) | (with_reducible exact rc_gcd)
  | ((with_reducible apply rc_lcm); assumption)
  | ((with_reducible apply rc_isi); (focus rfl); assumption)
  | (with_reducible exact rco_list) | (with_reducible exact rco_listT))
local macro_rules | `(tactic| walk_at "ev") => `(tactic| first
  | (with_reducible exact ev_int) | (with_reducible exact ev_bl) | (with_reducible exact ev_non) | (with_reducible exact ev_str) | (with_reducible exact ev_ty)
  | ((with_reducible apply ev_var); rfl)
  | ((with_reducible apply ev_lenOw); rfl)
  | ((with_reducible apply ev_op) <;> first | walk_at "ev" | walk_at "rv")
  | ((with_reducible apply ev_un) <;> first | walk_at "ev" | walk_at "rv")
  | ((with_reducible apply ev_cb) <;> first | walk_at "ev" | walk_at "rc")
  | ((with_reducible apply ev_call) <;> first | walk_at "ev" | walk_at "pr")
  | ((with_reducible apply ev_tup) <;> first | walk_at "ev" | (simp; done))
  | (with_reducible exact ea_nil)
  | ((with_reducible apply ea_cons) <;> walk_at "ev")
  | ((with_reducible apply et_test); walk_at "ev")
  | ((with_reducible apply et_B); walk_at "ev")
  | ((with_reducible apply et_not); walk_at "ev")
  | ((with_reducible apply et_or); (walk_at "ev"); intro _; walk_at "ev")
  | ((with_reducible apply et_and); (walk_at "ev"); intro _; walk_at "ev")
  | ((with_reducible apply ev_orV); (walk_at "ev"); intro _; walk_at "ev")
  | ((with_reducible apply ev_andV); (walk_at "ev"); intro _; walk_at "ev")
  | ((with_reducible apply ev_notV); walk_at "ev")
  | (with_reducible exact et_yes)
  | ((with_reducible apply evo_lst) <;> first | walk_at "ev" | (simp; done))
  | ((with_reducible apply ev_opO) <;> first | walk_at "ev" | ((with_reducible apply rvo_add); simp; omega))
  | ((with_reducible apply ev_cbO) <;> first | walk_at "ev" | walk_at "rc")
  | ((with_reducible apply ev_callO) <;> first | walk_at "ev" | walk_at "pr")
  | ((with_reducible apply ec_call) <;> first | walk_at "ev" | walk_at "pr")
  | ((with_reducible apply ec_tup) <;> first | walk_at "ev" | (simp; done))
  | ((with_reducible apply ec_lst) <;> first | walk_at "ev" | (simp; done))
  | (with_reducible exact eca_nil)
  | ((with_reducible apply eca_cons) <;> walk_at "ev")
  | ((with_reducible apply ec_sc); (walk_at "ev"); rfl)
  | ((with_reducible apply ec_ow); (walk_at "ev"); first | assumption | (intro d hd; simp at hd; done))
  | ((with_reducible apply ec_fz); walk_at "ev")
  | ((with_reducible apply ev_fz); walk_at "ev"))

local macro_rules | `(tactic| walk_at "im") => `(tactic| ((with_reducible apply wq_asg); walk_at "ev"; (try dsimp only [List.set, Int.reduceToNat])))
local macro_rules | `(tactic| walk_at "ow") => `(tactic| ((with_reducible apply wq_asgO); walk_at "ev"; (focus (first | decide | (simp; done))); (try dsimp only [List.set, Int.reduceToNat])))
local macro_rules | `(tactic| walk_at "cl") => `(tactic| ((with_reducible apply wq_asgC); walk_at "ev"; (focus (first | decide | (simp; done))); (try dsimp only [List.set, Int.reduceToNat])))
local macro_rules | `(tactic| walk_at "if") => `(tactic| ((first | (with_reducible apply wq_when) | (with_reducible apply wq_if) | (with_reducible apply ws_if)); walk_at "ev"; (try dsimp only [Int.reduceToNat])))
local macro_rules | `(tactic| walk_at "ret") => `(tactic| ((with_reducible apply ws_ret); walk_at "ev"))
local macro_rules | `(tactic| walk_at "go") => `(tactic| (try dsimp only [cxOf, L2.Cx.nox, L2.Cx.wish, L2.Cx.blk]))
local macro_rules | `(tactic| walk_at "ints") => `(tactic| (refine ev_fz (evo_lst ?_ (by decide)); repeat (first | exact ea_nil | refine ea_cons ev_int ?_)))

section
variable {P : Program} {w : World} {K : PySem.W.Frag} {mg : Str → Option Value} {base : Heap} {C_Book : Addr}
/-! ### the script's cells -/
def P_cell : PrD := fun ds R _ => ∃ ns k, ds = [.scr ns, .int k] ∧ 0 ≤ k ∧ R (.im (.int (cell ns k)))
theorem ok_cell (F : Df K mg "_law_cell" s_law_cell ["script", "k"]) (gm : Gm K mg C_Book) : FnG P w K mg base CX0 1 "_law_cell" ["script", "k"] (spD K P_cell) := by
  refine F.ok (k := 0) sc_law_cell (fun ds R Z ⟨ns, k, e, _⟩ => by rw [e] <;> rfl) (fun f cdv A outer s H E hr => ?_)
  refine ⟨_,
    (pss_cons (ps_if (pt_cmpR opLt (pv 1) (cb (kLen K) gm.len (pa_cons (pv 0) pa_nil)) (nomark _)) (pss_one (ps_ret (ix K (pv 0) (pv 1)))) pss_nil)
    (pss_one (ps_ret (pe_op (kAdd K) (pe_op opMul pe_int (pv 1)) pe_int)))), fun ds R Z p => ?_⟩
  obtain ⟨ns, k, rfl, h0, p⟩ := p
  refine ws_to (ρ' := [.im (.scr ns), .im (.int k)]) rfl ?_
  walk_at "go"
  walk_at "if" <;> intro hb
  · have hb : k < ns.length := of_decide_eq_true hb
    have hi := atI_getD h0 hb
    unfold cell at p
    rw [if_pos hb] at p
    walk_at "ret"
    exact p
  · have hb : ¬ k < ns.length := of_decide_eq_false hb
    unfold cell at p
    rw [if_neg hb] at p
    walk_at "ret"
    exact p
theorem pr_cell {ns : List Int} {k : Int} (h : 0 ≤ k) : P_cell [.scr ns, .int k] (fun s => s = .im (.int (cell ns k))) (fun _ => False) := ⟨ns, k, rfl, h, rfl⟩
end

section
variable {P : Program} {w : World} {K : PySem.W.Frag} {mg : Str → Option Value} {base : Heap} {C_Book : Addr}
/-! ### draws -/
def P_draws : PrD := fun ds R _ => ∃ c sizes, ds = [.int c, .lst (sizes.map .int)] ∧ (∀ s ∈ sizes, 0 < s ∧ s < 2 ^ 200) ∧ sizes.length ≤ 1000 ∧ R (.cl (.lst ((draws c sizes).map .int)))

theorem ok_draws (F : Df K mg "_law_draws" s_law_draws ["cell", "sizes"]) (gm : Gm K mg C_Book) : FnG P w K mg base CX0 1 "_law_draws" ["cell", "sizes"] (spD K P_draws) := by
  refine F.ok (k := 0) sc_law_draws (fun ds R Z ⟨c, sizes, e, _⟩ => by rw [e] <;> rfl) (fun f cdv A outer s H E hr => ?_)
  refine ⟨_,
    (pss_cons (sv 2 sc_law_draws.nd (pe_lst pa_nil))
    (pss_cons (sv 3 sc_law_draws.nd (ct cInt gm.int (pa_cons (pv 0) pa_nil)))
    (pss_cons (ps_if (pt_cmpR opGe (pv 3) (pe_op opPow pe_int pe_int) (nomark _)) (pss_cons (sv 3 sc_law_draws.nd (pe_op opSub (pv 3) (pe_op opPow pe_int pe_int))) (pss_cons (ps_for PassesOwn.never rfl (pl K (pv 1)) (gn 4 sc_law_draws.nd) (pss_cons (ps_expr (ml_append K (pv 2) (pa_cons (pe_op opMod (ct cInt gm.int (pa_cons (pv 3) pa_nil)) (pv 4)) pa_nil))) (pss_one (sv 3 sc_law_draws.nd (pe_op opDiv (pv 3) (pv 4)))))) (pss_one (ps_ret (pv 2))))) pss_nil)
    (pss_cons (sv 5 sc_law_draws.nd (pe_op opMod (ct cInt gm.int (pa_cons (pv 3) pa_nil)) pe_int))
    (pss_cons (ps_for PassesOwn.never rfl (pi_range1 (by rfl) gm.range (pa_cons (cb (kLen K) gm.len (pa_cons (pv 1) pa_nil)) pa_nil)) (gn 6 sc_law_draws.nd) (pss_cons (sv 5 sc_law_draws.nd (pe_op opMod (ct cInt gm.int (pa_cons (pe_op (kAdd K) (pe_op (kAdd K) (pe_op opMul (pv 5) pe_int) (pe_op opMul pe_int (pv 6))) pe_int) pa_nil)) pe_int)) (pss_cons (sv 7 sc_law_draws.nd (pe_op opMod (ct cInt gm.int (pa_cons (pe_op (kAdd K) (pe_op (kAdd K) (pe_op opMul (pv 5) pe_int) (pe_op opMul pe_int (pv 6))) pe_int) pa_nil)) pe_int)) (pss_one (ps_expr (ml_append K (pv 2) (pa_cons (pe_op opMod (ct cInt gm.int (pa_cons (pe_op opDiv (pv 7) pe_int) pa_nil)) (ix K (pv 1) (pv 6))) pa_nil)))))))
    (pss_one (ps_ret (pv 2)))))))), fun ds R Z p => ?_⟩
  obtain ⟨c, sizes, rfl, hsz, hl, p⟩ := p
  refine ws_to (ρ' := [.im (.int c), .im (.lst (sizes.map .int)), .no, .no, .no, .no, .no, .no]) rfl ?_
  walk_at "go"
  walk_at "ow"
  walk_at "im"
  walk_at "if" <;> intro hb
  · have hb : (1000000000000000000 : Int) ≤ c := of_decide_eq_true hb
    rw [draws, if_pos hb] at p
    walk_at "im"
    refine wq_for (src_list (ev_var rfl)) (fun i ρ' => ∃ told rest s4, ρ' = [.im (.int c), .im (.lst (sizes.map .int)), .ow (told.map .int), .im (.int rest), s4, .no, .no, .no] ∧ told.length = i ∧ told ++ drawsBig rest (sizes.drop i) = drawsBig (c - 1000000000000000000) sizes) ⟨[], _, .no, rfl, rfl, rfl⟩ ?_ ?_
    · rintro i d ρ' hd ⟨told, rest, s4, rfl, hi, e⟩
      obtain ⟨x, hx, rfl⟩ := map_get hd
      have hb2 := hsz x (List.mem_of_getElem? hx)
      have hi2 := (List.getElem?_eq_some_iff.mp hx).1
      refine ⟨_, gd_name, ?_⟩
      dsimp only [setD, List.set]
      have hx0 : 0 < x := hb2.1
      have hdv : ∀ z, CDivW z x := fun z => cdiv_200 hb2.1 hb2.2
      refine wq_app rfl (d := .int (rest % x)) (by walk_at "ev") (by rw [List.length_map]; omega) ?_
      dsimp only [List.set]
      refine ws_asg (d := .int (rest / x)) (ev_op (ev_var rfl) (ev_var rfl) (rv_div (hdv _))) ?_
      refine ⟨told ++ [rest % x], rest / x, .im (.int x), ?_, by rw [List.length_append, hi]; rfl, ?_⟩
      · rw [List.map_append]; rfl
      · rw [← e, drop_get hx, drawsBig, List.append_assoc]; rfl
    · rintro ρ' ⟨told, rest, s4, rfl, hi, e⟩
      rw [List.length_map, List.drop_length, drawsBig, List.append_nil] at e
      refine ws_owcl (i := 2) rfl (scal_ints _) ?_
      refine ws_retVc rfl ?_
      rw [e]
      exact p
  · have hb : ¬ (1000000000000000000 : Int) ≤ c := of_decide_eq_false hb
    rw [draws, if_neg hb] at p
    walk_at "im"
    refine wq_for (src_rng1 (n := ((sizes.map D.int).length : Int)) (by walk_at "ev") (by rw [List.length_map]; omega)) (fun i ρ' => ∃ told seed s6 s7, ρ' = [.im (.int c), .im (.lst (sizes.map .int)), .ow (told.map .int), .im (.int c), .no, .im (.int seed), s6, s7] ∧ told.length = i ∧ told ++ drawsLow seed i (sizes.drop i) = drawsLow (c % 2147483647) 0 sizes) ⟨[], _, .no, .no, rfl, rfl, rfl⟩ ?_ ?_
    · rintro i d ρ' hd ⟨told, seed, s6, s7, rfl, hi, e⟩
      obtain ⟨hi2, rfl⟩ := rng_get hd
      have hi3 : i < sizes.length := by rw [List.length_map] at hi2; omega
      obtain ⟨x, hx⟩ := get_some hi3
      have hb2 := hsz x (List.mem_of_getElem? hx)
      have hx0 : 0 < x := hb2.1
      refine ⟨_, gd_name, ?_⟩
      dsimp only [setD, List.set]
      rw [Int.zero_add]
      have hxi : atI (sizes.map D.int) (i : Int) = some (.int x) := at_map hx
      walk_at "im"
      walk_at "im"
      refine ws_app rfl (d := .int ((((seed * 48271 + 11 * i + 7) % 2147483647) * 69621 + 3 * i + 1) % 2147483629 / 7 % x)) (by walk_at "ev") (by rw [List.length_map]; omega) ?_
      refine ⟨told ++ [(((seed * 48271 + 11 * i + 7) % 2147483647) * 69621 + 3 * i + 1) % 2147483629 / 7 % x], (seed * 48271 + 11 * i + 7) % 2147483647, .im (.int i), .im (.int ((((seed * 48271 + 11 * i + 7) % 2147483647) * 69621 + 3 * i + 1) % 2147483629)), ?_, by rw [List.length_append, hi]; rfl, ?_⟩
      · rw [List.map_append]; rfl
      · rw [← e, drop_get hx, drawsLow, List.append_assoc]
        rfl
    · rintro ρ' ⟨told, seed, s6, s7, rfl, hi, e⟩
      rw [rng_len, List.length_map, Int.toNat_natCast, List.drop_length, drawsLow, List.append_nil] at e
      refine ws_owcl (i := 2) rfl (scal_ints _) ?_
      refine ws_retVc rfl ?_
      rw [e]
      exact p
theorem pr_draws {c : Int} {sizes : List Int} (h : ∀ s ∈ sizes, 0 < s ∧ s < 2 ^ 200) (hl : sizes.length ≤ 1000) : P_draws [.int c, .lst (sizes.map .int)] (fun s => s = .cl (.lst ((draws c sizes).map .int))) (fun _ => False) := ⟨c, sizes, rfl, h, hl, rfl⟩
end

section
variable {P : Program} {w : World} {K : PySem.W.Frag} {mg : Str → Option Value} {base : Heap} {C_Book : Addr}
/-! ### _law_gcd -/
def P_gcd (k : Nat) : PrD := fun ds R _ => ∃ a b : Int, ds = [.int a, .int b] ∧ 0 ≤ a ∧ 0 ≤ b ∧ b < 2 ^ k ∧ R (.im (.int (Nat.gcd a.natAbs b.natAbs : Nat)))
theorem pr_gcd {k : Nat} {a b : Int} (h0 : 0 ≤ a) (h1 : 0 ≤ b) (h2 : b < 2 ^ k) : P_gcd k [.int a, .int b] (fun s => s = .im (.int (Nat.gcd a.natAbs b.natAbs : Nat))) (fun _ => False) := ⟨a, b, rfl, h0, h1, h2, rfl⟩
theorem ok_gcd (F : Df K mg "_law_gcd" s_law_gcd ["first", "second"]) (gm : Gm K mg C_Book) : FnG P w K mg base CX0 1 "_law_gcd" ["first", "second"] (spD K (P_gcd 1999)) := by
  refine F.ok (k := 0) sc_law_gcd (fun ds R Z ⟨a, b, e, _⟩ => by rw [e] <;> rfl) (fun f cdv A outer s H E hr => ?_)
  refine ⟨_,
    (pss_cons (ps_for PassesOwn.never rfl (pi_range1 (by rfl) gm.range (pa_cons pe_int pa_nil)) (gn 2 sc_law_gcd.nd) (pss_cons (ps_if (pt_cmpR (kEq K hr.units) (pv 1) pe_int (nomark _)) (pss_one (ps_ret (pv 0))) pss_nil) (pss_cons (sv 3 sc_law_gcd.nd (pe_op opMod (ct cInt gm.int (pa_cons (pv 0) pa_nil)) (pv 1))) (pss_cons (sv 0 sc_law_gcd.nd (pv 1)) (pss_one (sv 1 sc_law_gcd.nd (pv 3)))))))
    (pss_one (ps_ret (pv 0)))), fun ds R Z p => ?_⟩
  obtain ⟨a0, b0, rfl, h0, h1, h2, p⟩ := p
  obtain ⟨a, rfl⟩ : ∃ a : Nat, a0 = a := ⟨a0.toNat, by omega⟩
  obtain ⟨b, rfl⟩ : ∃ b : Nat, b0 = b := ⟨b0.toNat, by omega⟩
  rw [Int.natAbs_natCast, Int.natAbs_natCast] at p
  have hb : b < 2 ^ 1999 := by
    have : (b : Int) < ((2 ^ 1999 : Nat) : Int) := by
      rw [Int.natCast_pow]
      exact h2
    exact Int.ofNat_lt.mp this
  refine ws_to (ρ' := [.im (.int a), .im (.int b), .no, .no]) rfl ?_
  walk_at "go"
  refine wq_for (src_rng1 (n := 4000) (by walk_at "ev") (by decide)) (fun i ρ' => ∃ (x y : Nat) (s2 s3 : Sl), ρ' = [.im (.int x), .im (.int y), s2, s3] ∧ Eu a b x y i) ⟨a, b, .no, .no, rfl, Eu.start a b⟩ ?_ ?_
  · rintro i d ρ' hd ⟨x, y, s2, s3, rfl, eu⟩
    obtain ⟨_, rfl⟩ := rng_get hd
    refine ⟨_, gd_name, ?_⟩
    dsimp only [setD, List.set]
    walk_at "if" <;> intro hb
    · have hy : (y : Int) = 0 := of_decide_eq_true hb
      have hy : y = 0 := by omega
      refine ws_ret (ev_var rfl) ?_
      show R _
      rw [eu.stop hy]
      exact p
    · have hy : ¬ (y : Int) = 0 := of_decide_eq_false hb
      have hy0 : 0 < (y : Int) := by omega
      walk_at "im"
      walk_at "im"
      refine ws_asg (ev_var rfl) ?_
      exact ⟨y, x % y, _, _, by rw [Int.natCast_emod]; rfl, eu.turn (by omega)⟩
  · rintro ρ' ⟨x, y, s2, s3, rfl, eu⟩
    refine ws_ret (ev_var rfl) ?_
    show R _
    rw [eu.stop (eu.done hb (by rw [rng_len]; decide))]
    exact p
end
end FS
set_option Elab.async false
set_option linter.all false
set_option maxRecDepth 100000
set_option maxHeartbeats 4000000
set_option exponentiation.threshold 20000
namespace FS
open PySem PySem.Spec PyProof.Rows L2

local macro_rules | `(tactic| walk_at "side") => `(tactic| first | assumption | omega | decide)
local macro_rules | `(tactic| walk_at "hv") => `(tactic| (intro i hi; simp at hi; first | (subst hi; rfl) | (rcases hi with rfl | rfl <;> rfl) | (rcases hi with rfl | rfl | rfl <;> rfl)))
local macro_rules | `(tactic| walk_at "pr") => `(tactic| fail "no promise")
local macro_rules | `(tactic| walk_at "rv") => `(tactic| first
  | (with_reducible exact rv_add) | (with_reducible exact rv_sub) | (with_reducible exact rv_lt) | (with_reducible exact rv_le) | (with_reducible exact rv_gt) | (with_reducible exact rv_ge) | (with_reducible exact rv_eq) | (with_reducible exact rv_ne)
  | (with_reducible exact rv_is) | (with_reducible exact rv_isnot)
  | ((with_reducible apply rv_div); first | assumption | exact cdiv_small (by omega) (by omega))
  | ((with_reducible apply rv_mod); first | assumption | omega)
  | ((with_reducible apply rv_mul); first | assumption | exact cmul_left (by omega) | exact cmul_right (by omega))
  | ((with_reducible apply rv_mulW); assumption)
  | (with_reducible exact rv_p8) | (with_reducible exact rv_p18) | (with_reducible exact rv_p40) | (with_reducible exact rv_p20) | (with_reducible exact rv_p6) | (with_reducible exact rv_p7) | (with_reducible exact rv_p12) | (with_reducible exact rv_p25) | (with_reducible exact rv_p30) | (with_reducible exact rv_p39) | (with_reducible exact rv_p60)
  | ((with_reducible apply rv_ixxL); first | assumption | exact at_getD (by omega) (by omega) | exact at_nat rfl)
  | ((with_reducible apply rv_ixxT); first | assumption | exact at_getD (by omega) (by omega) | exact at_nat rfl)
  | ((with_reducible apply rv_ixxC); first | assumption)
  | (with_reducible exact ru_neg))
local macro_rules | `(tactic| walk_at "isi") => `(tactic| first | (with_reducible exact isi_non_int) | (with_reducible exact isi_non_bool) | (with_reducible exact isi_non_str) | (with_reducible exact isi_non_tuple) | (with_reducible exact isi_non_list) | (with_reducible exact isi_bl_int) | (with_reducible exact isi_bl_bool) | (with_reducible exact isi_bl_str) | (with_reducible exact isi_bl_tuple) | (with_reducible exact isi_bl_list) | (with_reducible exact isi_int_int) | (with_reducible exact isi_int_bool) | (with_reducible exact isi_int_str) | (with_reducible exact isi_int_tuple) | (with_reducible exact isi_int_list) | (with_reducible exact isi_str_int) | (with_reducible exact isi_str_bool) | (with_reducible exact isi_str_str) | (with_reducible exact isi_str_tuple) | (with_reducible exact isi_str_list) | (with_reducible exact isi_tup_int) | (with_reducible exact isi_tup_bool) | (with_reducible exact isi_tup_str) | (with_reducible exact isi_tup_tuple) | (with_reducible exact isi_tup_list) | (with_reducible exact isi_lst_int) | (with_reducible exact isi_lst_bool) | (with_reducible exact isi_lst_str) | (with_reducible exact isi_lst_tuple) | (with_reducible exact isi_lst_list))
local macro_rules | `(tactic| walk_at "rc") => `(tactic| first
  | walk_at "isi"
  | (with_reducible exact rc_len) | (with_reducible exact rc_lent) | (with_reducible exact rc_lenc) | (with_reducible exact rc_toint) | (with_reducible exact rc_absv) | (with_reducible exact rc_gcd)
  | ((with_reducible apply rc_lcm); assumption)
  | ((with_reducible apply rc_isi); (focus rfl); assumption)
  | (with_reducible exact rco_list) | (with_reducible exact rco_listT))
local macro_rules | `(tactic| walk_at "ev") => `(tactic| first
  | (with_reducible exact ev_int) | (with_reducible exact ev_bl) | (with_reducible exact ev_non) | (with_reducible exact ev_str) | (with_reducible exact ev_ty)
  | ((with_reducible apply ev_var); rfl)
  | ((with_reducible apply ev_lenOw); rfl)
  | ((with_reducible apply ev_op) <;> first | walk_at "ev" | walk_at "rv")
  | ((with_reducible apply ev_un) <;> first | walk_at "ev" | walk_at "rv")
  | ((with_reducible apply ev_cb) <;> first | walk_at "ev" | walk_at "rc")
  | ((with_reducible apply ev_call) <;> first | walk_at "ev" | walk_at "pr")
  | ((with_reducible apply ev_tup) <;> first | walk_at "ev" | (simp; done))
  | (with_reducible exact ea_nil)
  | ((with_reducible apply ea_cons) <;> walk_at "ev")
  | ((with_reducible apply et_test); walk_at "ev")
  | ((with_reducible apply et_B); walk_at "ev")
  | ((with_reducible apply et_not); walk_at "ev")
  | ((with_reducible apply et_or); (walk_at "ev"); intro _; walk_at "ev")
  | ((with_reducible apply et_and); (walk_at "ev"); intro _; walk_at "ev")
  | ((with_reducible apply ev_orV); (walk_at "ev"); intro _; walk_at "ev")
  | ((with_reducible apply ev_andV); (walk_at "ev"); intro _; walk_at "ev")
  | ((with_reducible apply ev_notV); walk_at "ev")
  | (with_reducible exact et_yes)
  | ((with_reducible apply evo_lst) <;> first | walk_at "ev" | (simp; done))
  | ((with_reducible apply ev_opO) <;> first | walk_at "ev" | ((with_reducible apply rvo_add); simp; omega))
  | ((with_reducible apply ev_cbO) <;> first | walk_at "ev" | walk_at "rc")
  | ((with_reducible apply ev_callO) <;> first | walk_at "ev" | walk_at "pr")
  | ((with_reducible apply ec_call) <;> first | walk_at "ev" | walk_at "pr")
  | ((with_reducible apply ec_tup) <;> first | walk_at "ev" | (simp; done))
  | ((with_reducible apply ec_lst) <;> first | walk_at "ev" | (simp; done))
  | (with_reducible exact eca_nil)
  | ((with_reducible apply eca_cons) <;> walk_at "ev")
  | ((with_reducible apply ec_sc); (walk_at "ev"); rfl)
  | ((with_reducible apply ec_ow); (walk_at "ev"); first | assumption | (intro d hd; simp at hd; done))
  | ((with_reducible apply ec_fz); walk_at "ev")
  | ((with_reducible apply ev_fz); walk_at "ev"))

local macro_rules | `(tactic| walk_at "im") => `(tactic| ((with_reducible apply wq_asg); walk_at "ev"; (try dsimp only [List.set, Int.reduceToNat])))
local macro_rules | `(tactic| walk_at "ow") => `(tactic| ((with_reducible apply wq_asgO); walk_at "ev"; (focus (first | decide | (simp; done))); (try dsimp only [List.set, Int.reduceToNat])))
local macro_rules | `(tactic| walk_at "cl") => `(tactic| ((with_reducible apply wq_asgC); walk_at "ev"; (focus (first | decide | (simp; done))); (try dsimp only [List.set, Int.reduceToNat])))
local macro_rules | `(tactic| walk_at "if") => `(tactic| ((first | (with_reducible apply wq_when) | (with_reducible apply wq_if) | (with_reducible apply ws_if)); walk_at "ev"; (try dsimp only [Int.reduceToNat])))
local macro_rules | `(tactic| walk_at "ret") => `(tactic| ((with_reducible apply ws_ret); walk_at "ev"))
local macro_rules | `(tactic| walk_at "go") => `(tactic| (try dsimp only [cxOf, L2.Cx.nox, L2.Cx.wish, L2.Cx.blk]))
local macro_rules | `(tactic| walk_at "ints") => `(tactic| (refine ev_fz (evo_lst ?_ (by decide)); repeat (first | exact ea_nil | refine ea_cons ev_int ?_)))

section
variable {P : Program} {w : World} {K : PySem.W.Frag} {mg : Str → Option Value} {base : Heap} {C_Book : Addr}
/-! ### _law_ratio -/
def P_ratio (k : Nat) : PrD := fun ds R _ => ∃ n d : Int, ds = [.int n, .int d] ∧ 0 < d ∧ d < 2 ^ k ∧ R (.cl (numD (mk n d)))
theorem pr_ratio {k : Nat} {n d : Int} (h0 : 0 < d) (h1 : d < 2 ^ k) : P_ratio k [.int n, .int d] (fun s => s = .cl (numD (mk n d))) (fun _ => False) := ⟨n, d, rfl, h0, h1, rfl⟩
theorem ok_ratio (F : Df K mg "_law_ratio" s_law_ratio ["n", "d"]) (gm : Gm K mg C_Book) (G_law_gcd : FnG P w K mg base CX0 1 "_law_gcd" ["first", "second"] (spD K (P_gcd 1999))) : FnG P w K mg base CX0 2 "_law_ratio" ["n", "d"] (spD K (P_ratio 1999)) := by
  refine F.ok (k := 1) sc_law_ratio (fun ds R Z ⟨a, b, e, _⟩ => by rw [e] <;> rfl) (fun f cdv A outer s H E hr => ?_)
  refine ⟨_,
    (pss_cons (sv 2 sc_law_ratio.nd (pe_g G_law_gcd hr.le pass0 (pa_cons (cb cAbs gm.abs (pa_cons (pv 0) pa_nil)) (pa_cons (pv 1) pa_nil))))
    (pss_one (ps_ret (pe_tup (pa_cons (pe_op opDiv (pv 0) (pv 2)) (pa_cons (pe_op opDiv (pv 1) (pv 2)) pa_nil)))))), fun ds R Z p => ?_⟩
  obtain ⟨n, d, rfl, h0, h1, p⟩ := p
  refine ws_to (ρ' := [.im (.int n), .im (.int d), .no]) rfl ?_
  walk_at "go"
  refine wq_asg (ev_call (by walk_at "ev") (pr_gcd (by omega) (by omega) h1)) ?_
  rw [Int.natAbs_natCast]
  have g0 : 0 < Nat.gcd n.natAbs d.natAbs := gcd_pos' h0
  have g1 : Nat.gcd n.natAbs d.natAbs ≤ d.natAbs := Nat.gcd_le_right _ (by omega)
  have g2 : d.natAbs < 2 ^ 1999 := by
    have : (d.natAbs : Int) < ((2 ^ 1999 : Nat) : Int) := by
      rw [Int.natCast_pow, Int.natAbs_of_nonneg (by omega)]
      exact h1
    exact Int.ofNat_lt.mp this
  have cd : ∀ z, CDivW z (Nat.gcd n.natAbs d.natAbs : Nat) := fun z => wide_div (b := 1999) (by omega) (by rw [Int.natAbs_natCast]; exact Nat.lt_of_le_of_lt g1 g2) (by decide) (by decide)
  dsimp only [List.set]
  have c1 := cd n
  have c2 := cd d
  apply ws_retC
  · walk_at "ev"
  · exact p
end

section
variable {P : Program} {w : World} {K : PySem.W.Frag} {mg : Str → Option Value} {base : Heap} {C_Book : Addr}
/-! ### _law_same, of equal data -/
def P_same (n : Nat) : PrD := fun ds R _ => ∃ y, ds = [y, y] ∧ D.pl n y = true ∧ R (.im (.bl true))
def P_same' : Nat → PrD
  | 0 => fun _ _ _ => False
  | n + 1 => P_same n
theorem pr_same {n : Nat} {y : D} (h : D.pl n y = true) : P_same n [y, y] (fun s => s = .im (.bl true)) (fun _ => False) := ⟨y, rfl, h, rfl⟩
theorem ok_same1 (n : Nat) (F : Df K mg "_law_same" s_law_same ["actual", "due"]) (gm : Gm K mg C_Book) (G_law_same : FnG P w K mg base CX0 n "_law_same" ["actual", "due"] (spD K (P_same' n))) : FnG P w K mg base CX0 (n + 1) "_law_same" ["actual", "due"] (spD K (P_same' (n + 1))) := by
  refine F.ok (k := n) sc_law_same (fun ds R Z ⟨a, e, _⟩ => by rw [e] <;> rfl) (fun f cdv A outer s H E hr => ?_)
  refine ⟨_,
    (pss_cons (ps_if (pt_cmpR opIsN (pv 1) pe_non (nomark _)) (pss_one (ps_ret (pe_cmpR opIsN (pv 0) pe_non (nomark _)))) pss_nil)
    (pss_cons (ps_if (pt_val (cb (kIsi K) gm.isinstance (pa_cons (pv 1) (pa_cons (pe_bltn (v := .ty "int") (by rfl) gm.int (by decide +kernel) rfl) pa_nil)))) (pss_one (ps_ret (pe_and (cb (kIsi K) gm.isinstance (pa_cons (pv 0) (pa_cons (pe_bltn (v := .ty "int") (by rfl) gm.int (by decide +kernel) rfl) pa_nil))) (pe_and (pe_not (cb (kIsi K) gm.isinstance (pa_cons (pv 0) (pa_cons (pe_bltn (v := .ty "bool") (by rfl) gm.bool (by decide +kernel) rfl) pa_nil)))) (pe_one (pe_cmpR (kEq K hr.units) (pv 0) (pv 1) (nomark _))))))) pss_nil)
    (pss_cons (ps_if (pt_val (cb (kIsi K) gm.isinstance (pa_cons (pv 1) (pa_cons (pe_bltn (v := .ty "tuple") (by rfl) gm.tuple (by decide +kernel) rfl) pa_nil)))) (pss_one (ps_if (PW.pt (pw_or (pt_not (pt_val (cb (kIsi K) gm.isinstance (pa_cons (pv 0) (pa_cons (pe_bltn (v := .ty "tuple") (by rfl) gm.tuple (by decide +kernel) rfl) pa_nil))))) (pw_or1 (pt_cmpR (kNe K hr.units) (cb (kLen K) gm.len (pa_cons (pv 0) pa_nil)) (cb (kLen K) gm.len (pa_cons (pv 1) pa_nil)) (nomark _))))) (pss_one (ps_ret pe_bl)) pss_nil)) (pss_one (ps_if (PW.pt (pw_or (pt_not (pt_val (cb (kIsi K) gm.isinstance (pa_cons (pv 0) (pa_cons (pe_bltn (v := .ty "list") (by rfl) gm.list (by decide +kernel) rfl) pa_nil))))) (pw_or1 (pt_cmpR (kNe K hr.units) (cb (kLen K) gm.len (pa_cons (pv 0) pa_nil)) (cb (kLen K) gm.len (pa_cons (pv 1) pa_nil)) (nomark _))))) (pss_one (ps_ret pe_bl)) pss_nil)))
    (pss_cons (ps_for PassesOwn.never rfl (pi_range1 (by rfl) gm.range (pa_cons (cb (kLen K) gm.len (pa_cons (pv 1) pa_nil)) pa_nil)) (gn 2 sc_law_same.nd) (pss_one (ps_if (pt_not (pt_val (pe_g G_law_same hr.le pass0 (pa_cons (ix K (pv 0) (pv 2)) (pa_cons (ix K (pv 1) (pv 2)) pa_nil))))) (pss_one (ps_ret pe_bl)) pss_nil)))
    (pss_one (ps_ret pe_bl)))))), fun ds R Z p => ?_⟩
  obtain ⟨y, rfl, hy, p⟩ := p
  refine ws_to (ρ' := [.im y, .im y, .no]) rfl ?_
  walk_at "go"
  cases y with
  | non =>
    refine wq_ifT (by walk_at "ev") (by rfl) ?_
    walk_at "ret"
    exact p
  | int i =>
    refine wq_noif (by walk_at "ev") (by rfl) ?_
    refine wq_ifT (by walk_at "ev") (by rfl) ?_
    refine ws_ret (d := .bl true) ((by walk_at "ev" : EvD K _ _ (.bl (true && (!false && decide (i = i))))).is (by simp)) ?_
    exact p
  | tup l =>
    refine wq_noif (by walk_at "ev") (by rfl) ?_
    refine wq_noif (by walk_at "ev") (by rfl) ?_
    cases n with
    | zero => exact absurd hy (by simp [D.pl])
    | succ n =>
    have hy : D.plL n l = true ∧ l.length ≤ 100000 := by simpa [D.pl] using hy
    refine wq_ifT (by walk_at "ev") (by rfl) ?_
    refine ws_ifF (by walk_at "ev") (by simp) ?_
    refine ws_next ?_
    refine wq_for (src_rng1 (n := (l.length : Int)) (by walk_at "ev") (by omega)) (fun i ρ' => ∃ s2, ρ' = [.im (.tup l), .im (.tup l), s2]) ⟨.no, rfl⟩ ?_ ?_
    · rintro i d ρ' hd ⟨s2, rfl⟩
      obtain ⟨hi, rfl⟩ := rng_get hd
      refine ⟨_, gd_name, ?_⟩
      dsimp only [setD, List.set]
      have hi : i < l.length := by omega
      have e0 : (0 : Int) + (i : Int) = (i : Int) := Int.zero_add _
      have ha : atI l (0 + (i : Int)) = some l[i] := by rw [e0]; exact at_nat (List.getElem?_eq_getElem hi)
      refine ws_ifF (et_not (et_B (ev_call (ea_cons (ev_op (ev_var rfl) (ev_var rfl) (rv_ixxT ha)) (ea_cons (ev_op (ev_var rfl) (ev_var rfl) (rv_ixxT ha)) ea_nil)) (pr_same (D.plL_get hy.1 (List.getElem?_eq_getElem hi)))))) rfl ?_
      exact ws_next ⟨_, rfl⟩
    · rintro ρ' ⟨s2, rfl⟩
      exact ws_ret ev_bl p
  | lst l =>
    refine wq_noif (by walk_at "ev") (by rfl) ?_
    refine wq_noif (by walk_at "ev") (by rfl) ?_
    cases n with
    | zero => exact absurd hy (by simp [D.pl])
    | succ n =>
    have hy : D.plL n l = true ∧ l.length ≤ 100000 := by simpa [D.pl] using hy
    refine wq_ifF (by walk_at "ev") (by rfl) ?_
    refine ws_ifF (by walk_at "ev") (by simp) ?_
    refine ws_next ?_
    refine wq_for (src_rng1 (n := (l.length : Int)) (by walk_at "ev") (by omega)) (fun i ρ' => ∃ s2, ρ' = [.im (.lst l), .im (.lst l), s2]) ⟨.no, rfl⟩ ?_ ?_
    · rintro i d ρ' hd ⟨s2, rfl⟩
      obtain ⟨hi, rfl⟩ := rng_get hd
      refine ⟨_, gd_name, ?_⟩
      dsimp only [setD, List.set]
      have hi : i < l.length := by omega
      have e0 : (0 : Int) + (i : Int) = (i : Int) := Int.zero_add _
      have ha : atI l (0 + (i : Int)) = some l[i] := by rw [e0]; exact at_nat (List.getElem?_eq_getElem hi)
      refine ws_ifF (et_not (et_B (ev_call (ea_cons (ev_op (ev_var rfl) (ev_var rfl) (rv_ixxL ha)) (ea_cons (ev_op (ev_var rfl) (ev_var rfl) (rv_ixxL ha)) ea_nil)) (pr_same (D.plL_get hy.1 (List.getElem?_eq_getElem hi)))))) rfl ?_
      exact ws_next ⟨_, rfl⟩
    · rintro ρ' ⟨s2, rfl⟩
      exact ws_ret ev_bl p
  | bl b => cases n <;> cases hy
  | str b => cases n <;> cases hy
  | scr b => cases n <;> cases hy
  | ty b => cases n <;> cases hy
  | obj b => cases n <;> cases hy
  | ins a b c => cases n <;> cases hy
  | exc a b c d => cases n <;> cases hy
  | dic a b => cases n <;> cases hy
  | slf a b c d => cases n <;> cases hy
  | kn a => cases n <;> cases hy
theorem ok_same (F : Df K mg "_law_same" s_law_same ["actual", "due"]) (gm : Gm K mg C_Book) : ∀ n, FnG P w K mg base CX0 n "_law_same" ["actual", "due"] (spD K (P_same' n))
  | 0 => F.none
  | n + 1 => ok_same1 n F gm (ok_same F gm n)
end
end FS
set_option Elab.async false
set_option linter.all false
set_option maxRecDepth 100000
set_option maxHeartbeats 4000000
set_option exponentiation.threshold 20000
namespace FS
open PySem PySem.Spec PyProof.Rows L2

local macro_rules | `(tactic| walk_at "side") => `(tactic| first | assumption | omega | decide)
local macro_rules | `(tactic| walk_at "hv") => `(tactic| (intro i hi; simp at hi; first | (subst hi; rfl) | (rcases hi with rfl | rfl <;> rfl) | (rcases hi with rfl | rfl | rfl <;> rfl)))
local macro_rules | `(tactic| walk_at "pr") => `(tactic| fail "no promise")
local macro_rules | `(tactic| walk_at "rv") => `(tactic| first
  | (with_reducible exact rv_add) | (with_reducible exact rv_sub) | (with_reducible exact rv_lt) | (with_reducible exact rv_le) | (with_reducible exact rv_gt) | (with_reducible exact rv_ge) | (with_reducible exact rv_eq) | (with_reducible exact rv_ne)
  | (with_reducible exact rv_is) | (with_reducible exact rv_isnot)
  | ((with_reducible apply rv_div); first | assumption | exact cdiv_small (by omega) (by omega))
  | ((with_reducible apply rv_mod); first | assumption | omega)
  | ((with_reducible apply rv_mul); first | assumption | exact cmul_left (by omega) | exact cmul_right (by omega))
  | ((with_reducible apply rv_mulW); assumption)
  | (with_reducible exact rv_p8) | (with_reducible exact rv_p18) | (with_reducible exact rv_p40) | (with_reducible exact rv_p20) | (with_reducible exact rv_p6) | (with_reducible exact rv_p7) | (with_reducible exact rv_p12) | (with_reducible exact rv_p25) | (with_reducible exact rv_p30) | (with_reducible exact rv_p39) | (with_reducible exact rv_p60)
  | ((with_reducible apply rv_ixxL); first | assumption | exact at_getD (by omega) (by omega) | exact at_nat rfl)
  | ((with_reducible apply rv_ixxT); first | assumption | exact at_getD (by omega) (by omega) | exact at_nat rfl)
  | ((with_reducible apply rv_ixxC); first | assumption)
  | (with_reducible exact ru_neg))
local macro_rules | `(tactic| walk_at "isi") => `(tactic| first | (with_reducible exact isi_non_int) | (with_reducible exact isi_non_bool) | (with_reducible exact isi_non_str) | (with_reducible exact isi_non_tuple) | (with_reducible exact isi_non_list) | (with_reducible exact isi_bl_int) | (with_reducible exact isi_bl_bool) | (with_reducible exact isi_bl_str) | (with_reducible exact isi_bl_tuple) | (with_reducible exact isi_bl_list) | (with_reducible exact isi_int_int) | (with_reducible exact isi_int_bool) | (with_reducible exact isi_int_str) | (with_reducible exact isi_int_tuple) | (with_reducible exact isi_int_list) | (with_reducible exact isi_str_int) | (with_reducible exact isi_str_bool) | (with_reducible exact isi_str_str) | (with_reducible exact isi_str_tuple) | (with_reducible exact isi_str_list) | (with_reducible exact isi_tup_int) | (with_reducible exact isi_tup_bool) | (with_reducible exact isi_tup_str) | (with_reducible exact isi_tup_tuple) | (with_reducible exact isi_tup_list) | (with_reducible exact isi_lst_int) | (with_reducible exact isi_lst_bool) | (with_reducible exact isi_lst_str) | (with_reducible exact isi_lst_tuple) | (with_reducible exact isi_lst_list))
local macro_rules | `(tactic| walk_at "rc") => `(tactic| first
  | walk_at "isi"
  | (with_reducible exact rc_len) | (with_reducible exact rc_lent) | (with_reducible exact rc_lenc) | (with_reducible exact rc_toint) | (with_reducible exact rc_absv) | (with_reducible exact rc_gcd)
  | ((with_reducible apply rc_lcm); assumption)
  | ((with_reducible apply rc_isi); (focus rfl); assumption)
  | (with_reducible exact rco_list) | (with_reducible exact rco_listT))
local macro_rules | `(tactic| walk_at "ev") => `(tactic| first
  | (with_reducible exact ev_int) | (with_reducible exact ev_bl) | (with_reducible exact ev_non) | (with_reducible exact ev_str) | (with_reducible exact ev_ty)
  | ((with_reducible apply ev_var); rfl)
  | ((with_reducible apply ev_lenOw); rfl)
  | ((with_reducible apply ev_op) <;> first | walk_at "ev" | walk_at "rv")
  | ((with_reducible apply ev_un) <;> first | walk_at "ev" | walk_at "rv")
  | ((with_reducible apply ev_cb) <;> first | walk_at "ev" | walk_at "rc")
  | ((with_reducible apply ev_call) <;> first | walk_at "ev" | walk_at "pr")
  | ((with_reducible apply ev_tup) <;> first | walk_at "ev" | (simp; done))
  | (with_reducible exact ea_nil)
  | ((with_reducible apply ea_cons) <;> walk_at "ev")
  | ((with_reducible apply et_test); walk_at "ev")
  | ((with_reducible apply et_B); walk_at "ev")
  | ((with_reducible apply et_not); walk_at "ev")
  | ((with_reducible apply et_or); (walk_at "ev"); intro _; walk_at "ev")
  | ((with_reducible apply et_and); (walk_at "ev"); intro _; walk_at "ev")
  | ((with_reducible apply ev_orV); (walk_at "ev"); intro _; walk_at "ev")
  | ((with_reducible apply ev_andV); (walk_at "ev"); intro _; walk_at "ev")
  | ((with_reducible apply ev_notV); walk_at "ev")
  | (with_reducible exact et_yes)
  | ((with_reducible apply evo_lst) <;> first | walk_at "ev" | (simp; done))
  | ((with_reducible apply ev_opO) <;> first | walk_at "ev" | ((with_reducible apply rvo_add); simp; omega))
  | ((with_reducible apply ev_cbO) <;> first | walk_at "ev" | walk_at "rc")
  | ((with_reducible apply ev_callO) <;> first | walk_at "ev" | walk_at "pr")
  | ((with_reducible apply ec_call) <;> first | walk_at "ev" | walk_at "pr")
  | ((with_reducible apply ec_tup) <;> first | walk_at "ev" | (simp; done))
  | ((with_reducible apply ec_lst) <;> first | walk_at "ev" | (simp; done))
  | (with_reducible exact eca_nil)
  | ((with_reducible apply eca_cons) <;> walk_at "ev")
  | ((with_reducible apply ec_sc); (walk_at "ev"); rfl)
  | ((with_reducible apply ec_ow); (walk_at "ev"); first | assumption | (intro d hd; simp at hd; done))
  | ((with_reducible apply ec_fz); walk_at "ev")
  | ((with_reducible apply ev_fz); walk_at "ev"))

local macro_rules | `(tactic| walk_at "im") => `(tactic| ((with_reducible apply wq_asg); walk_at "ev"; (try dsimp only [List.set, Int.reduceToNat])))
local macro_rules | `(tactic| walk_at "ow") => `(tactic| ((with_reducible apply wq_asgO); walk_at "ev"; (focus (first | decide | (simp; done))); (try dsimp only [List.set, Int.reduceToNat])))
local macro_rules | `(tactic| walk_at "cl") => `(tactic| ((with_reducible apply wq_asgC); walk_at "ev"; (focus (first | decide | (simp; done))); (try dsimp only [List.set, Int.reduceToNat])))
local macro_rules | `(tactic| walk_at "if") => `(tactic| ((first | (with_reducible apply wq_when) | (with_reducible apply wq_if) | (with_reducible apply ws_if)); walk_at "ev"; (try dsimp only [Int.reduceToNat])))
local macro_rules | `(tactic| walk_at "ret") => `(tactic| ((with_reducible apply ws_ret); walk_at "ev"))
local macro_rules | `(tactic| walk_at "go") => `(tactic| (try dsimp only [cxOf, L2.Cx.nox, L2.Cx.wish, L2.Cx.blk]))
local macro_rules | `(tactic| walk_at "ints") => `(tactic| (refine ev_fz (evo_lst ?_ (by decide)); repeat (first | exact ea_nil | refine ea_cons ev_int ?_)))

/-! ### books as plain data -/
structure BookM where
  worlds : Nat
  people : Nat
  labels : List (List Nat)
  cells : List (List (List Nat))
  weights : List (List Int)
  totals : List (List Int)
def bookNs : List Str := ["worlds", "people", "_labels", "_cells", "_weights", "_totals"]
def bookL (b : BookM) : List D := [.int (b.worlds : Int), .int (b.people : Int), .lst (b.labels.map natsD), .lst (b.cells.map fun c => .lst (c.map natsD)), .lst (b.weights.map intsD), .lst (b.totals.map intsD)]
def bookD (C : Addr) (b : BookM) : D := .ins C bookNs (bookL b)
/-- rows of labels and of weights that a book takes -/
structure GT (n : Nat) (sights odds : List (List Int)) : Prop where
  n1 : 1 ≤ n
  n2 : n ≤ 12
  p1 : 1 ≤ sights.length
  p2 : sights.length ≤ 6
  row : ∀ r ∈ sights, r.length = n
  lab : ∀ r ∈ sights, ∀ x ∈ r, 0 ≤ x ∧ x < 12
  len : odds.length = sights.length
  orow : ∀ r ∈ odds, r.length = n
  wt : ∀ r ∈ odds, ∀ x ∈ r, 0 ≤ x ∧ x ≤ 10 ^ 40
section
variable {P : Program} {w : World} {K : PySem.W.Frag} {mg : Str → Option Value} {base : Heap} {C_Book : Addr}
def P_check_person (C : Addr) : PrD := fun ds R _ => ∃ (b : BookM) (p : Int), ds = [bookD C b, .int p] ∧ 0 ≤ p ∧ p < b.people ∧ R (.im .non)
theorem ok_check_person (F : Df K mg "check_person" s_check_person ["book", "person"]) (gm : Gm K mg C_Book) : FnG P w K mg base CX0 1 "check_person" ["book", "person"] (spD K (P_check_person C_Book)) := by
  refine F.ok (k := 0) sc_check_person (fun ds R Z ⟨a, b, e, _⟩ => by rw [e] <;> rfl) (fun f cdv A outer s H E hr => ?_)
  refine ⟨_,
    (pss_one (ps_if (PW.pt (pw_or (pt_cmpR opLt (pv 1) pe_int (nomark _)) (pw_or1 (pt_cmpR opGe (pv 1) (fl K (pv 0)) (nomark _))))) (pss_one ps_no) pss_nil)), fun ds R Z p => ?_⟩
  obtain ⟨b, q, rfl, h0, h1, p⟩ := p
  refine ws_to (ρ' := [.im (bookD C_Book b), .im (.int q)]) rfl ?_
  walk_at "go"
  refine ws_ifF (et_or (et_test (ev_op (ev_var rfl) ev_int rv_lt)) fun _ => et_test (ev_op (ev_var rfl) (ev_fld (l := bookL b) (ns := bookNs) (d := .int (b.people : Int)) (j := 1) (ev_var rfl) (by decide) rfl gm.Book_c gm.Book_people) rv_ge)) ?_ (ws_next p)
  rw [decide_eq_false (by omega), decide_eq_false (by omega)] <;> rfl
theorem pr_check_person {C : Addr} {b : BookM} {p : Int} (h0 : 0 ≤ p) (h1 : p < b.people) : P_check_person C [bookD C b, .int p] (fun s => s = .im .non) (fun _ => False) := ⟨b, p, rfl, h0, h1, rfl⟩
def P_check_world (C : Addr) : PrD := fun ds R _ => ∃ (b : BookM) (p : Int), ds = [bookD C b, .int p] ∧ 0 ≤ p ∧ p < b.worlds ∧ R (.im .non)
theorem ok_check_world (F : Df K mg "check_world" s_check_world ["book", "world"]) (gm : Gm K mg C_Book) : FnG P w K mg base CX0 1 "check_world" ["book", "world"] (spD K (P_check_world C_Book)) := by
  refine F.ok (k := 0) sc_check_world (fun ds R Z ⟨a, b, e, _⟩ => by rw [e] <;> rfl) (fun f cdv A outer s H E hr => ?_)
  refine ⟨_,
    (pss_one (ps_if (PW.pt (pw_or (pt_cmpR opLt (pv 1) pe_int (nomark _)) (pw_or1 (pt_cmpR opGe (pv 1) (fl K (pv 0)) (nomark _))))) (pss_one ps_no) pss_nil)), fun ds R Z p => ?_⟩
  obtain ⟨b, q, rfl, h0, h1, p⟩ := p
  refine ws_to (ρ' := [.im (bookD C_Book b), .im (.int q)]) rfl ?_
  walk_at "go"
  refine ws_ifF (et_or (et_test (ev_op (ev_var rfl) ev_int rv_lt)) fun _ => et_test (ev_op (ev_var rfl) (ev_fld (l := bookL b) (ns := bookNs) (d := .int (b.worlds : Int)) (j := 0) (ev_var rfl) (by decide) rfl gm.Book_c gm.Book_worlds) rv_ge)) ?_ (ws_next p)
  rw [decide_eq_false (by omega), decide_eq_false (by omega)] <;> rfl
theorem pr_check_world {C : Addr} {b : BookM} {p : Int} (h0 : 0 ≤ p) (h1 : p < b.worlds) : P_check_world C [bookD C b, .int p] (fun s => s = .im .non) (fun _ => False) := ⟨b, p, rfl, h0, h1, rfl⟩
end

section
variable {P : Program} {w : World} {K : PySem.W.Frag} {mg : Str → Option Value} {base : Heap} {C_Book : Addr}
def P_check_group (C : Addr) : PrD := fun ds R _ => ∃ (b : BookM) (g : List Int), ds = [bookD C b, intsD g] ∧ (∀ x ∈ g, 0 ≤ x ∧ x < b.people) ∧ R (.im .non)
theorem ok_check_group (F : Df K mg "check_group" s_check_group ["book", "group"]) (gm : Gm K mg C_Book) (G_check_person : FnG P w K mg base CX0 1 "check_person" ["book", "person"] (spD K (P_check_person C_Book))) : FnG P w K mg base CX0 2 "check_group" ["book", "group"] (spD K (P_check_group C_Book)) := by
  refine F.ok (k := 1) sc_check_group (fun ds R Z ⟨a, b, e, _⟩ => by rw [e] <;> rfl) (fun f cdv A outer s H E hr => ?_)
  refine ⟨_,
    (pss_one (ps_for PassesOwn.never rfl (pl K (pv 1)) (gn 2 sc_check_group.nd) (pss_one (ps_expr (pe_g G_check_person hr.le pass0 (pa_cons (pv 0) (pa_cons (pv 2) pa_nil))))))), fun ds R Z p => ?_⟩
  obtain ⟨b, g, rfl, h0, p⟩ := p
  refine ws_to (ρ' := [.im (bookD C_Book b), .im (intsD g), .no]) rfl ?_
  walk_at "go"
  refine ws_for (src_list (l := g.map .int) (ev_var rfl)) (fun i ρ' => ∃ s2, ρ' = [.im (bookD C_Book b), .im (intsD g), s2]) ⟨_, rfl⟩ ?_ (fun _ _ => p)
  rintro i d ρ' hd ⟨s2, rfl⟩
  obtain ⟨x, hx, rfl⟩ := map_get hd
  have hb := h0 x (List.mem_of_getElem? hx)
  exact ⟨_, gd_name, ws_drop (ev_call (ea_cons (ev_var rfl) (ea_cons (ev_var rfl) ea_nil)) (pr_check_person hb.1 hb.2)) ⟨_, rfl⟩⟩
theorem pr_check_group {C : Addr} {b : BookM} {g : List Int} (h : ∀ x ∈ g, 0 ≤ x ∧ x < b.people) : P_check_group C [bookD C b, intsD g] (fun s => s = .im .non) (fun _ => False) := ⟨b, g, rfl, h, rfl⟩
end

section
variable {P : Program} {w : World} {K : PySem.W.Frag} {mg : Str → Option Value} {base : Heap} {C_Book : Addr}
/-- a lot of worlds: ascending -/
structure Lot (n : Nat) (l : List Nat) : Prop where
  lt : ∀ x ∈ l, x < n
  asc : l.Pairwise (· < ·)
def P_check_lot (C : Addr) : PrD := fun ds R _ => ∃ (b : BookM) (g : List Nat), ds = [bookD C b, natsD g] ∧ Lot b.worlds g ∧ g.length ≤ 1000 ∧ R (.im .non)
theorem ok_check_lot (F : Df K mg "check_lot" s_check_lot ["book", "lot"]) (gm : Gm K mg C_Book) (G_check_world : FnG P w K mg base CX0 1 "check_world" ["book", "world"] (spD K (P_check_world C_Book))) : FnG P w K mg base CX0 2 "check_lot" ["book", "lot"] (spD K (P_check_lot C_Book)) := by
  refine F.ok (k := 1) sc_check_lot (fun ds R Z ⟨a, b, e, _⟩ => by rw [e] <;> rfl) (fun f cdv A outer s H E hr => ?_)
  refine ⟨_,
    (pss_cons (ps_for PassesOwn.never rfl (pl K (pv 1)) (gn 2 sc_check_lot.nd) (pss_one (ps_expr (pe_g G_check_world hr.le pass0 (pa_cons (pv 0) (pa_cons (pv 2) pa_nil))))))
    (pss_one (ps_for PassesOwn.never rfl (pi_range2 (by rfl) gm.range (pa_cons pe_int (pa_cons (cb (kLen K) gm.len (pa_cons (pv 1) pa_nil)) pa_nil))) (gn 3 sc_check_lot.nd) (pss_one (ps_if (pt_cmpR opGe (ix K (pv 1) (pe_op opSub (pv 3) pe_int)) (ix K (pv 1) (pv 3)) (nomark _)) (pss_one ps_no) pss_nil))))), fun ds R Z p => ?_⟩
  obtain ⟨b, g, rfl, h0, hz, p⟩ := p
  refine ws_to (ρ' := [.im (bookD C_Book b), .im (natsD g), .no, .no]) rfl ?_
  walk_at "go"
  refine wq_for (src_list (l := g.map fun n : Nat => .int (n : Int)) (ev_var rfl)) (fun i ρ' => ∃ s2 s3, ρ' = [.im (bookD C_Book b), .im (natsD g), s2, s3]) ⟨_, _, rfl⟩ ?_ ?_
  · rintro i d ρ' hd ⟨s2, s3, rfl⟩
    obtain ⟨x, hx, rfl⟩ := map_get hd
    have hb := h0.lt x (List.mem_of_getElem? hx)
    exact ⟨_, gd_name, ws_drop (ev_call (ea_cons (ev_var rfl) (ea_cons (ev_var rfl) ea_nil)) (pr_check_world (by omega) (by omega))) ⟨_, _, rfl⟩⟩
  · rintro ρ' ⟨s2, s3, rfl⟩
    have hl : (((g.map fun n : Nat => D.int (n : Int)).length : Nat) : Int) = (g.length : Int) := by rw [List.length_map]
    refine ws_for (src_rng2 (lo := 1) (n := (g.length : Int)) (ea_cons ev_int (ea_cons ((ev_cb (ea_cons (ev_var (i := 1) rfl) ea_nil) rc_len).is (by rw [hl])) ea_nil)) (by omega)) (fun i ρ' => ∃ s2 s3, ρ' = [.im (bookD C_Book b), .im (natsD g), s2, s3]) ⟨_, _, rfl⟩ ?_ (fun _ _ => p)
    rintro i d ρ' hd ⟨s2, s3, rfl⟩
    obtain ⟨hi, rfl⟩ := rng_get hd
    refine ⟨_, gd_name, ?_⟩
    dsimp only [setD, List.set]
    have hi2 : i + 1 < g.length := by omega
    have e1 : (1 : Int) + (i : Int) - 1 = ((i : Nat) : Int) := by omega
    have e2 : (1 : Int) + (i : Int) = ((i + 1 : Nat) : Int) := by omega
    have a1 : atI (g.map fun n : Nat => D.int (n : Int)) (1 + (i : Int) - 1) = some (.int ((g[i]'(by omega) : Nat) : Int)) := by rw [e1]; exact at_nats (List.getElem?_eq_getElem _)
    have a2 : atI (g.map fun n : Nat => D.int (n : Int)) (1 + (i : Int)) = some (.int ((g[i + 1] : Nat) : Int)) := by rw [e2]; exact at_nats (List.getElem?_eq_getElem _)
    have hlt : g[i]'(by omega) < g[i + 1] := List.pairwise_iff_getElem.mp h0.asc i (i + 1) (by omega) hi2 (by omega)
    refine ws_ifF (et_test (ev_op (ev_op (ev_var rfl) (ev_op (ev_var rfl) ev_int rv_sub) (rv_ixxL a1)) (ev_op (ev_var rfl) (ev_var rfl) (rv_ixxL a2)) rv_ge)) (decide_eq_false (by omega)) (ws_next ⟨_, _, rfl⟩)
theorem pr_check_lot {C : Addr} {b : BookM} {g : List Nat} (h : Lot b.worlds g) (hz : g.length ≤ 1000) : P_check_lot C [bookD C b, natsD g] (fun s => s = .im .non) (fun _ => False) := ⟨b, g, rfl, h, hz, rfl⟩
end
end FS
set_option Elab.async false
set_option linter.all false
set_option maxRecDepth 100000
set_option maxHeartbeats 4000000
set_option exponentiation.threshold 20000
namespace FS
open PySem PySem.Spec PyProof.Rows L2

local macro_rules | `(tactic| walk_at "side") => `(tactic| first | assumption | omega | decide)
local macro_rules | `(tactic| walk_at "hv") => `(tactic| (intro i hi; simp at hi; first | (subst hi; rfl) | (rcases hi with rfl | rfl <;> rfl) | (rcases hi with rfl | rfl | rfl <;> rfl)))
local macro_rules | `(tactic| walk_at "pr") => `(tactic| fail "no promise")
local macro_rules | `(tactic| walk_at "rv") => `(tactic| first
  | (with_reducible exact rv_add) | (with_reducible exact rv_sub) | (with_reducible exact rv_lt) | (with_reducible exact rv_le) | (with_reducible exact rv_gt) | (with_reducible exact rv_ge) | (with_reducible exact rv_eq) | (with_reducible exact rv_ne)
  | (with_reducible exact rv_is) | (with_reducible exact rv_isnot)
  | ((with_reducible apply rv_div); first | assumption | exact cdiv_small (by omega) (by omega))
  | ((with_reducible apply rv_mod); first | assumption | omega)
  | ((with_reducible apply rv_mul); first | assumption | exact cmul_left (by omega) | exact cmul_right (by omega))
  | ((with_reducible apply rv_mulW); assumption)
  | (with_reducible exact rv_p8) | (with_reducible exact rv_p18) | (with_reducible exact rv_p40) | (with_reducible exact rv_p20) | (with_reducible exact rv_p6) | (with_reducible exact rv_p7) | (with_reducible exact rv_p12) | (with_reducible exact rv_p25) | (with_reducible exact rv_p30) | (with_reducible exact rv_p39) | (with_reducible exact rv_p60)
  | ((with_reducible apply rv_ixxL); first | assumption | exact at_getD (by omega) (by omega) | exact at_nat rfl)
  | ((with_reducible apply rv_ixxT); first | assumption | exact at_getD (by omega) (by omega) | exact at_nat rfl)
  | ((with_reducible apply rv_ixxC); first | assumption)
  | (with_reducible exact ru_neg))
local macro_rules | `(tactic| walk_at "isi") => `(tactic| first | (with_reducible exact isi_non_int) | (with_reducible exact isi_non_bool) | (with_reducible exact isi_non_str) | (with_reducible exact isi_non_tuple) | (with_reducible exact isi_non_list) | (with_reducible exact isi_bl_int) | (with_reducible exact isi_bl_bool) | (with_reducible exact isi_bl_str) | (with_reducible exact isi_bl_tuple) | (with_reducible exact isi_bl_list) | (with_reducible exact isi_int_int) | (with_reducible exact isi_int_bool) | (with_reducible exact isi_int_str) | (with_reducible exact isi_int_tuple) | (with_reducible exact isi_int_list) | (with_reducible exact isi_str_int) | (with_reducible exact isi_str_bool) | (with_reducible exact isi_str_str) | (with_reducible exact isi_str_tuple) | (with_reducible exact isi_str_list) | (with_reducible exact isi_tup_int) | (with_reducible exact isi_tup_bool) | (with_reducible exact isi_tup_str) | (with_reducible exact isi_tup_tuple) | (with_reducible exact isi_tup_list) | (with_reducible exact isi_lst_int) | (with_reducible exact isi_lst_bool) | (with_reducible exact isi_lst_str) | (with_reducible exact isi_lst_tuple) | (with_reducible exact isi_lst_list))
local macro_rules | `(tactic| walk_at "rc") => `(tactic| first
  | walk_at "isi"
  | (with_reducible exact rc_len) | (with_reducible exact rc_lent) | (with_reducible exact rc_lenc) | (with_reducible exact rc_toint) | (with_reducible exact rc_absv) | (with_reducible exact rc_gcd)
  | ((with_reducible apply rc_lcm); assumption)
  | ((with_reducible apply rc_isi); (focus rfl); assumption)
  | (with_reducible exact rco_list) | (with_reducible exact rco_listT))
local macro_rules | `(tactic| walk_at "ev") => `(tactic| first
  | (with_reducible exact ev_int) | (with_reducible exact ev_bl) | (with_reducible exact ev_non) | (with_reducible exact ev_str) | (with_reducible exact ev_ty)
  | ((with_reducible apply ev_var); rfl)
  | ((with_reducible apply ev_lenOw); rfl)
  | ((with_reducible apply ev_op) <;> first | walk_at "ev" | walk_at "rv")
  | ((with_reducible apply ev_un) <;> first | walk_at "ev" | walk_at "rv")
  | ((with_reducible apply ev_cb) <;> first | walk_at "ev" | walk_at "rc")
  | ((with_reducible apply ev_call) <;> first | walk_at "ev" | walk_at "pr")
  | ((with_reducible apply ev_tup) <;> first | walk_at "ev" | (simp; done))
  | (with_reducible exact ea_nil)
  | ((with_reducible apply ea_cons) <;> walk_at "ev")
  | ((with_reducible apply et_test); walk_at "ev")
  | ((with_reducible apply et_B); walk_at "ev")
  | ((with_reducible apply et_not); walk_at "ev")
  | ((with_reducible apply et_or); (walk_at "ev"); intro _; walk_at "ev")
  | ((with_reducible apply et_and); (walk_at "ev"); intro _; walk_at "ev")
  | ((with_reducible apply ev_orV); (walk_at "ev"); intro _; walk_at "ev")
  | ((with_reducible apply ev_andV); (walk_at "ev"); intro _; walk_at "ev")
  | ((with_reducible apply ev_notV); walk_at "ev")
  | (with_reducible exact et_yes)
  | ((with_reducible apply evo_lst) <;> first | walk_at "ev" | (simp; done))
  | ((with_reducible apply ev_opO) <;> first | walk_at "ev" | ((with_reducible apply rvo_add); simp; omega))
  | ((with_reducible apply ev_cbO) <;> first | walk_at "ev" | walk_at "rc")
  | ((with_reducible apply ev_callO) <;> first | walk_at "ev" | walk_at "pr")
  | ((with_reducible apply ec_call) <;> first | walk_at "ev" | walk_at "pr")
  | ((with_reducible apply ec_tup) <;> first | walk_at "ev" | (simp; done))
  | ((with_reducible apply ec_lst) <;> first | walk_at "ev" | (simp; done))
  | (with_reducible exact eca_nil)
  | ((with_reducible apply eca_cons) <;> walk_at "ev")
  | ((with_reducible apply ec_sc); (walk_at "ev"); rfl)
  | ((with_reducible apply ec_ow); (walk_at "ev"); first | assumption | (intro d hd; simp at hd; done))
  | ((with_reducible apply ec_fz); walk_at "ev")
  | ((with_reducible apply ev_fz); walk_at "ev"))

local macro_rules | `(tactic| walk_at "im") => `(tactic| ((with_reducible apply wq_asg); walk_at "ev"; (try dsimp only [List.set, Int.reduceToNat])))
local macro_rules | `(tactic| walk_at "ow") => `(tactic| ((with_reducible apply wq_asgO); walk_at "ev"; (focus (first | decide | (simp; done))); (try dsimp only [List.set, Int.reduceToNat])))
local macro_rules | `(tactic| walk_at "cl") => `(tactic| ((with_reducible apply wq_asgC); walk_at "ev"; (focus (first | decide | (simp; done))); (try dsimp only [List.set, Int.reduceToNat])))
local macro_rules | `(tactic| walk_at "if") => `(tactic| ((first | (with_reducible apply wq_when) | (with_reducible apply wq_if) | (with_reducible apply ws_if)); walk_at "ev"; (try dsimp only [Int.reduceToNat])))
local macro_rules | `(tactic| walk_at "ret") => `(tactic| ((with_reducible apply ws_ret); walk_at "ev"))
local macro_rules | `(tactic| walk_at "go") => `(tactic| (try dsimp only [cxOf, L2.Cx.nox, L2.Cx.wish, L2.Cx.blk]))
local macro_rules | `(tactic| walk_at "ints") => `(tactic| (refine ev_fz (evo_lst ?_ (by decide)); repeat (first | exact ea_nil | refine ea_cons ev_int ?_)))

section
variable {P : Program} {w : World} {K : PySem.W.Frag} {mg : Str → Option Value} {base : Heap} {C_Book : Addr}
def rowsD (l : List (List Int)) : D := .lst (l.map intsD)
theorem p40 : (10 : Int) ^ 40 = 10000000000000000000000000000000000000000 := by decide
def P_check_sights : PrD := fun ds R _ => ∃ (n : Nat) (sights odds : List (List Int)), ds = [rowsD sights] ∧ GT n sights odds ∧ R (.im .non)
theorem ok_check_sights (F : Df K mg "check_sights" s_check_sights ["sights"]) (gm : Gm K mg C_Book) : FnG P w K mg base CX0 1 "check_sights" ["sights"] (spD K P_check_sights) := by
  refine F.ok (k := 0) sc_check_sights (fun ds R Z ⟨a, b, c, e, _⟩ => by rw [e] <;> rfl) (fun f cdv A outer s H E hr => ?_)
  refine ⟨_,
    (pss_cons (ps_if (PW.pt (pw_or (pt_cmpR opLt (cb (kLen K) gm.len (pa_cons (pv 0) pa_nil)) pe_int (nomark _)) (pw_or1 (pt_cmpR opGt (cb (kLen K) gm.len (pa_cons (pv 0) pa_nil)) (gl gm.MOST_PEOPLE) (nomark _))))) (pss_one ps_no) pss_nil)
    (pss_cons (sv 1 sc_check_sights.nd (cb (kLen K) gm.len (pa_cons (ix K (pv 0) pe_int) pa_nil)))
    (pss_cons (ps_if (PW.pt (pw_or (pt_cmpR opLt (pv 1) pe_int (nomark _)) (pw_or1 (pt_cmpR opGt (pv 1) (gl gm.MOST_WORLDS) (nomark _))))) (pss_one ps_no) pss_nil)
    (pss_one (ps_for PassesOwn.never rfl (pl K (pv 0)) (gn 2 sc_check_sights.nd) (pss_cons (ps_if (pt_cmpR (kNe K hr.units) (cb (kLen K) gm.len (pa_cons (pv 2) pa_nil)) (pv 1) (nomark _)) (pss_one ps_no) pss_nil) (pss_one (ps_for PassesOwn.never rfl (pl K (pv 2)) (gn 3 sc_check_sights.nd) (pss_one (ps_if (PW.pt (pw_or (pt_cmpR opLt (pv 3) pe_int (nomark _)) (pw_or1 (pt_cmpR opGe (pv 3) (gl gm.MOST_WORLDS) (nomark _))))) (pss_one ps_no) pss_nil)))))))))), fun ds R Z p => ?_⟩
  obtain ⟨n, sights, odds, rfl, g, p⟩ := p
  refine ws_to (ρ' := [.im (rowsD sights), .no, .no, .no]) rfl ?_
  walk_at "go"
  have p1 := g.p1
  have p2 := g.p2
  have n1 := g.n1
  have n2 := g.n2
  have hl : ((sights.map intsD).length : Int) = (sights.length : Int) := by rw [List.length_map]
  have hlen : EvD K (tCB (rLenA K) (tCons (tVar 0) tNil)) [.im (rowsD sights), .no, .no, .no] (.int (sights.length : Int)) := (ev_cb (ea_cons (ev_var rfl) ea_nil) rc_len).is (by rw [hl])
  refine wq_noif (et_or (et_test (ev_op hlen ev_int rv_lt)) fun _ => et_test (ev_op hlen ev_int rv_gt)) (by rw [decide_eq_false (by omega), decide_eq_false (by omega)] <;> rfl) ?_
  have h0 : sights[0]? = some sights[0] := List.getElem?_eq_getElem (by omega)
  have hr0 := g.row _ (List.mem_of_getElem? h0)
  refine wq_asg (d := .int (n : Int)) ((ev_cb (ea_cons (ev_op (ev_var rfl) ev_int (rv_ixxL (at_map (k := 0) h0))) ea_nil) rc_len).is (by rw [List.length_map, hr0])) ?_
  dsimp only [List.set]
  refine wq_noif (et_or (et_test (ev_op (ev_var rfl) ev_int rv_lt)) fun _ => et_test (ev_op (ev_var rfl) ev_int rv_gt)) (by rw [decide_eq_false (by omega), decide_eq_false (by omega)] <;> rfl) ?_
  refine ws_for (src_list (l := sights.map intsD) (ev_var rfl)) (fun i ρ' => ∃ s2 s3, ρ' = [.im (rowsD sights), .im (.int (n : Int)), s2, s3]) ⟨_, _, rfl⟩ ?_ (fun _ _ => p)
  rintro i d ρ' hd ⟨s2, s3, rfl⟩
  obtain ⟨r, hx, rfl⟩ := map_get hd
  have hm := List.mem_of_getElem? hx
  refine ⟨_, gd_name, ?_⟩
  dsimp only [setD, List.set]
  refine wq_noif (et_test (ev_op (ev_cb (ea_cons (ev_var rfl) ea_nil) rc_len) (ev_var rfl) rv_ne)) (by rw [List.length_map, g.row r hm, decide_eq_true rfl] <;> rfl) ?_
  refine ws_for (src_list (l := r.map .int) (ev_var rfl)) (fun i ρ' => ∃ s3, ρ' = [.im (rowsD sights), .im (.int (n : Int)), .im (intsD r), s3]) ⟨_, rfl⟩ ?_ (fun ρ' ⟨s3, e⟩ => ⟨_, _, e⟩)
  rintro k d ρ' hd ⟨s3, rfl⟩
  obtain ⟨x, hx, rfl⟩ := map_get hd
  have hb := g.lab r hm x (List.mem_of_getElem? hx)
  refine ⟨_, gd_name, ?_⟩
  dsimp only [setD, List.set]
  exact ws_ifF (et_or (et_test (ev_op (ev_var rfl) ev_int rv_lt)) fun _ => et_test (ev_op (ev_var rfl) ev_int rv_ge)) (by rw [decide_eq_false (by omega), decide_eq_false (by omega)] <;> rfl) (ws_next ⟨_, rfl⟩)
theorem pr_check_sights {n : Nat} {sights odds : List (List Int)} (h : GT n sights odds) : P_check_sights [rowsD sights] (fun s => s = .im .non) (fun _ => False) := ⟨n, sights, odds, rfl, h, rfl⟩
def P_check_odds : PrD := fun ds R _ => ∃ (n : Nat) (sights odds : List (List Int)), ds = [rowsD sights, rowsD odds] ∧ GT n sights odds ∧ R (.im .non)
theorem ok_check_odds (F : Df K mg "check_odds" s_check_odds ["sights", "odds"]) (gm : Gm K mg C_Book) : FnG P w K mg base CX0 1 "check_odds" ["sights", "odds"] (spD K P_check_odds) := by
  refine F.ok (k := 0) sc_check_odds (fun ds R Z ⟨a, b, c, e, _⟩ => by rw [e] <;> rfl) (fun f cdv A outer s H E hr => ?_)
  refine ⟨_,
    (pss_cons (ps_if (pt_cmpR (kNe K hr.units) (cb (kLen K) gm.len (pa_cons (pv 1) pa_nil)) (cb (kLen K) gm.len (pa_cons (pv 0) pa_nil)) (nomark _)) (pss_one ps_no) pss_nil)
    (pss_one (ps_for PassesOwn.never rfl (pl K (pv 1)) (gn 2 sc_check_odds.nd) (pss_cons (ps_if (pt_cmpR (kNe K hr.units) (cb (kLen K) gm.len (pa_cons (pv 2) pa_nil)) (cb (kLen K) gm.len (pa_cons (ix K (pv 0) pe_int) pa_nil)) (nomark _)) (pss_one ps_no) pss_nil) (pss_one (ps_for PassesOwn.never rfl (pl K (pv 2)) (gn 3 sc_check_odds.nd) (pss_one (ps_if (PW.pt (pw_or (pt_cmpR opLt (pv 3) pe_int (nomark _)) (pw_or1 (pt_cmpR opGt (pv 3) (gl gm.MOST_WEIGHT) (nomark _))))) (pss_one ps_no) pss_nil)))))))), fun ds R Z p => ?_⟩
  obtain ⟨n, sights, odds, rfl, g, p⟩ := p
  refine ws_to (ρ' := [.im (rowsD sights), .im (rowsD odds), .no, .no]) rfl ?_
  walk_at "go"
  have p1 := g.p1
  refine wq_noif (et_test (ev_op (ev_cb (ea_cons (ev_var rfl) ea_nil) rc_len) (ev_cb (ea_cons (ev_var rfl) ea_nil) rc_len) rv_ne)) (by rw [List.length_map, List.length_map, g.len, decide_eq_true rfl] <;> rfl) ?_
  have h0 : sights[0]? = some sights[0] := List.getElem?_eq_getElem (by omega)
  have hr0 := g.row _ (List.mem_of_getElem? h0)
  refine ws_for (src_list (l := odds.map intsD) (ev_var rfl)) (fun i ρ' => ∃ s2 s3, ρ' = [.im (rowsD sights), .im (rowsD odds), s2, s3]) ⟨_, _, rfl⟩ ?_ (fun _ _ => p)
  rintro i d ρ' hd ⟨s2, s3, rfl⟩
  obtain ⟨r, hx, rfl⟩ := map_get hd
  have hm := List.mem_of_getElem? hx
  refine ⟨_, gd_name, ?_⟩
  dsimp only [setD, List.set]
  refine wq_noif (et_test (ev_op (ev_cb (ea_cons (ev_var rfl) ea_nil) rc_len) (ev_cb (ea_cons (ev_op (ev_var rfl) ev_int (rv_ixxL (at_map (k := 0) h0))) ea_nil) rc_len) rv_ne)) (by rw [List.length_map, List.length_map, g.orow r hm, hr0, decide_eq_true rfl] <;> rfl) ?_
  refine ws_for (src_list (l := r.map .int) (ev_var rfl)) (fun i ρ' => ∃ s3, ρ' = [.im (rowsD sights), .im (rowsD odds), .im (intsD r), s3]) ⟨_, rfl⟩ ?_ (fun ρ' ⟨s3, e⟩ => ⟨_, _, e⟩)
  rintro k d ρ' hd ⟨s3, rfl⟩
  obtain ⟨x, hx, rfl⟩ := map_get hd
  have hb := g.wt r hm x (List.mem_of_getElem? hx)
  rw [p40] at hb
  refine ⟨_, gd_name, ?_⟩
  dsimp only [setD, List.set]
  exact ws_ifF (et_or (et_test (ev_op (ev_var rfl) ev_int rv_lt)) fun _ => et_test (ev_op (ev_var rfl) ev_int rv_gt)) (by rw [decide_eq_false (by omega), decide_eq_false (by omega)] <;> rfl) (ws_next ⟨_, rfl⟩)
theorem pr_check_odds {n : Nat} {sights odds : List (List Int)} (h : GT n sights odds) : P_check_odds [rowsD sights, rowsD odds] (fun s => s = .im .non) (fun _ => False) := ⟨n, sights, odds, rfl, h, rfl⟩
end
end FS
set_option Elab.async false
set_option linter.all false
set_option maxRecDepth 100000
set_option maxHeartbeats 4000000
set_option exponentiation.threshold 20000
namespace FS
open PySem PySem.Spec PyProof.Rows L2

local macro_rules | `(tactic| walk_at "side") => `(tactic| first | assumption | omega | decide)
local macro_rules | `(tactic| walk_at "hv") => `(tactic| (intro i hi; simp at hi; first | (subst hi; rfl) | (rcases hi with rfl | rfl <;> rfl) | (rcases hi with rfl | rfl | rfl <;> rfl)))
local macro_rules | `(tactic| walk_at "pr") => `(tactic| fail "no promise")
local macro_rules | `(tactic| walk_at "rv") => `(tactic| first
  | (with_reducible exact rv_add) | (with_reducible exact rv_sub) | (with_reducible exact rv_lt) | (with_reducible exact rv_le) | (with_reducible exact rv_gt) | (with_reducible exact rv_ge) | (with_reducible exact rv_eq) | (with_reducible exact rv_ne)
  | (with_reducible exact rv_is) | (with_reducible exact rv_isnot)
  | ((with_reducible apply rv_div); first | assumption | exact cdiv_small (by omega) (by omega))
  | ((with_reducible apply rv_mod); first | assumption | omega)
  | ((with_reducible apply rv_mul); first | assumption | exact cmul_left (by omega) | exact cmul_right (by omega))
  | ((with_reducible apply rv_mulW); assumption)
  | (with_reducible exact rv_p8) | (with_reducible exact rv_p18) | (with_reducible exact rv_p40) | (with_reducible exact rv_p20) | (with_reducible exact rv_p6) | (with_reducible exact rv_p7) | (with_reducible exact rv_p12) | (with_reducible exact rv_p25) | (with_reducible exact rv_p30) | (with_reducible exact rv_p39) | (with_reducible exact rv_p60)
  | ((with_reducible apply rv_ixxL); first | assumption | exact at_getD (by omega) (by omega) | exact at_nat rfl)
  | ((with_reducible apply rv_ixxT); first | assumption | exact at_getD (by omega) (by omega) | exact at_nat rfl)
  | ((with_reducible apply rv_ixxC); first | assumption)
  | (with_reducible exact ru_neg))
local macro_rules | `(tactic| walk_at "isi") => `(tactic| first | (with_reducible exact isi_non_int) | (with_reducible exact isi_non_bool) | (with_reducible exact isi_non_str) | (with_reducible exact isi_non_tuple) | (with_reducible exact isi_non_list) | (with_reducible exact isi_bl_int) | (with_reducible exact isi_bl_bool) | (with_reducible exact isi_bl_str) | (with_reducible exact isi_bl_tuple) | (with_reducible exact isi_bl_list) | (with_reducible exact isi_int_int) | (with_reducible exact isi_int_bool) | (with_reducible exact isi_int_str) | (with_reducible exact isi_int_tuple) | (with_reducible exact isi_int_list) | (with_reducible exact isi_str_int) | (with_reducible exact isi_str_bool) | (with_reducible exact isi_str_str) | (with_reducible exact isi_str_tuple) | (with_reducible exact isi_str_list) | (with_reducible exact isi_tup_int) | (with_reducible exact isi_tup_bool) | (with_reducible exact isi_tup_str) | (with_reducible exact isi_tup_tuple) | (with_reducible exact isi_tup_list) | (with_reducible exact isi_lst_int) | (with_reducible exact isi_lst_bool) | (with_reducible exact isi_lst_str) | (with_reducible exact isi_lst_tuple) | (with_reducible exact isi_lst_list))
local macro_rules | `(tactic| walk_at "rc") => `(tactic| first
  | walk_at "isi"
  | (with_reducible exact rc_len) | (with_reducible exact rc_lent) | (with_reducible exact rc_lenc) | (with_reducible exact rc_toint) | (with_reducible exact rc_absv) | (with_reducible exact rc_gcd)
  | ((with_reducible apply rc_lcm); assumption)
  | ((with_reducible apply rc_isi); (focus rfl); assumption)
  | (with_reducible exact rco_list) | (with_reducible exact rco_listT))
local macro_rules | `(tactic| walk_at "ev") => `(tactic| first
  | (with_reducible exact ev_int) | (with_reducible exact ev_bl) | (with_reducible exact ev_non) | (with_reducible exact ev_str) | (with_reducible exact ev_ty)
  | ((with_reducible apply ev_var); rfl)
  | ((with_reducible apply ev_lenOw); rfl)
  | ((with_reducible apply ev_op) <;> first | walk_at "ev" | walk_at "rv")
  | ((with_reducible apply ev_un) <;> first | walk_at "ev" | walk_at "rv")
  | ((with_reducible apply ev_cb) <;> first | walk_at "ev" | walk_at "rc")
  | ((with_reducible apply ev_call) <;> first | walk_at "ev" | walk_at "pr")
  | ((with_reducible apply ev_tup) <;> first | walk_at "ev" | (simp; done))
  | (with_reducible exact ea_nil)
  | ((with_reducible apply ea_cons) <;> walk_at "ev")
  | ((with_reducible apply et_test); walk_at "ev")
  | ((with_reducible apply et_B); walk_at "ev")
  | ((with_reducible apply et_not); walk_at "ev")
  | ((with_reducible apply et_or); (walk_at "ev"); intro _; walk_at "ev")
  | ((with_reducible apply et_and); (walk_at "ev"); intro _; walk_at "ev")
  | ((with_reducible apply ev_orV); (walk_at "ev"); intro _; walk_at "ev")
  | ((with_reducible apply ev_andV); (walk_at "ev"); intro _; walk_at "ev")
  | ((with_reducible apply ev_notV); walk_at "ev")
  | (with_reducible exact et_yes)
  | ((with_reducible apply evo_lst) <;> first | walk_at "ev" | (simp; done))
  | ((with_reducible apply ev_opO) <;> first | walk_at "ev" | ((with_reducible apply rvo_add); simp; omega))
  | ((with_reducible apply ev_cbO) <;> first | walk_at "ev" | walk_at "rc")
  | ((with_reducible apply ev_callO) <;> first | walk_at "ev" | walk_at "pr")
  | ((with_reducible apply ec_call) <;> first | walk_at "ev" | walk_at "pr")
  | ((with_reducible apply ec_tup) <;> first | walk_at "ev" | (simp; done))
  | ((with_reducible apply ec_lst) <;> first | walk_at "ev" | (simp; done))
  | (with_reducible exact eca_nil)
  | ((with_reducible apply eca_cons) <;> walk_at "ev")
  | ((with_reducible apply ec_sc); (walk_at "ev"); rfl)
  | ((with_reducible apply ec_ow); (walk_at "ev"); first | assumption | (intro d hd; simp at hd; done))
  | ((with_reducible apply ec_fz); walk_at "ev")
  | ((with_reducible apply ev_fz); walk_at "ev"))

local macro_rules | `(tactic| walk_at "im") => `(tactic| ((with_reducible apply wq_asg); walk_at "ev"; (try dsimp only [List.set, Int.reduceToNat])))
local macro_rules | `(tactic| walk_at "ow") => `(tactic| ((with_reducible apply wq_asgO); walk_at "ev"; (focus (first | decide | (simp; done))); (try dsimp only [List.set, Int.reduceToNat])))
local macro_rules | `(tactic| walk_at "cl") => `(tactic| ((with_reducible apply wq_asgC); walk_at "ev"; (focus (first | decide | (simp; done))); (try dsimp only [List.set, Int.reduceToNat])))
local macro_rules | `(tactic| walk_at "if") => `(tactic| ((first | (with_reducible apply wq_when) | (with_reducible apply wq_if) | (with_reducible apply ws_if)); walk_at "ev"; (try dsimp only [Int.reduceToNat])))
local macro_rules | `(tactic| walk_at "ret") => `(tactic| ((with_reducible apply ws_ret); walk_at "ev"))
local macro_rules | `(tactic| walk_at "go") => `(tactic| (try dsimp only [cxOf, L2.Cx.nox, L2.Cx.wish, L2.Cx.blk]))
local macro_rules | `(tactic| walk_at "ints") => `(tactic| (refine ev_fz (evo_lst ?_ (by decide)); repeat (first | exact ea_nil | refine ea_cons ev_int ?_)))

/-! ### labels by their first place -/
def firsts (row : List Int) : List Int := row.foldl (fun s x => if x ∈ s then s else s ++ [x]) []
def numbN (row : List Int) : List Nat := row.map fun x => (firsts row).findIdx (· == x)
theorem firsts_take {row : List Int} {i : Nat} {x : Int} (h : row[i]? = some x) : firsts (row.take (i + 1)) = if x ∈ firsts (row.take i) then firsts (row.take i) else firsts (row.take i) ++ [x] := by
  unfold firsts
  rw [List.take_add_one, h, List.foldl_append]
  rfl
theorem firsts_fold : ∀ (row : List Int) (s : List Int), ((∀ x ∈ s, x ∈ row.foldl (fun s x => if x ∈ s then s else s ++ [x]) s) ∧ ∀ x ∈ row, x ∈ row.foldl (fun s x => if x ∈ s then s else s ++ [x]) s) ∧ (row.foldl (fun s x => if x ∈ s then s else s ++ [x]) s).length ≤ s.length + row.length
  | [], s => ⟨⟨fun x h => h, fun x h => by simp at h⟩, Nat.le_refl _⟩
  | y :: row, s => by
    rw [List.foldl_cons]
    by_cases hy : y ∈ s
    · rw [if_pos hy]
      obtain ⟨⟨a, b⟩, c⟩ := firsts_fold row s
      refine ⟨⟨a, fun x hx => ?_⟩, by rw [List.length_cons]; omega⟩
      rcases List.mem_cons.mp hx with rfl | hx
      · exact a _ hy
      · exact b x hx
    · rw [if_neg hy]
      obtain ⟨⟨a, b⟩, c⟩ := firsts_fold row (s ++ [y])
      refine ⟨⟨fun x hx => a x (List.mem_append_left _ hx), fun x hx => ?_⟩, by rw [List.length_append, List.length_singleton] at c; rw [List.length_cons]; omega⟩
      rcases List.mem_cons.mp hx with rfl | hx
      · exact a _ (List.mem_append_right _ List.mem_cons_self)
      · exact b x hx
theorem mem_firsts {row : List Int} {x : Int} (h : x ∈ row) : x ∈ firsts row := (firsts_fold row []).1.2 x h
theorem firsts_len (row : List Int) : (firsts row).length ≤ row.length := by
  have := (firsts_fold row []).2
  simpa [firsts] using this
section
variable {P : Program} {w : World} {K : PySem.W.Frag} {mg : Str → Option Value} {base : Heap} {C_Book : Addr}
def P_numbered : PrD := fun ds R _ => ∃ row : List Int, ds = [intsD row] ∧ row.length ≤ 1000 ∧ R (.cl (natsD (numbN row)))
theorem ok_numbered (F : Df K mg "numbered" s_numbered ["row"]) (gm : Gm K mg C_Book) : FnG P w K mg base CX0 1 "numbered" ["row"] (spD K P_numbered) := by
  refine F.ok (k := 0) sc_numbered (fun ds R Z ⟨a, e, _⟩ => by rw [e] <;> rfl) (fun f cdv A outer s H E hr => ?_)
  refine ⟨_,
    (pss_cons (sv 1 sc_numbered.nd pe_dnewK)
    (pss_cons (ps_for PassesOwn.never rfl (pl K (pv 0)) (gn 2 sc_numbered.nd) (pss_one (ps_if (pt_cmp (dnotin hr.units (pv 2) (pv 1)) (by rfl)) (pss_one (dput hr.units (pv 1) (pv 2) (cb kLenD gm.len (pa_cons (pv 1) pa_nil)))) pss_nil)))
    (pss_one (ps_ret (pe_lc (own := [("label", 2)]) rfl sc_numbered.nd (pl K (pv 0)) (blkOk_by (N := N_numbered) (sc := defScope s_numbered) (by decide +kernel)) (fun _ _ _ _ _ => (gn 2 sc_numbered.nd)) (fun _ _ _ _ _ => pts_nil) (fun _ _ _ _ _ => (dget hr.units (pv 1) (pv 2)))))))), fun ds R Z p => ?_⟩
  obtain ⟨row, rfl, hz, p⟩ := p
  refine ws_to (ρ' := [.im (intsD row), .no, .no]) rfl ?_
  walk_at "go"
  refine wq_asgC ec_dnew (by simp) ?_
  dsimp only [List.set]
  refine wq_for (src_list (l := row.map .int) (ev_var rfl)) (fun i ρ' => ∃ s2, ρ' = [.im (intsD row), .cl (.dic (ik (firsts (row.take i))) (rng 0 (firsts (row.take i)).length)), s2] ∧ isOw (some s2) = false) ⟨_, rfl, rfl⟩ ?_ ?_
  · rintro i d ρ' hd ⟨s2, rfl, _⟩
    obtain ⟨x, hx, rfl⟩ := map_get hd
    refine ⟨_, gd_name, ?_⟩
    dsimp only [setD, List.set]
    have hfl := firsts_len (row.take i)
    rw [List.length_take] at hfl
    refine ws_if (et_B (et_notind (ks := firsts (row.take i)) rfl (by rw [rng_len]) (ev_var rfl))) (fun hb => ?_) (fun hb => ?_)
    · have hn : x ∉ firsts (row.take i) := by simpa using hb
      refine ws_dput (ks := firsts (row.take i)) rfl (by rw [rng_len]) (by omega) hn (ev_lenD rfl (by rw [ik, List.length_map, rng_len])) rfl (ev_var rfl) ?_
      dsimp only [List.set]
      refine ⟨.im (.int x), ?_, rfl⟩
      rw [firsts_take hx, if_neg hn, List.length_append, List.length_singleton, rng_len]
      have e : rng 0 ((firsts (row.take i)).length + 1) = rng 0 (firsts (row.take i)).length ++ [.int ((firsts (row.take i)).length : Int)] := by
        unfold rng
        rw [List.range_succ, List.map_append]
        simp
      rw [e]
    · have hn : x ∈ firsts (row.take i) := by simpa using hb
      refine ws_next ⟨.im (.int x), ?_, rfl⟩
      rw [firsts_take hx, if_pos hn]
  · rintro ρ' ⟨s2, rfl, h2⟩
    rw [List.length_map, List.take_length]
    refine ws_fzC (i := 1) rfl ?_
    dsimp only [List.set]
    refine ws_retC (d := natsD (numbN row)) ((ec_ow (evo_map (xs := row) (enc := .int) (fun x => D.int (((firsts row).findIdx (· == x) : Nat) : Int)) (src_list (ev_var rfl)) ?_ (fun x hx => ⟨_, gd_name, by simp, ?_⟩) (by omega)) ?_).is ?_) p
    · intro i hi
      have hi : i = 2 := by simpa using hi
      rw [hi]
      exact h2
    · dsimp only [setD, wipeD, List.set, List.map]
      have hm := mem_firsts hx
      have hlt : (firsts row).findIdx (· == x) < (firsts row).length := List.findIdx_lt_length_of_exists ⟨x, hm, by simp⟩
      refine ev_dget (ks := firsts row) (jj := (firsts row).findIdx (· == x)) (ev_var rfl) (ev_var rfl) (by rw [rng_len]) ?_ ?_
      · rw [List.findIdx?_eq_some_iff_findIdx_eq]
        exact ⟨hlt, rfl⟩
      · unfold rng
        rw [List.getElem?_map, List.getElem?_range hlt]
        show some (D.int (0 + _)) = _
        rw [Int.zero_add]
    · intro d hd
      obtain ⟨x, _, rfl⟩ := List.mem_map.mp hd
      rfl
    · show D.lst _ = D.lst _
      rw [numbN, List.map_map]
      rfl
theorem pr_numbered {row : List Int} (h : row.length ≤ 1000) : P_numbered [intsD row] (fun s => s = .cl (natsD (numbN row))) (fun _ => False) := ⟨row, rfl, h, rfl⟩
end

/-! ### the cells of labels -/
def mxN (lab : List Nat) : Nat := lab.foldl max 0
def cellN (lab : List Nat) (i c : Nat) : List Nat := (List.range i).filter fun w => decide (lab.getD w 0 = c)
def gathN (lab : List Nat) : List (List Nat) := (List.range (mxN lab + 1)).map fun c => cellN lab lab.length c
theorem mx_fold : ∀ (l : List Nat) (a : Nat), a ≤ l.foldl max a ∧ (∀ x ∈ l, x ≤ l.foldl max a) ∧ (l.foldl max a = a ∨ l.foldl max a ∈ l)
  | [], a => ⟨Nat.le_refl _, fun x h => by simp at h, .inl rfl⟩
  | y :: l, a => by
    rw [List.foldl_cons]
    obtain ⟨h1, h2, h3⟩ := mx_fold l (max a y)
    refine ⟨by omega, fun x hx => ?_, ?_⟩
    · rcases List.mem_cons.mp hx with rfl | hx
      · omega
      · exact h2 x hx
    · rcases h3 with h3 | h3
      · rw [h3]
        by_cases h : a ≤ y
        · rw [Nat.max_eq_right h]
          exact .inr List.mem_cons_self
        · rw [Nat.max_eq_left (by omega)]
          exact .inl rfl
      · exact .inr (List.mem_cons_of_mem _ h3)
theorem mx_le {lab : List Nat} {x : Nat} (h : x ∈ lab) : x ≤ mxN lab := (mx_fold lab 0).2.1 x h
theorem mx_mem {lab : List Nat} (h : lab ≠ []) : mxN lab ∈ lab := by
  rcases (mx_fold lab 0).2.2 with e | e
  · cases lab with
    | nil => exact absurd rfl h
    | cons y l =>
      have h1 := mx_le (lab := y :: l) (x := y) List.mem_cons_self
      have e : mxN (y :: l) = 0 := e
      rw [e] at h1 ⊢
      have : y = 0 := by omega
      rw [← this]
      exact List.mem_cons_self
  · exact e
theorem cellN_succ {lab : List Nat} {i c x : Nat} (h : lab[i]? = some x) : cellN lab (i + 1) c = if x = c then cellN lab i c ++ [i] else cellN lab i c := by
  unfold cellN
  rw [filter_range_succ]
  have : lab.getD i 0 = x := by rw [List.getD_eq_getElem?_getD, h] <;> rfl
  rw [this]
  by_cases e : x = c
  · rw [if_pos e, decide_eq_true e] <;> rfl
  · rw [if_neg e, decide_eq_false e]
    simp
theorem cellN_len (lab : List Nat) (i c : Nat) : (cellN lab i c).length ≤ i := by
  have := List.length_filter_le (fun w => decide (lab.getD w 0 = c)) (List.range i)
  rw [List.length_range] at this
  exact this
section
variable {P : Program} {w : World} {K : PySem.W.Frag} {mg : Str → Option Value} {base : Heap} {C_Book : Addr}
def cellsD (l : List (List Nat)) : D := .lst (l.map natsD)
def P_gathered : PrD := fun ds R _ => ∃ lab : List Nat, ds = [natsD lab] ∧ lab ≠ [] ∧ lab.length ≤ 1000 ∧ (∀ x ∈ lab, x < 1000) ∧ R (.cl (cellsD (gathN lab)))
theorem ok_gathered (F : Df K mg "gathered" s_gathered ["labels"]) (gm : Gm K mg C_Book) : FnG P w K mg base CX0 1 "gathered" ["labels"] (spD K P_gathered) := by
  refine F.ok (k := 0) sc_gathered (fun ds R Z ⟨a, e, _⟩ => by rw [e] <;> rfl) (fun f cdv A outer s H E hr => ?_)
  refine ⟨_,
    (pss_cons (ps_setLc (i := 1) (own := [("_", 2)]) rfl sc_gathered.nd rfl rfl (sw_true rfl rfl rfl (by decide +kernel)) (pi_range1 (by rfl) gm.range (pa_cons (pe_op (kAdd K) (cb (kMax K rfl) gm.max (pa_cons (pv 0) pa_nil)) pe_int) pa_nil)) (blkOk_by (N := N_gathered) (sc := defScope s_gathered) (by decide +kernel)) (fun _ _ _ _ _ => (gn 2 sc_gathered.nd)) (fun _ _ _ _ _ => pts_nil) (fun _ _ _ _ _ => (pe_lst pa_nil)))
    (pss_cons (ps_for PassesOwn.never rfl (pi_range1 (by rfl) gm.range (pa_cons (cb (kLen K) gm.len (pa_cons (pv 0) pa_nil)) pa_nil)) (gn 3 sc_gathered.nd) (pss_one (ps_expr (ml_append K (ix K (pv 1) (ix K (pv 0) (pv 3))) (pa_cons (pv 3) pa_nil)))))
    (pss_one (ps_ret (pv 1))))), fun ds R Z p => ?_⟩
  obtain ⟨lab, rfl, hne, hz, hlt, p⟩ := p
  refine ws_to (ρ' := [.im (natsD lab), .no, .no, .no]) rfl ?_
  walk_at "go"
  have hm := mx_mem hne
  have hm9 := hlt _ hm
  have e0 : (lab.map fun n : Nat => D.int (n : Int)) = (nats lab).map .int := by rw [nats, List.map_map] <;> rfl
  have hmax : EvD K (tCB (rMax K) (tCons (tVar 0) tNil)) [.im (natsD lab), .no, .no, .no] (.int (mxN lab : Int)) := ev_cb (ea_cons (ev_var (d := intsD (nats lab)) (by rw [← natsD_eq] <;> rfl)) ea_nil) (rc_max (mem_nats.mpr hm) fun y hy => by
    obtain ⟨x, hx, rfl⟩ := List.mem_map.mp hy
    have := mx_le hx
    omega)
  refine wq_asgC (d := .lst ((List.range (mxN lab + 1)).map fun c => natsD (cellN lab 0 c))) ((ec_map (xs := List.range (mxN lab + 1)) (enc := fun k : Nat => D.int (0 + (k : Int))) (fun _ => D.lst []) (src_rng1 (n := (mxN lab : Int) + 1) (ea_cons (ev_op hmax ev_int rv_add) ea_nil) (by omega)) (by walk_at "hv") (fun k hk => ⟨_, gd_name, by simp, ec_lst eca_nil (by simp)⟩) (by rw [List.length_range]; omega)).is ?_) (by simp) ?_
  · rfl
  dsimp only [List.set]
  refine wq_for (src_rng1 (n := (lab.length : Int)) (ea_cons ((ev_cb (ea_cons (ev_var rfl) ea_nil) rc_len).is (by rw [List.length_map])) ea_nil) (by omega)) (fun i ρ' => ∃ s2 s3, ρ' = [.im (natsD lab), .cl (.lst ((List.range (mxN lab + 1)).map fun c => natsD (cellN lab i c))), s2, s3]) ⟨_, _, rfl⟩ ?_ ?_
  · rintro i d ρ' hd ⟨s2, s3, rfl⟩
    obtain ⟨hi, rfl⟩ := rng_get hd
    refine ⟨_, gd_name, ?_⟩
    dsimp only [setD, List.set]
    have hi : i < lab.length := by omega
    have hx : lab[i]? = some lab[i] := List.getElem?_eq_getElem hi
    have hxm := mx_le (List.mem_of_getElem? hx)
    generalize lab[i] = x at hx hxm
    have e00 : (0 : Int) + (i : Int) = ((i : Nat) : Int) := Int.zero_add _
    have ha : atI (lab.map fun n : Nat => D.int (n : Int)) (0 + (i : Int)) = some (.int (x : Int)) := by rw [e00]; exact at_nats hx
    have hg : ((List.range (mxN lab + 1)).map fun c => natsD (cellN lab i c))[x]? = some (natsD (cellN lab i x)) := by
      rw [List.getElem?_map, List.getElem?_range (by omega)]
      rfl
    have hc := cellN_len lab i x
    refine ws_appP (π := [x]) (l := (cellN lab i x).map fun n : Nat => .int (n : Int)) (x := .int (i : Int)) rfl (el_ix rfl (el_var rfl) rfl (ev_op (ev_var rfl) (ev_var rfl) (rv_ixxL ha)) ?_) ?_ (ec_sc ((ev_var rfl).is (by rw [e00])) rfl) (by rw [List.length_map]; omega) ?_
    · unfold ixN
      rw [List.length_map, List.length_range, if_pos (by omega), if_pos (by omega)]
      rfl
    · show (((List.range (mxN lab + 1)).map fun c => natsD (cellN lab i c))[x]?).bind (D.at []) = _
      rw [hg]
      rfl
    · dsimp only [List.set]
      refine ⟨s2, .im (.int (0 + (i : Int))), ?_⟩
      show [Sl.im (natsD lab), Sl.cl (.lst (((List.range (mxN lab + 1)).map fun c => natsD (cellN lab i c)).modify x fun d => D.put [] d (.lst (((cellN lab i x).map fun n : Nat => D.int (n : Int)) ++ [.int (i : Int)])))), s2, .im (.int (0 + (i : Int)))] = _
      rw [modify_set _ hg]
      have e : (((List.range (mxN lab + 1)).map fun c => natsD (cellN lab i c)).set x (D.lst (((cellN lab i x).map fun n : Nat => D.int (n : Int)) ++ [.int (i : Int)]))) = (List.range (mxN lab + 1)).map fun c => natsD (cellN lab (i + 1) c) := by
        refine List.ext_getElem? fun j => ?_
        rw [List.getElem?_set]
        by_cases hj : x = j
        · subst hj
          rw [if_pos rfl, if_pos (by rw [List.length_map, List.length_range]; omega), List.getElem?_map, List.getElem?_range (by omega)]
          show _ = some (natsD (cellN lab (i + 1) x))
          rw [cellN_succ hx, if_pos rfl]
          unfold natsD
          rw [List.map_append]
          rfl
        · rw [if_neg hj, List.getElem?_map, List.getElem?_map]
          by_cases hjr : j < mxN lab + 1
          · rw [List.getElem?_range hjr]
            show some (natsD (cellN lab i j)) = some (natsD (cellN lab (i + 1) j))
            rw [cellN_succ hx, if_neg hj]
          · rw [List.getElem?_eq_none (by rw [List.length_range]; omega)] <;> rfl
      show [Sl.im (natsD lab), Sl.cl (.lst (((List.range (mxN lab + 1)).map fun c => natsD (cellN lab i c)).set x (D.lst (((cellN lab i x).map fun n : Nat => D.int (n : Int)) ++ [.int (i : Int)])))), s2, .im (.int (0 + (i : Int)))] = _
      rw [e]
  · rintro ρ' ⟨s2, s3, rfl⟩
    refine ws_retVc (d := cellsD (gathN lab)) ?_ p
    rw [rng_len]
    have e : ((lab.length : Int)).toNat = lab.length := by omega
    rw [e]
    show some (Sl.cl _) = some (Sl.cl _)
    rw [cellsD, gathN, List.map_map]
    rfl
theorem pr_gathered {lab : List Nat} (h0 : lab ≠ []) (h1 : lab.length ≤ 1000) (h2 : ∀ x ∈ lab, x < 1000) : P_gathered [natsD lab] (fun s => s = .cl (cellsD (gathN lab))) (fun _ => False) := ⟨lab, rfl, h0, h1, h2, rfl⟩
end
end FS
set_option Elab.async false
set_option linter.all false
set_option maxRecDepth 100000
set_option maxHeartbeats 4000000
set_option exponentiation.threshold 20000
namespace FS
open PySem PySem.Spec PyProof.Rows L2

local macro_rules | `(tactic| walk_at "side") => `(tactic| first | assumption | omega | decide)
local macro_rules | `(tactic| walk_at "hv") => `(tactic| (intro i hi; simp at hi; first | (subst hi; rfl) | (rcases hi with rfl | rfl <;> rfl) | (rcases hi with rfl | rfl | rfl <;> rfl)))
local macro_rules | `(tactic| walk_at "pr") => `(tactic| fail "no promise")
local macro_rules | `(tactic| walk_at "rv") => `(tactic| first
  | (with_reducible exact rv_add) | (with_reducible exact rv_sub) | (with_reducible exact rv_lt) | (with_reducible exact rv_le) | (with_reducible exact rv_gt) | (with_reducible exact rv_ge) | (with_reducible exact rv_eq) | (with_reducible exact rv_ne)
  | (with_reducible exact rv_is) | (with_reducible exact rv_isnot)
  | ((with_reducible apply rv_div); first | assumption | exact cdiv_small (by omega) (by omega))
  | ((with_reducible apply rv_mod); first | assumption | omega)
  | ((with_reducible apply rv_mul); first | assumption | exact cmul_left (by omega) | exact cmul_right (by omega))
  | ((with_reducible apply rv_mulW); assumption)
  | (with_reducible exact rv_p8) | (with_reducible exact rv_p18) | (with_reducible exact rv_p40) | (with_reducible exact rv_p20) | (with_reducible exact rv_p6) | (with_reducible exact rv_p7) | (with_reducible exact rv_p12) | (with_reducible exact rv_p25) | (with_reducible exact rv_p30) | (with_reducible exact rv_p39) | (with_reducible exact rv_p60)
  | ((with_reducible apply rv_ixxL); first | assumption | exact at_getD (by omega) (by omega) | exact at_nat rfl)
  | ((with_reducible apply rv_ixxT); first | assumption | exact at_getD (by omega) (by omega) | exact at_nat rfl)
  | ((with_reducible apply rv_ixxC); first | assumption)
  | (with_reducible exact ru_neg))
local macro_rules | `(tactic| walk_at "isi") => `(tactic| first | (with_reducible exact isi_non_int) | (with_reducible exact isi_non_bool) | (with_reducible exact isi_non_str) | (with_reducible exact isi_non_tuple) | (with_reducible exact isi_non_list) | (with_reducible exact isi_bl_int) | (with_reducible exact isi_bl_bool) | (with_reducible exact isi_bl_str) | (with_reducible exact isi_bl_tuple) | (with_reducible exact isi_bl_list) | (with_reducible exact isi_int_int) | (with_reducible exact isi_int_bool) | (with_reducible exact isi_int_str) | (with_reducible exact isi_int_tuple) | (with_reducible exact isi_int_list) | (with_reducible exact isi_str_int) | (with_reducible exact isi_str_bool) | (with_reducible exact isi_str_str) | (with_reducible exact isi_str_tuple) | (with_reducible exact isi_str_list) | (with_reducible exact isi_tup_int) | (with_reducible exact isi_tup_bool) | (with_reducible exact isi_tup_str) | (with_reducible exact isi_tup_tuple) | (with_reducible exact isi_tup_list) | (with_reducible exact isi_lst_int) | (with_reducible exact isi_lst_bool) | (with_reducible exact isi_lst_str) | (with_reducible exact isi_lst_tuple) | (with_reducible exact isi_lst_list))
local macro_rules | `(tactic| walk_at "rc") => `(tactic| first
  | walk_at "isi"
  | (with_reducible exact rc_len) | (with_reducible exact rc_lent) | (with_reducible exact rc_lenc) | (with_reducible exact rc_toint) | (with_reducible exact rc_absv) | (with_reducible exact rc_gcd)
  | ((with_reducible apply rc_lcm); assumption)
  | ((with_reducible apply rc_isi); (focus rfl); assumption)
  | (with_reducible exact rco_list) | (with_reducible exact rco_listT))
local macro_rules | `(tactic| walk_at "ev") => `(tactic| first
  | (with_reducible exact ev_int) | (with_reducible exact ev_bl) | (with_reducible exact ev_non) | (with_reducible exact ev_str) | (with_reducible exact ev_ty)
  | ((with_reducible apply ev_var); rfl)
  | ((with_reducible apply ev_lenOw); rfl)
  | ((with_reducible apply ev_op) <;> first | walk_at "ev" | walk_at "rv")
  | ((with_reducible apply ev_un) <;> first | walk_at "ev" | walk_at "rv")
  | ((with_reducible apply ev_cb) <;> first | walk_at "ev" | walk_at "rc")
  | ((with_reducible apply ev_call) <;> first | walk_at "ev" | walk_at "pr")
  | ((with_reducible apply ev_tup) <;> first | walk_at "ev" | (simp; done))
  | (with_reducible exact ea_nil)
  | ((with_reducible apply ea_cons) <;> walk_at "ev")
  | ((with_reducible apply et_test); walk_at "ev")
  | ((with_reducible apply et_B); walk_at "ev")
  | ((with_reducible apply et_not); walk_at "ev")
  | ((with_reducible apply et_or); (walk_at "ev"); intro _; walk_at "ev")
  | ((with_reducible apply et_and); (walk_at "ev"); intro _; walk_at "ev")
  | ((with_reducible apply ev_orV); (walk_at "ev"); intro _; walk_at "ev")
  | ((with_reducible apply ev_andV); (walk_at "ev"); intro _; walk_at "ev")
  | ((with_reducible apply ev_notV); walk_at "ev")
  | (with_reducible exact et_yes)
  | ((with_reducible apply evo_lst) <;> first | walk_at "ev" | (simp; done))
  | ((with_reducible apply ev_opO) <;> first | walk_at "ev" | ((with_reducible apply rvo_add); simp; omega))
  | ((with_reducible apply ev_cbO) <;> first | walk_at "ev" | walk_at "rc")
  | ((with_reducible apply ev_callO) <;> first | walk_at "ev" | walk_at "pr")
  | ((with_reducible apply ec_call) <;> first | walk_at "ev" | walk_at "pr")
  | ((with_reducible apply ec_tup) <;> first | walk_at "ev" | (simp; done))
  | ((with_reducible apply ec_lst) <;> first | walk_at "ev" | (simp; done))
  | (with_reducible exact eca_nil)
  | ((with_reducible apply eca_cons) <;> walk_at "ev")
  | ((with_reducible apply ec_sc); (walk_at "ev"); rfl)
  | ((with_reducible apply ec_ow); (walk_at "ev"); first | assumption | (intro d hd; simp at hd; done))
  | ((with_reducible apply ec_fz); walk_at "ev")
  | ((with_reducible apply ev_fz); walk_at "ev"))

local macro_rules | `(tactic| walk_at "im") => `(tactic| ((with_reducible apply wq_asg); walk_at "ev"; (try dsimp only [List.set, Int.reduceToNat])))
local macro_rules | `(tactic| walk_at "ow") => `(tactic| ((with_reducible apply wq_asgO); walk_at "ev"; (focus (first | decide | (simp; done))); (try dsimp only [List.set, Int.reduceToNat])))
local macro_rules | `(tactic| walk_at "cl") => `(tactic| ((with_reducible apply wq_asgC); walk_at "ev"; (focus (first | decide | (simp; done))); (try dsimp only [List.set, Int.reduceToNat])))
local macro_rules | `(tactic| walk_at "if") => `(tactic| ((first | (with_reducible apply wq_when) | (with_reducible apply wq_if) | (with_reducible apply ws_if)); walk_at "ev"; (try dsimp only [Int.reduceToNat])))
local macro_rules | `(tactic| walk_at "ret") => `(tactic| ((with_reducible apply ws_ret); walk_at "ev"))
local macro_rules | `(tactic| walk_at "go") => `(tactic| (try dsimp only [cxOf, L2.Cx.nox, L2.Cx.wish, L2.Cx.blk]))
local macro_rules | `(tactic| walk_at "ints") => `(tactic| (refine ev_fz (evo_lst ?_ (by decide)); repeat (first | exact ea_nil | refine ea_cons ev_int ?_)))

/-! ### weights in lowest form, cell by cell -/
def gcdC (ws : List Int) (cell : List Nat) : Nat := cell.foldl (fun g w => Nat.gcd g (ws.getD w 0).natAbs) 0
def lowC (ws : List Int) (cell : List Nat) (t : List Int) : List Int := cell.foldl (fun t w => t.set w (ws.getD w 0 / (gcdC ws cell : Int))) t
def lowN (cells : List (List Nat)) (ws : List Int) : List Int := cells.foldl (fun t cell => lowC ws cell t) ws
theorem foldl_take {α β : Type} {f : β → α → β} {l : List α} {i : Nat} {x : α} {b : β} (h : l[i]? = some x) : (l.take (i + 1)).foldl f b = f ((l.take i).foldl f b) x := by
  rw [List.take_add_one, h, List.foldl_append]
  rfl
theorem lowC_len (ws : List Int) (g : Int) : ∀ (cell : List Nat) (t : List Int), (cell.foldl (fun t w => t.set w (ws.getD w 0 / g)) t).length = t.length
  | [], t => rfl
  | w :: c, t => by rw [List.foldl_cons, lowC_len ws g c, List.length_set]
theorem lowN_len (ws : List Int) : ∀ (cells : List (List Nat)) (t : List Int), (cells.foldl (fun t cell => lowC ws cell t) t).length = t.length
  | [], t => rfl
  | c :: cs, t => by rw [List.foldl_cons, lowN_len ws cs, lowC, lowC_len]
section
variable {P : Program} {w : World} {K : PySem.W.Frag} {mg : Str → Option Value} {base : Heap} {C_Book : Addr}
structure LowOk (cells : List (List Nat)) (ws : List Int) : Prop where
  lt : ∀ c ∈ cells, ∀ w ∈ c, w < ws.length
  pos : ∀ c ∈ cells, 0 < gcdC ws c
  wt : ∀ x ∈ ws, 0 ≤ x ∧ x ≤ 10 ^ 40
  len : ws.length ≤ 1000
theorem gcdC_le {ws : List Int} {c : List Nat} {w : Nat} (hp : 0 < gcdC ws c) (hw : w ∈ c) : gcdC ws c ∣ (ws.getD w 0).natAbs := by
  have : ∀ (c : List Nat) (a : Nat), (c.foldl (fun g w => Nat.gcd g (ws.getD w 0).natAbs) a ∣ a) ∧ ∀ w ∈ c, c.foldl (fun g w => Nat.gcd g (ws.getD w 0).natAbs) a ∣ (ws.getD w 0).natAbs := by
    intro c
    induction c with
    | nil => exact fun a => ⟨Nat.dvd_refl _, fun w h => by simp at h⟩
    | cons y c ih =>
      intro a
      rw [List.foldl_cons]
      obtain ⟨h1, h2⟩ := ih (Nat.gcd a (ws.getD y 0).natAbs)
      refine ⟨Nat.dvd_trans h1 (Nat.gcd_dvd_left _ _), fun w hw => ?_⟩
      rcases List.mem_cons.mp hw with rfl | hw
      · exact Nat.dvd_trans h1 (Nat.gcd_dvd_right _ _)
      · exact h2 w hw
  exact (this c 0).2 w hw
def P_lowest : PrD := fun ds R _ => ∃ (q : Int) (cells : List (List Nat)) (ws : List Int), ds = [.int q, cellsD cells, intsD ws] ∧ LowOk cells ws ∧ R (.cl (intsD (lowN cells ws)))
theorem wt_small {x : Int} (h0 : 0 ≤ x) (h : x ≤ 10 ^ 40) : x.natAbs < 2 ^ 140 := by
  have h40 : (10 : Int) ^ 40 = 10000000000000000000000000000000000000000 := by decide
  have h140 : (2 : Nat) ^ 140 = 1393796574908163946345982392040522594123776 := by decide
  rw [h40] at h
  rw [h140]
  omega
theorem ok_lowest (F : Df K mg "lowest" s_lowest ["person", "cells", "weights"]) (gm : Gm K mg C_Book) : FnG P w K mg base CX0 1 "lowest" ["person", "cells", "weights"] (spD K P_lowest) := by
  refine F.ok (k := 0) sc_lowest (fun ds R Z ⟨a, b, c, e, _⟩ => by rw [e] <;> rfl) (fun f cdv A outer s H E hr => ?_)
  refine ⟨_,
    (pss_cons (sv 3 sc_lowest.nd (ct (kList K) gm.list (pa_cons (pv 2) pa_nil)))
    (pss_cons (ps_for PassesOwn.never rfl (pl K (pv 1)) (gn 4 sc_lowest.nd) (pss_cons (sv 5 sc_lowest.nd pe_int) (pss_cons (ps_for PassesOwn.never rfl (pl K (pv 4)) (gn 6 sc_lowest.nd) (pss_one (sv 5 sc_lowest.nd (pe_callBfun cr_gcd (by rfl) gm.gcd (pa_cons (pv 5) (pa_cons (ix K (pv 2) (pv 6)) pa_nil)))))) (pss_cons (ps_if (pt_cmpR (kEq K hr.units) (pv 5) pe_int (nomark _)) (pss_one ps_no) pss_nil) (pss_one (ps_for PassesOwn.never rfl (pl K (pv 4)) (gn 6 sc_lowest.nd) (pss_one (ps_asg (pe_op opDiv (ix K (pv 2) (pv 6)) (pv 5)) (pg_sub (pv 3) (pv 6) set_list)))))))))
    (pss_one (ps_ret (pv 3))))), fun ds R Z p => ?_⟩
  obtain ⟨q, cells, ws, rfl, g, p⟩ := p
  refine ws_to (ρ' := [.im (.int q), .im (cellsD cells), .im (intsD ws), .no, .no, .no, .no]) rfl ?_
  walk_at "go"
  have hget : ∀ w, w < ws.length → atI (ws.map D.int) (w : Int) = some (.int (ws.getD w 0)) := fun w hw => at_ints hw
  have hwt : ∀ w, w < ws.length → 0 ≤ ws.getD w 0 ∧ ws.getD w 0 ≤ 10 ^ 40 := fun w hw => by
    rw [List.getD_eq_getElem?_getD, List.getElem?_eq_getElem hw]
    exact g.wt _ (List.getElem_mem _)
  refine wq_asgO (ev_cbO (ea_cons (ev_var rfl) ea_nil) rco_list) (by simp) ?_
  dsimp only [List.set]
  refine wq_for (src_list (l := cells.map natsD) (ev_var rfl)) (fun i ρ' => ∃ s4 s5 s6, ρ' = [.im (.int q), .im (cellsD cells), .im (intsD ws), .ow (((cells.take i).foldl (fun t cell => lowC ws cell t) ws).map .int), s4, s5, s6]) ⟨_, _, _, rfl⟩ ?_ ?_
  · rintro i d ρ' hd ⟨s4, s5, s6, rfl⟩
    obtain ⟨c, hc, rfl⟩ := map_get hd
    have hcm := List.mem_of_getElem? hc
    have hlt := g.lt c hcm
    have hpos := g.pos c hcm
    refine ⟨_, gd_name, ?_⟩
    dsimp only [setD, List.set]
    have htl : ((cells.take i).foldl (fun t cell => lowC ws cell t) ws).length = ws.length := lowN_len _ _ _
    rw [foldl_take hc]
    generalize (cells.take i).foldl (fun t cell => lowC ws cell t) ws = t0 at htl
    walk_at "im"
    refine wq_for (src_list (l := c.map fun n : Nat => .int (n : Int)) (ev_var rfl)) (fun k ρ' => ∃ s6, ρ' = [.im (.int q), .im (cellsD cells), .im (intsD ws), .ow (t0.map .int), .im (natsD c), .im (.int ((gcdC ws (c.take k) : Nat) : Int)), s6]) ⟨_, rfl⟩ ?_ ?_
    · rintro k d ρ' hd ⟨s6, rfl⟩
      obtain ⟨w, hw, rfl⟩ := map_get hd
      have hwl := hlt w (List.mem_of_getElem? hw)
      refine ⟨_, gd_name, ?_⟩
      dsimp only [setD, List.set]
      refine ws_asg (d := .int ((gcdC ws (c.take (k + 1)) : Nat) : Int)) ((ev_cb (ea_cons (ev_var rfl) (ea_cons (ev_op (ev_var rfl) (ev_var rfl) (rv_ixxL (hget w hwl))) ea_nil)) rc_gcd).is ?_) ⟨_, rfl⟩
      rw [Int.natAbs_natCast]
      unfold gcdC
      rw [foldl_take hw]
    · rintro ρ' ⟨s6, rfl⟩
      rw [List.length_map, List.take_length]
      refine wq_noif (et_test (ev_op (ev_var rfl) ev_int rv_eq)) (decide_eq_false (by omega)) ?_
      refine ws_for (src_list (l := c.map fun n : Nat => .int (n : Int)) (ev_var rfl)) (fun k ρ' => ∃ s6, ρ' = [.im (.int q), .im (cellsD cells), .im (intsD ws), .ow (((c.take k).foldl (fun t w => t.set w (ws.getD w 0 / ((gcdC ws c : Nat) : Int))) t0).map .int), .im (natsD c), .im (.int ((gcdC ws c : Nat) : Int)), s6]) ⟨_, rfl⟩ ?_ ?_
      · rintro k d ρ' hd ⟨s6, rfl⟩
        obtain ⟨w, hw, rfl⟩ := map_get hd
        have hwm := List.mem_of_getElem? hw
        have hwl := hlt w hwm
        have hb := hwt w hwl
        refine ⟨_, gd_name, ?_⟩
        dsimp only [setD, List.set]
        have hl2 : ((c.take k).foldl (fun t w => t.set w (ws.getD w 0 / ((gcdC ws c : Nat) : Int))) t0).length = t0.length := lowC_len _ _ _ _
        have hd1 : CDivW (ws.getD w 0) ((gcdC ws c : Nat) : Int) := by
          have hs := wt_small hb.1 hb.2
          by_cases h0 : (ws.getD w 0).natAbs = 0
          · -- the cell's divisor is bounded by another weight
            have : ∃ v ∈ c, (ws.getD v 0).natAbs ≠ 0 := by
              refine Classical.byContradiction fun hno => ?_
              have hz : ∀ v ∈ c, (ws.getD v 0).natAbs = 0 := fun v hv => Classical.byContradiction fun h => hno ⟨v, hv, h⟩
              have : gcdC ws c = 0 := by
                unfold gcdC
                clear hno hpos hlt hcm hc hd
                have : ∀ l : List Nat, (∀ v ∈ l, (ws.getD v 0).natAbs = 0) → l.foldl (fun g w => Nat.gcd g (ws.getD w 0).natAbs) 0 = 0 := by
                  intro l
                  induction l with
                  | nil => exact fun _ => rfl
                  | cons y l ih =>
                    intro h
                    rw [List.foldl_cons, h y List.mem_cons_self, Nat.gcd_zero_right]
                    exact ih fun v hv => h v (List.mem_cons_of_mem _ hv)
                exact this c hz
              omega
            obtain ⟨v, hv, hv0⟩ := this
            have hvb := hwt v (hlt v hv)
            have hle := Nat.le_of_dvd (by omega) (gcdC_le hpos hv)
            have hs2 := wt_small hvb.1 hvb.2
            exact wide_div (b := 140) (by omega) (by rw [Int.natAbs_natCast]; exact Nat.lt_of_le_of_lt hle hs2) (by decide) (by decide)
          · have hle := Nat.le_of_dvd (by omega) (gcdC_le hpos hwm)
            exact wide_div (b := 140) (by omega) (by rw [Int.natAbs_natCast]; exact Nat.lt_of_le_of_lt hle hs) (by decide) (by decide)
        refine ws_setL (l := ((c.take k).foldl (fun t w => t.set w (ws.getD w 0 / ((gcdC ws c : Nat) : Int))) t0).map .int) (j := w) rfl (ev_op (ev_op (ev_var rfl) (ev_var rfl) (rv_ixxL (hget w hwl))) (ev_var rfl) (rv_div hd1)) (ev_var rfl) ?_ ?_
        · unfold ixN
          rw [List.length_map, hl2, htl, if_pos (by omega), if_pos (by omega)]
          rfl
        · dsimp only [List.set]
          refine ⟨.im (.int (w : Int)), ?_⟩
          rw [foldl_take hw, List.map_set]
      · rintro ρ' ⟨s6, rfl⟩
        rw [List.length_map, List.take_length]
        exact ⟨_, _, _, rfl⟩
  · rintro ρ' ⟨s4, s5, s6, rfl⟩
    rw [List.length_map, List.take_length]
    refine ws_owcl (i := 3) rfl (scal_ints _) ?_
    dsimp only [List.set]
    exact ws_retVc rfl p
theorem pr_lowest {q : Int} {cells : List (List Nat)} {ws : List Int} (h : LowOk cells ws) : P_lowest [.int q, cellsD cells, intsD ws] (fun s => s = .cl (intsD (lowN cells ws))) (fun _ => False) := ⟨q, cells, ws, rfl, h, rfl⟩
end
end FS
set_option Elab.async false
set_option linter.all false
set_option maxRecDepth 100000
set_option maxHeartbeats 4000000
set_option exponentiation.threshold 20000
namespace FS
open PySem PySem.Spec PyProof.Rows L2

local macro_rules | `(tactic| walk_at "side") => `(tactic| first | assumption | omega | decide)
local macro_rules | `(tactic| walk_at "hv") => `(tactic| (intro i hi; simp at hi; first | (subst hi; rfl) | (rcases hi with rfl | rfl <;> rfl) | (rcases hi with rfl | rfl | rfl <;> rfl)))
local macro_rules | `(tactic| walk_at "pr") => `(tactic| fail "no promise")
local macro_rules | `(tactic| walk_at "rv") => `(tactic| first
  | (with_reducible exact rv_add) | (with_reducible exact rv_sub) | (with_reducible exact rv_lt) | (with_reducible exact rv_le) | (with_reducible exact rv_gt) | (with_reducible exact rv_ge) | (with_reducible exact rv_eq) | (with_reducible exact rv_ne)
  | (with_reducible exact rv_is) | (with_reducible exact rv_isnot)
  | ((with_reducible apply rv_div); first | assumption | exact cdiv_small (by omega) (by omega))
  | ((with_reducible apply rv_mod); first | assumption | omega)
  | ((with_reducible apply rv_mul); first | assumption | exact cmul_left (by omega) | exact cmul_right (by omega))
  | ((with_reducible apply rv_mulW); assumption)
  | (with_reducible exact rv_p8) | (with_reducible exact rv_p18) | (with_reducible exact rv_p40) | (with_reducible exact rv_p20) | (with_reducible exact rv_p6) | (with_reducible exact rv_p7) | (with_reducible exact rv_p12) | (with_reducible exact rv_p25) | (with_reducible exact rv_p30) | (with_reducible exact rv_p39) | (with_reducible exact rv_p60)
  | ((with_reducible apply rv_ixxL); first | assumption | exact at_getD (by omega) (by omega) | exact at_nat rfl)
  | ((with_reducible apply rv_ixxT); first | assumption | exact at_getD (by omega) (by omega) | exact at_nat rfl)
  | ((with_reducible apply rv_ixxC); first | assumption)
  | (with_reducible exact ru_neg))
local macro_rules | `(tactic| walk_at "isi") => `(tactic| first | (with_reducible exact isi_non_int) | (with_reducible exact isi_non_bool) | (with_reducible exact isi_non_str) | (with_reducible exact isi_non_tuple) | (with_reducible exact isi_non_list) | (with_reducible exact isi_bl_int) | (with_reducible exact isi_bl_bool) | (with_reducible exact isi_bl_str) | (with_reducible exact isi_bl_tuple) | (with_reducible exact isi_bl_list) | (with_reducible exact isi_int_int) | (with_reducible exact isi_int_bool) | (with_reducible exact isi_int_str) | (with_reducible exact isi_int_tuple) | (with_reducible exact isi_int_list) | (with_reducible exact isi_str_int) | (with_reducible exact isi_str_bool) | (with_reducible exact isi_str_str) | (with_reducible exact isi_str_tuple) | (with_reducible exact isi_str_list) | (with_reducible exact isi_tup_int) | (with_reducible exact isi_tup_bool) | (with_reducible exact isi_tup_str) | (with_reducible exact isi_tup_tuple) | (with_reducible exact isi_tup_list) | (with_reducible exact isi_lst_int) | (with_reducible exact isi_lst_bool) | (with_reducible exact isi_lst_str) | (with_reducible exact isi_lst_tuple) | (with_reducible exact isi_lst_list))
local macro_rules | `(tactic| walk_at "rc") => `(tactic| first
  | walk_at "isi"
  | (with_reducible exact rc_len) | (with_reducible exact rc_lent) | (with_reducible exact rc_lenc) | (with_reducible exact rc_toint) | (with_reducible exact rc_absv) | (with_reducible exact rc_gcd)
  | ((with_reducible apply rc_lcm); assumption)
  | ((with_reducible apply rc_isi); (focus rfl); assumption)
  | (with_reducible exact rco_list) | (with_reducible exact rco_listT))
local macro_rules | `(tactic| walk_at "ev") => `(tactic| first
  | (with_reducible exact ev_int) | (with_reducible exact ev_bl) | (with_reducible exact ev_non) | (with_reducible exact ev_str) | (with_reducible exact ev_ty)
  | ((with_reducible apply ev_var); rfl)
  | ((with_reducible apply ev_lenOw); rfl)
  | ((with_reducible apply ev_op) <;> first | walk_at "ev" | walk_at "rv")
  | ((with_reducible apply ev_un) <;> first | walk_at "ev" | walk_at "rv")
  | ((with_reducible apply ev_cb) <;> first | walk_at "ev" | walk_at "rc")
  | ((with_reducible apply ev_call) <;> first | walk_at "ev" | walk_at "pr")
  | ((with_reducible apply ev_tup) <;> first | walk_at "ev" | (simp; done))
  | (with_reducible exact ea_nil)
  | ((with_reducible apply ea_cons) <;> walk_at "ev")
  | ((with_reducible apply et_test); walk_at "ev")
  | ((with_reducible apply et_B); walk_at "ev")
  | ((with_reducible apply et_not); walk_at "ev")
  | ((with_reducible apply et_or); (walk_at "ev"); intro _; walk_at "ev")
  | ((with_reducible apply et_and); (walk_at "ev"); intro _; walk_at "ev")
  | ((with_reducible apply ev_orV); (walk_at "ev"); intro _; walk_at "ev")
  | ((with_reducible apply ev_andV); (walk_at "ev"); intro _; walk_at "ev")
  | ((with_reducible apply ev_notV); walk_at "ev")
  | (with_reducible exact et_yes)
  | ((with_reducible apply evo_lst) <;> first | walk_at "ev" | (simp; done))
  | ((with_reducible apply ev_opO) <;> first | walk_at "ev" | ((with_reducible apply rvo_add); simp; omega))
  | ((with_reducible apply ev_cbO) <;> first | walk_at "ev" | walk_at "rc")
  | ((with_reducible apply ev_callO) <;> first | walk_at "ev" | walk_at "pr")
  | ((with_reducible apply ec_call) <;> first | walk_at "ev" | walk_at "pr")
  | ((with_reducible apply ec_tup) <;> first | walk_at "ev" | (simp; done))
  | ((with_reducible apply ec_lst) <;> first | walk_at "ev" | (simp; done))
  | (with_reducible exact eca_nil)
  | ((with_reducible apply eca_cons) <;> walk_at "ev")
  | ((with_reducible apply ec_sc); (walk_at "ev"); rfl)
  | ((with_reducible apply ec_ow); (walk_at "ev"); first | assumption | (intro d hd; simp at hd; done))
  | ((with_reducible apply ec_fz); walk_at "ev")
  | ((with_reducible apply ev_fz); walk_at "ev"))

local macro_rules | `(tactic| walk_at "im") => `(tactic| ((with_reducible apply wq_asg); walk_at "ev"; (try dsimp only [List.set, Int.reduceToNat])))
local macro_rules | `(tactic| walk_at "ow") => `(tactic| ((with_reducible apply wq_asgO); walk_at "ev"; (focus (first | decide | (simp; done))); (try dsimp only [List.set, Int.reduceToNat])))
local macro_rules | `(tactic| walk_at "cl") => `(tactic| ((with_reducible apply wq_asgC); walk_at "ev"; (focus (first | decide | (simp; done))); (try dsimp only [List.set, Int.reduceToNat])))
local macro_rules | `(tactic| walk_at "if") => `(tactic| ((first | (with_reducible apply wq_when) | (with_reducible apply wq_if) | (with_reducible apply ws_if)); walk_at "ev"; (try dsimp only [Int.reduceToNat])))
local macro_rules | `(tactic| walk_at "ret") => `(tactic| ((with_reducible apply ws_ret); walk_at "ev"))
local macro_rules | `(tactic| walk_at "go") => `(tactic| (try dsimp only [cxOf, L2.Cx.nox, L2.Cx.wish, L2.Cx.blk]))
local macro_rules | `(tactic| walk_at "ints") => `(tactic| (refine ev_fz (evo_lst ?_ (by decide)); repeat (first | exact ea_nil | refine ea_cons ev_int ?_)))

/-! ### making a book -/
def bkCells (row : List Int) : List (List Nat) := gathN (numbN row)
def bkWeights (row ws : List Int) : List Int := lowN (bkCells row) ws
def bkTotals (row ws : List Int) : List Int := (bkCells row).map fun c => (c.map fun w => (bkWeights row ws).getD w 0).sum
def mkBook (n : Nat) (sights odds : List (List Int)) : BookM where
  worlds := n
  people := sights.length
  labels := sights.map numbN
  cells := sights.map bkCells
  weights := (List.range sights.length).map fun p => bkWeights (sights.getD p []) (odds.getD p [])
  totals := (List.range sights.length).map fun p => bkTotals (sights.getD p []) (odds.getD p [])
/-- while it is made -/
def bookK (n : Nat) (sights odds : List (List Int)) (i : Nat) : List D := [.int (n : Int), .int (sights.length : Int), .kn (.lst (sights.map fun r => natsD (numbN r))), .kn (.lst (sights.map fun r => cellsD (bkCells r))),
  .lst ((List.range i).map fun p => .kn (intsD (bkWeights (sights.getD p []) (odds.getD p [])))), .lst ((List.range i).map fun p => intsD (bkTotals (sights.getD p []) (odds.getD p [])))]
theorem numb_lt {row : List Int} {x : Nat} (h : x ∈ numbN row) : x < row.length := by
  obtain ⟨y, hy, rfl⟩ := List.mem_map.mp h
  have h1 : (firsts row).findIdx (· == y) < (firsts row).length := List.findIdx_lt_length_of_exists ⟨y, mem_firsts hy, by simp⟩
  have := firsts_len row
  omega
theorem erL_ints : ∀ (l : List (List Int)), D.erL (l.map intsD) = l.map intsD
  | [] => rfl
  | x :: l => by
    have e : ∀ r : List Int, D.erL (r.map D.int) = r.map D.int := by
      intro r
      induction r with
      | nil => rfl
      | cons a r ih => rw [List.map_cons, D.erL, ih] <;> rfl
    rw [List.map_cons, D.erL, erL_ints l, intsD, D.er, e]
section
variable {P : Program} {w : World} {K : PySem.W.Frag} {mg : Str → Option Value} {base : Heap} {C_Book : Addr}
structure BkOk (n : Nat) (sights odds : List (List Int)) : Prop where
  g : GT n sights odds
  low : ∀ p, p < sights.length → LowOk (bkCells (sights.getD p [])) (odds.getD p [])
def P_book (C : Addr) (ds : List D) (R : D → Prop) (_ : Exn → Prop) : Prop := ∃ (n : Nat) (sights odds : List (List Int)), ds = [rowsD sights, rowsD odds] ∧ BkOk n sights odds ∧ R (.ins C bookNs (bookK n sights odds sights.length))
theorem book_er {C : Addr} {n : Nat} {sights odds : List (List Int)} : (D.ins C bookNs (bookK n sights odds sights.length)).er = bookD C (mkBook n sights odds) := by
  show D.ins C bookNs (D.erL (bookK n sights odds sights.length)) = D.ins C bookNs (bookL (mkBook n sights odds))
  congr 1
  unfold bookK bookL mkBook
  simp only [D.erL, D.er, erL_kn, List.map_map]
  have e := erL_ints ((List.range sights.length).map fun p => bkTotals (sights.getD p []) (odds.getD p []))
  rw [List.map_map] at e
  rw [show (fun p => intsD (bkTotals (sights.getD p []) (odds.getD p []))) = intsD ∘ (fun p => bkTotals (sights.getD p []) (odds.getD p [])) from rfl, e]
  rfl
theorem ok_Book_init (F : Di K mg C_Book "Book" "Book.__init__" s_Book_init ["self", "sights", "odds"]) (gm : Gm K mg C_Book) (G_check_sights : FnG P w K mg base CX0 1 "check_sights" ["sights"] (spD K P_check_sights)) (G_check_odds : FnG P w K mg base CX0 1 "check_odds" ["sights", "odds"] (spD K P_check_odds))
    (G_numbered : FnG P w K mg base CX0 1 "numbered" ["row"] (spD K P_numbered)) (G_gathered : FnG P w K mg base CX0 1 "gathered" ["labels"] (spD K P_gathered)) (G_lowest : FnG P w K mg base CX0 1 "lowest" ["person", "cells", "weights"] (spD K P_lowest)) : FnI P w K mg base CX0 2 C_Book "Book" ["self", "sights", "odds"] (spMk K C_Book (P_book C_Book)) := by
  refine F.ok (k := 1) sc_Book_init (fun ds R Z ⟨a, b, c, e, _⟩ => by rw [e] <;> rfl) (fun f cdv A outer s H E hr => ?_)
  refine ⟨_,
    (pss_cons (ps_expr (pe_g G_check_sights hr.le pass0 (pa_cons (pv 1) pa_nil)))
    (pss_cons (ps_expr (pe_g G_check_odds hr.le pass0 (pa_cons (pv 1) (pa_cons (pv 2) pa_nil))))
    (pss_cons (fs K (pv 0) (cb (kLen K) gm.len (pa_cons (ix K (pv 1) pe_int) pa_nil)))
    (pss_cons (fs K (pv 0) (cb (kLen K) gm.len (pa_cons (pv 1) pa_nil)))
    (pss_cons (fs K (pv 0) (pe_lc (own := [("row", 3)]) rfl sc_Book_init.nd (pl K (pv 1)) (blkOk_by (N := N_Book_init) (sc := defScope s_Book_init) (by decide +kernel)) (fun _ _ _ _ _ => (gn 3 sc_Book_init.nd)) (fun _ _ _ _ _ => pts_nil) (fun _ _ _ _ _ => (pe_g G_numbered hr.le pass0 (pa_cons (pv 3) pa_nil)))))
    (pss_cons (fs K (pv 0) (pe_lc (own := [("labels", 4)]) rfl sc_Book_init.nd (pl K (fl K (pv 0))) (blkOk_by (N := N_Book_init) (sc := defScope s_Book_init) (by decide +kernel)) (fun _ _ _ _ _ => (gn 4 sc_Book_init.nd)) (fun _ _ _ _ _ => pts_nil) (fun _ _ _ _ _ => (pe_g G_gathered hr.le pass0 (pa_cons (pv 4) pa_nil)))))
    (pss_cons (fs K (pv 0) (pe_lst pa_nil))
    (pss_cons (fs K (pv 0) (pe_lst pa_nil))
    (pss_one (ps_for PassesOwn.never rfl (pi_range1 (by rfl) gm.range (pa_cons (fl K (pv 0)) pa_nil)) (gn 5 sc_Book_init.nd) (pss_cons (sv 6 sc_Book_init.nd (pe_g G_lowest hr.le pass0 (pa_cons (pv 5) (pa_cons (ix K (fl K (pv 0)) (pv 5)) (pa_cons (ix K (pv 2) (pv 5)) pa_nil))))) (pss_cons (ps_expr (ml_append K (fl K (pv 0)) (pa_cons (pv 6) pa_nil))) (pss_one (ps_expr (ml_append K (fl K (pv 0)) (pa_cons (pe_lc (own := [("cell", 7)]) rfl sc_Book_init.nd (pl K (ix K (fl K (pv 0)) (pv 5))) (blkOk_by (N := N_Book_init) (sc := defScope s_Book_init) (by decide +kernel)) (fun _ _ _ _ _ => (gn 7 sc_Book_init.nd)) (fun _ _ _ _ _ => pts_nil) (fun _ _ _ _ _ => (cb (kSum K rfl) gm.sum (pa_cons (pe_lc (own := [("world", 8)]) rfl sc_Book_init.nd (pl K (pv 7)) (blkOk_by (N := N_Book_init) (by kernel_rfl)) (fun _ _ _ _ _ => (gn 8 sc_Book_init.nd)) (fun _ _ _ _ _ => pts_nil) (fun _ _ _ _ _ => (ix K (pv 6) (pv 8)))) pa_nil)))) pa_nil)))))))))))))))), fun a ds R Z p => ?_⟩
  obtain ⟨n, sights, odds, rfl, ⟨g, low⟩, p⟩ := p
  refine ws_to (ρ' := [.cl (.slf a C_Book [] []), .im (rowsD sights), .im (rowsD odds), .no, .no, .no, .no, .no, .no]) rfl ?_
  walk_at "go"
  have p1 := g.p1
  have p2 := g.p2
  have n1 := g.n1
  have n2 := g.n2
  have h0 : sights[0]? = some sights[0] := List.getElem?_eq_getElem (by omega)
  have hr0 := g.row _ (List.mem_of_getElem? h0)
  refine wq_drop (ev_call (ea_cons (ev_var rfl) ea_nil) (pr_check_sights g)) ?_
  refine wq_drop (ev_call (ea_cons (ev_var rfl) (ea_cons (ev_var rfl) ea_nil)) (pr_check_odds g)) ?_
  refine wq_fld (x := .int (n : Int)) rfl (ec_sc ((ev_cb (ea_cons (ev_op (ev_var rfl) ev_int (rv_ixxL (at_map (k := 0) h0))) ea_nil) rc_len).is (by rw [List.length_map, hr0])) rfl) rfl (by decide) (by decide) gm.Book_c gm.Book_worlds ?_
  dsimp only [List.set, List.append, List.nil_append, List.cons_append]
  refine wq_fld (x := .int (sights.length : Int)) rfl (ec_sc ((ev_cb (ea_cons (ev_var rfl) ea_nil) rc_len).is (by rw [List.length_map])) rfl) rfl (by decide) (by decide) gm.Book_c gm.Book_people ?_
  dsimp only [List.set, List.append, List.nil_append, List.cons_append]
  refine wq_fld (x := .kn (.lst (sights.map fun r => natsD (numbN r)))) rfl (ec_kn (ec_fz (ec_map (xs := sights) (enc := intsD) (fun r => natsD (numbN r)) (src_list (ev_var rfl)) (by walk_at "hv") (fun r hr => ⟨_, gd_name, by simp, ?_⟩) (by omega)))) rfl (by decide) (by decide) gm.Book_c gm.Book__labels ?_
  · dsimp only [setD, wipeD, List.set, List.map]
    exact ec_call (ea_cons (ev_var rfl) ea_nil) (pr_numbered (by rw [g.row r hr]; omega))
  dsimp only [List.set, List.append, List.nil_append, List.cons_append]
  have hlab : ∀ r ∈ sights, numbN r ≠ [] ∧ (numbN r).length ≤ 1000 ∧ ∀ x ∈ numbN r, x < 1000 := fun r hr => by
    have hrl := g.row r hr
    have hnl : (numbN r).length = n := by rw [numbN, List.length_map, hrl]
    refine ⟨fun e => ?_, by omega, fun x hx => ?_⟩
    · rw [e] at hnl
      have : (0 : Nat) = n := hnl
      omega
    · have := numb_lt hx
      omega
  refine wq_fld (x := .kn (.lst (sights.map fun r => cellsD (bkCells r)))) rfl (ec_kn (ec_fz (ec_map (xs := sights) (enc := fun r => natsD (numbN r)) (fun r => cellsD (bkCells r)) (src_list (ev_spot (i := 0) (π := [2]) rfl (el_self rfl (by decide) (by show 2 < 3; decide) gm.Book_c gm.Book__labels) rfl)) (by walk_at "hv") (fun r hr => ⟨_, gd_name, by simp, ?_⟩) (by omega)))) rfl (by decide) (by decide) gm.Book_c gm.Book__cells ?_
  · dsimp only [setD, wipeD, List.set, List.map]
    obtain ⟨q1, q2, q3⟩ := hlab r hr
    exact ec_call (ea_cons (ev_var rfl) ea_nil) (pr_gathered q1 q2 q3)
  dsimp only [List.set, List.append, List.nil_append, List.cons_append]
  refine wq_fld (x := .lst []) rfl (ec_lst eca_nil (by simp)) rfl (by decide) (by decide) gm.Book_c gm.Book__weights ?_
  dsimp only [List.set, List.append, List.nil_append, List.cons_append]
  refine wq_fld (x := .lst []) rfl (ec_lst eca_nil (by simp)) rfl (by decide) (by decide) gm.Book_c gm.Book__totals ?_
  dsimp only [List.set, List.append, List.nil_append, List.cons_append]
  refine ws_for (src_rng1 (n := (sights.length : Int)) (ea_cons (ev_spotS (i := 0) (π := [1]) rfl (el_self rfl (by decide) (by show 1 < 6; decide) gm.Book_c gm.Book_people) rfl rfl) ea_nil) (by omega))
    (fun i ρ' => ∃ s5 s6 s7 s8, ρ' = [.cl (.slf a C_Book bookNs (bookK n sights odds i)), .im (rowsD sights), .im (rowsD odds), .no, .no, s5, s6, s7, s8] ∧ isOw (some s7) = false ∧ isOw (some s8) = false) ⟨_, _, _, _, rfl, rfl, rfl⟩ ?_ ?_
  · rintro i d ρ' hd ⟨s5, s6, s7, s8, rfl, h7, h8⟩
    obtain ⟨hi, rfl⟩ := rng_get hd
    refine ⟨_, gd_name, ?_⟩
    dsimp only [setD, List.set]
    have hi : i < sights.length := by omega
    have hs : sights[i]? = some (sights.getD i []) := by rw [List.getD_eq_getElem?_getD, List.getElem?_eq_getElem hi] <;> rfl
    have hoi : i < odds.length := by rw [g.len]; exact hi
    have ho : odds[i]? = some (odds.getD i []) := by rw [List.getD_eq_getElem?_getD, List.getElem?_eq_getElem hoi] <;> rfl
    have lo := low i hi
    have hol : (odds.getD i []).length = n := g.orow _ (List.mem_of_getElem? ho)
    have e0 : (0 : Int) + (i : Int) = ((i : Nat) : Int) := Int.zero_add _
    have ac : atI (sights.map fun r => cellsD (bkCells r)) (0 + (i : Int)) = some (cellsD (bkCells (sights.getD i []))) := by rw [e0]; exact at_map (f := fun r => cellsD (bkCells r)) hs
    have ao : atI (odds.map intsD) (0 + (i : Int)) = some (intsD (odds.getD i [])) := by rw [e0]; exact at_map ho
    have hcells : ∀ ρ : Rho, ρ[0]? = some (.cl (.slf a C_Book bookNs (bookK n sights odds i))) → EvD K (tFld K (tVar 0) "_cells") ρ (.lst (sights.map fun r => cellsD (bkCells r))) := fun ρ e => ev_spot (i := 0) (π := [3]) e (el_self e (by decide) (by show 3 < 6; decide) gm.Book_c gm.Book__cells) rfl
    refine wq_asg (d := intsD (bkWeights (sights.getD i []) (odds.getD i []))) (ec_fz (ec_call (ea_cons (ev_var rfl) (ea_cons (ev_op (hcells _ rfl) (ev_var rfl) (rv_ixxL ac)) (ea_cons (ev_op (ev_var rfl) (ev_var rfl) (rv_ixxL ao)) ea_nil))) (pr_lowest lo))) ?_
    dsimp only [List.set]
    have hw : ∀ c ∈ bkCells (sights.getD i []), ∀ w ∈ c, w < (bkWeights (sights.getD i []) (odds.getD i [])).length := fun c hc w hw => by
      rw [bkWeights, lowN, lowN_len]
      exact lo.lt c hc w hw
    refine wq_appP (i := 0) (π := [4]) (l := (List.range i).map fun p => .kn (intsD (bkWeights (sights.getD p []) (odds.getD p [])))) rfl (el_self rfl (by decide) (by show 4 < 6; decide) gm.Book_c gm.Book__weights) rfl (ec_kn (ev_var rfl)) (by rw [List.length_map, List.length_range]; omega) ?_
    dsimp only [List.set]
    refine ws_appP (i := 0) (π := [5]) (l := (List.range i).map fun p => intsD (bkTotals (sights.getD p []) (odds.getD p []))) (x := intsD (bkTotals (sights.getD i []) (odds.getD i []))) rfl (el_self rfl (by decide) (by show 5 < 6; decide) gm.Book_c gm.Book__totals) rfl ((ec_ow (evo_map (xs := bkCells (sights.getD i [])) (enc := natsD) (fun c => D.int (c.map fun w => (bkWeights (sights.getD i []) (odds.getD i [])).getD w 0).sum) (src_list (ev_op (ev_spot (i := 0) (π := [3]) rfl (el_self rfl (by decide) (by show 3 < 6; decide) gm.Book_c gm.Book__cells) rfl) (ev_var rfl) (rv_ixxL ac))) ?_ (fun c hc => ⟨_, gd_name, by simp, ?_⟩) ?_) ?_).is ?_) (by rw [List.length_map, List.length_range]; omega) ?_
    · intro j hj
      have hj : j = 7 := by simpa using hj
      rw [hj]
      exact h7
    · dsimp only [setD, wipeD, List.set, List.map]
      refine ev_cb (ea_cons ((ev_fz (evo_map (xs := c) (enc := fun n : Nat => .int (n : Int)) (fun w => D.int ((bkWeights (sights.getD i []) (odds.getD i [])).getD w 0)) (src_list (ev_var rfl)) ?_ (fun w hwc => ⟨_, gd_name, by simp, ?_⟩) ?_)).is ?_) ea_nil) rc_sum
      · intro j hj
        have hj : j = 8 := by simpa using hj
        rw [hj]
        exact h8
      · dsimp only [setD, wipeD, List.set, List.map]
        exact ev_op (ev_var rfl) (ev_var rfl) (rv_ixxL (at_ints (hw c hc w hwc)))
      · obtain ⟨k, _, rfl⟩ := List.mem_map.mp hc
        have := cellN_len (numbN (sights.getD i [])) (numbN (sights.getD i [])).length k
        have e : (numbN (sights.getD i [])).length = n := by rw [numbN, List.length_map, g.row _ (List.mem_of_getElem? hs)]
        omega
      · rw [List.map_map]
        rfl
    · rw [bkCells, gathN, List.length_map, List.length_range]
      have hmx := mx_mem (hlab _ (List.mem_of_getElem? hs)).1
      have := (hlab _ (List.mem_of_getElem? hs)).2.2 _ hmx
      omega
    · intro d hd
      obtain ⟨c, _, rfl⟩ := List.mem_map.mp hd
      rfl
    · show D.lst _ = D.lst _
      rw [bkTotals, List.map_map]
      rfl
    · dsimp only [List.set]
      refine ⟨.im (.int (0 + (i : Int))), .im (intsD (bkWeights (sights.getD i []) (odds.getD i []))), s7, s8, ?_, h7, h8⟩
      have e : bookK n sights odds (i + 1) = [.int (n : Int), .int (sights.length : Int), .kn (.lst (sights.map fun r => natsD (numbN r))), .kn (.lst (sights.map fun r => cellsD (bkCells r))), .lst (((List.range i).map fun p => D.kn (intsD (bkWeights (sights.getD p []) (odds.getD p [])))) ++ [.kn (intsD (bkWeights (sights.getD i []) (odds.getD i [])))]), .lst (((List.range i).map fun p => intsD (bkTotals (sights.getD p []) (odds.getD p []))) ++ [intsD (bkTotals (sights.getD i []) (odds.getD i []))])] := by
        unfold bookK
        rw [List.range_succ, List.map_append, List.map_append]
        rfl
      rw [e]
      rfl
  · rintro ρ' ⟨s5, s6, s7, s8, rfl, h7, h8⟩
    rw [rng_len]
    have e : ((sights.length : Int)).toNat = sights.length := by omega
    rw [e]
    exact ⟨_, _, rfl, p⟩
end
end FS
set_option Elab.async false
set_option linter.all false
set_option maxRecDepth 100000
set_option maxHeartbeats 4000000
set_option exponentiation.threshold 20000
namespace FS
open PySem PySem.Spec PyProof.Rows L2

local macro_rules | `(tactic| walk_at "side") => `(tactic| first | assumption | omega | decide)
local macro_rules | `(tactic| walk_at "hv") => `(tactic| (intro i hi; simp at hi; first | (subst hi; rfl) | (rcases hi with rfl | rfl <;> rfl) | (rcases hi with rfl | rfl | rfl <;> rfl)))
local macro_rules | `(tactic| walk_at "pr") => `(tactic| fail "no promise")
local macro_rules | `(tactic| walk_at "rv") => `(tactic| first
  | (with_reducible exact rv_add) | (with_reducible exact rv_sub) | (with_reducible exact rv_lt) | (with_reducible exact rv_le) | (with_reducible exact rv_gt) | (with_reducible exact rv_ge) | (with_reducible exact rv_eq) | (with_reducible exact rv_ne)
  | (with_reducible exact rv_is) | (with_reducible exact rv_isnot)
  | ((with_reducible apply rv_div); first | assumption | exact cdiv_small (by omega) (by omega))
  | ((with_reducible apply rv_mod); first | assumption | omega)
  | ((with_reducible apply rv_mul); first | assumption | exact cmul_left (by omega) | exact cmul_right (by omega))
  | ((with_reducible apply rv_mulW); assumption)
  | (with_reducible exact rv_p8) | (with_reducible exact rv_p18) | (with_reducible exact rv_p40) | (with_reducible exact rv_p20) | (with_reducible exact rv_p6) | (with_reducible exact rv_p7) | (with_reducible exact rv_p12) | (with_reducible exact rv_p25) | (with_reducible exact rv_p30) | (with_reducible exact rv_p39) | (with_reducible exact rv_p60)
  | ((with_reducible apply rv_ixxL); first | assumption | exact at_getD (by omega) (by omega) | exact at_nat rfl)
  | ((with_reducible apply rv_ixxT); first | assumption | exact at_getD (by omega) (by omega) | exact at_nat rfl)
  | ((with_reducible apply rv_ixxC); first | assumption)
  | (with_reducible exact ru_neg))
local macro_rules | `(tactic| walk_at "isi") => `(tactic| first | (with_reducible exact isi_non_int) | (with_reducible exact isi_non_bool) | (with_reducible exact isi_non_str) | (with_reducible exact isi_non_tuple) | (with_reducible exact isi_non_list) | (with_reducible exact isi_bl_int) | (with_reducible exact isi_bl_bool) | (with_reducible exact isi_bl_str) | (with_reducible exact isi_bl_tuple) | (with_reducible exact isi_bl_list) | (with_reducible exact isi_int_int) | (with_reducible exact isi_int_bool) | (with_reducible exact isi_int_str) | (with_reducible exact isi_int_tuple) | (with_reducible exact isi_int_list) | (with_reducible exact isi_str_int) | (with_reducible exact isi_str_bool) | (with_reducible exact isi_str_str) | (with_reducible exact isi_str_tuple) | (with_reducible exact isi_str_list) | (with_reducible exact isi_tup_int) | (with_reducible exact isi_tup_bool) | (with_reducible exact isi_tup_str) | (with_reducible exact isi_tup_tuple) | (with_reducible exact isi_tup_list) | (with_reducible exact isi_lst_int) | (with_reducible exact isi_lst_bool) | (with_reducible exact isi_lst_str) | (with_reducible exact isi_lst_tuple) | (with_reducible exact isi_lst_list))
local macro_rules | `(tactic| walk_at "rc") => `(tactic| first
  | walk_at "isi"
  | (with_reducible exact rc_len) | (with_reducible exact rc_lent) | (with_reducible exact rc_lenc) | (with_reducible exact rc_toint) | (with_reducible exact rc_absv) | (with_reducible exact rc_gcd)
  | ((with_reducible apply rc_lcm); assumption)
  | ((with_reducible apply rc_isi); (focus rfl); assumption)
  | (with_reducible exact rco_list) | (with_reducible exact rco_listT))
local macro_rules | `(tactic| walk_at "ev") => `(tactic| first
  | (with_reducible exact ev_int) | (with_reducible exact ev_bl) | (with_reducible exact ev_non) | (with_reducible exact ev_str) | (with_reducible exact ev_ty)
  | ((with_reducible apply ev_var); rfl)
  | ((with_reducible apply ev_lenOw); rfl)
  | ((with_reducible apply ev_op) <;> first | walk_at "ev" | walk_at "rv")
  | ((with_reducible apply ev_un) <;> first | walk_at "ev" | walk_at "rv")
  | ((with_reducible apply ev_cb) <;> first | walk_at "ev" | walk_at "rc")
  | ((with_reducible apply ev_call) <;> first | walk_at "ev" | walk_at "pr")
  | ((with_reducible apply ev_tup) <;> first | walk_at "ev" | (simp; done))
  | (with_reducible exact ea_nil)
  | ((with_reducible apply ea_cons) <;> walk_at "ev")
  | ((with_reducible apply et_test); walk_at "ev")
  | ((with_reducible apply et_B); walk_at "ev")
  | ((with_reducible apply et_not); walk_at "ev")
  | ((with_reducible apply et_or); (walk_at "ev"); intro _; walk_at "ev")
  | ((with_reducible apply et_and); (walk_at "ev"); intro _; walk_at "ev")
  | ((with_reducible apply ev_orV); (walk_at "ev"); intro _; walk_at "ev")
  | ((with_reducible apply ev_andV); (walk_at "ev"); intro _; walk_at "ev")
  | ((with_reducible apply ev_notV); walk_at "ev")
  | (with_reducible exact et_yes)
  | ((with_reducible apply evo_lst) <;> first | walk_at "ev" | (simp; done))
  | ((with_reducible apply ev_opO) <;> first | walk_at "ev" | ((with_reducible apply rvo_add); simp; omega))
  | ((with_reducible apply ev_cbO) <;> first | walk_at "ev" | walk_at "rc")
  | ((with_reducible apply ev_callO) <;> first | walk_at "ev" | walk_at "pr")
  | ((with_reducible apply ec_call) <;> first | walk_at "ev" | walk_at "pr")
  | ((with_reducible apply ec_tup) <;> first | walk_at "ev" | (simp; done))
  | ((with_reducible apply ec_lst) <;> first | walk_at "ev" | (simp; done))
  | (with_reducible exact eca_nil)
  | ((with_reducible apply eca_cons) <;> walk_at "ev")
  | ((with_reducible apply ec_sc); (walk_at "ev"); rfl)
  | ((with_reducible apply ec_ow); (walk_at "ev"); first | assumption | (intro d hd; simp at hd; done))
  | ((with_reducible apply ec_fz); walk_at "ev")
  | ((with_reducible apply ev_fz); walk_at "ev"))

local macro_rules | `(tactic| walk_at "im") => `(tactic| ((with_reducible apply wq_asg); walk_at "ev"; (try dsimp only [List.set, Int.reduceToNat])))
local macro_rules | `(tactic| walk_at "ow") => `(tactic| ((with_reducible apply wq_asgO); walk_at "ev"; (focus (first | decide | (simp; done))); (try dsimp only [List.set, Int.reduceToNat])))
local macro_rules | `(tactic| walk_at "cl") => `(tactic| ((with_reducible apply wq_asgC); walk_at "ev"; (focus (first | decide | (simp; done))); (try dsimp only [List.set, Int.reduceToNat])))
local macro_rules | `(tactic| walk_at "if") => `(tactic| ((first | (with_reducible apply wq_when) | (with_reducible apply wq_if) | (with_reducible apply ws_if)); walk_at "ev"; (try dsimp only [Int.reduceToNat])))
local macro_rules | `(tactic| walk_at "ret") => `(tactic| ((with_reducible apply ws_ret); walk_at "ev"))
local macro_rules | `(tactic| walk_at "go") => `(tactic| (try dsimp only [cxOf, L2.Cx.nox, L2.Cx.wish, L2.Cx.blk]))
local macro_rules | `(tactic| walk_at "ints") => `(tactic| (refine ev_fz (evo_lst ?_ (by decide)); repeat (first | exact ea_nil | refine ea_cons ev_int ?_)))

section
variable {P : Program} {w : World} {K : PySem.W.Frag} {mg : Str → Option Value} {base : Heap} {C_Book : Addr}
def P_Book_cells (C : Addr) : PrD := fun ds R _ => ∃ (b : BookM) (q : Nat) (c : List (List Nat)), ds = [bookD C b, .int (q : Int)] ∧ q < b.people ∧ b.cells[q]? = some c ∧ c.length ≤ 1000 ∧ R (.cl (cellsD c))
theorem ok_Book_cells (F : Dm K C_Book "cells" "Book.cells" s_Book_cells ["self", "person"]) (gm : Gm K mg C_Book) (G_check_person : FnG P w K mg base CX0 1 "check_person" ["book", "person"] (spD K (P_check_person C_Book))) : FnM P w K mg base CX0 2 C_Book "cells" ["self", "person"] (spD K (P_Book_cells C_Book)) := by
  refine F.ok (k := 1) sc_Book_cells (fun ds R Z ⟨a, b, c, e, _⟩ => by rw [e] <;> rfl) (fun f cdv A outer s H E hr => ?_)
  refine ⟨_,
    (pss_cons (ps_expr (pe_g G_check_person hr.le pass0 (pa_cons (pv 0) (pa_cons (pv 1) pa_nil))))
    (pss_one (ps_ret (pe_lc (own := [("cell", 2)]) rfl sc_Book_cells.nd (pl K (ix K (fl K (pv 0)) (pv 1))) (blkOk_by (N := N_Book_cells) (sc := defScope s_Book_cells) (by decide +kernel)) (fun _ _ _ _ _ => (gn 2 sc_Book_cells.nd)) (fun _ _ _ _ _ => pts_nil) (fun _ _ _ _ _ => (ct (kList K) gm.list (pa_cons (pv 2) pa_nil))))))), fun ds R Z p => ?_⟩
  obtain ⟨b, q, c, rfl, h0, h1, h2, p⟩ := p
  refine ws_to (ρ' := [.im (bookD C_Book b), .im (.int (q : Int)), .no]) rfl ?_
  walk_at "go"
  refine wq_drop (ev_call (ea_cons (ev_var rfl) (ea_cons (ev_var rfl) ea_nil)) (pr_check_person (by omega) (by omega))) ?_
  refine ws_retC (d := cellsD c) (ec_map (xs := c) (enc := natsD) (fun r => natsD r) (src_list (ev_op (ev_fld (l := bookL b) (ns := bookNs) (j := 3) (d := .lst (b.cells.map cellsD)) (ev_var rfl) (by decide) rfl gm.Book_c gm.Book__cells) (ev_var rfl) (rv_ixxL (at_map h1)))) (by walk_at "hv") (fun r hr => ⟨_, gd_name, by simp, ?_⟩) (by omega)) p
  dsimp only [setD, wipeD, List.set, List.map]
  refine ec_ow (ev_cbO (ea_cons (ev_var rfl) ea_nil) rco_list) fun d hd => ?_
  obtain ⟨x, _, rfl⟩ := List.mem_map.mp hd
  rfl
theorem pr_Book_cells {C : Addr} {b : BookM} {q : Nat} {c : List (List Nat)} (h0 : q < b.people) (h1 : b.cells[q]? = some c) (h2 : c.length ≤ 1000) : P_Book_cells C [bookD C b, .int (q : Int)] (fun s => s = .cl (cellsD c)) (fun _ => False) := ⟨b, q, c, rfl, h0, h1, h2, rfl⟩
end

section
variable {P : Program} {w : World} {K : PySem.W.Frag} {mg : Str → Option Value} {base : Heap} {C_Book : Addr}
def P_Book_weight (C : Addr) : PrD := fun ds R _ => ∃ (b : BookM) (q v : Nat) (ws : List Int), ds = [bookD C b, .int (q : Int), .int (v : Int)] ∧ q < b.people ∧ v < b.worlds ∧ b.weights[q]? = some ws ∧ v < ws.length ∧ R (.im (.int (ws.getD v 0)))
theorem ok_Book_weight (F : Dm K C_Book "weight" "Book.weight" s_Book_weight ["self", "person", "world"]) (gm : Gm K mg C_Book) (G_check_person : FnG P w K mg base CX0 1 "check_person" ["book", "person"] (spD K (P_check_person C_Book))) (G_check_world : FnG P w K mg base CX0 1 "check_world" ["book", "world"] (spD K (P_check_world C_Book))) : FnM P w K mg base CX0 2 C_Book "weight" ["self", "person", "world"] (spD K (P_Book_weight C_Book)) := by
  refine F.ok (k := 1) sc_Book_weight (fun ds R Z ⟨a, b, c, d, e, _⟩ => by rw [e] <;> rfl) (fun f cdv A outer s H E hr => ?_)
  refine ⟨_,
    (pss_cons (ps_expr (pe_g G_check_person hr.le pass0 (pa_cons (pv 0) (pa_cons (pv 1) pa_nil))))
    (pss_cons (ps_expr (pe_g G_check_world hr.le pass0 (pa_cons (pv 0) (pa_cons (pv 2) pa_nil))))
    (pss_one (ps_ret (ix K (ix K (fl K (pv 0)) (pv 1)) (pv 2)))))), fun ds R Z p => ?_⟩
  obtain ⟨b, q, v, ws, rfl, h0, h1, h2, h3, p⟩ := p
  refine ws_to (ρ' := [.im (bookD C_Book b), .im (.int (q : Int)), .im (.int (v : Int))]) rfl ?_
  walk_at "go"
  refine wq_drop (ev_call (ea_cons (ev_var rfl) (ea_cons (ev_var rfl) ea_nil)) (pr_check_person (by omega) (by omega))) ?_
  refine wq_drop (ev_call (ea_cons (ev_var rfl) (ea_cons (ev_var rfl) ea_nil)) (pr_check_world (by omega) (by omega))) ?_
  exact ws_ret (ev_op (ev_op (ev_fld (l := bookL b) (ns := bookNs) (j := 4) (d := .lst (b.weights.map intsD)) (ev_var rfl) (by decide) rfl gm.Book_c gm.Book__weights) (ev_var rfl) (rv_ixxL (at_map h2))) (ev_var rfl) (rv_ixxL (at_ints h3))) p
theorem pr_Book_weight {C : Addr} {b : BookM} {q v : Nat} {ws : List Int} (h0 : q < b.people) (h1 : v < b.worlds) (h2 : b.weights[q]? = some ws) (h3 : v < ws.length) : P_Book_weight C [bookD C b, .int (q : Int), .int (v : Int)] (fun s => s = .im (.int (ws.getD v 0))) (fun _ => False) := ⟨b, q, v, ws, rfl, h0, h1, h2, h3, rfl⟩
end
end FS
set_option Elab.async false
set_option linter.all false
set_option maxRecDepth 100000
set_option maxHeartbeats 4000000
set_option exponentiation.threshold 20000
namespace FS
open PySem PySem.Spec PyProof.Rows L2

local macro_rules | `(tactic| walk_at "side") => `(tactic| first | assumption | omega | decide)
local macro_rules | `(tactic| walk_at "hv") => `(tactic| (intro i hi; simp at hi; first | (subst hi; rfl) | (rcases hi with rfl | rfl <;> rfl) | (rcases hi with rfl | rfl | rfl <;> rfl)))
local macro_rules | `(tactic| walk_at "pr") => `(tactic| fail "no promise")
local macro_rules | `(tactic| walk_at "rv") => `(tactic| first
  | (with_reducible exact rv_add) | (with_reducible exact rv_sub) | (with_reducible exact rv_lt) | (with_reducible exact rv_le) | (with_reducible exact rv_gt) | (with_reducible exact rv_ge) | (with_reducible exact rv_eq) | (with_reducible exact rv_ne)
  | (with_reducible exact rv_is) | (with_reducible exact rv_isnot)
  | ((with_reducible apply rv_div); first | assumption | exact cdiv_small (by omega) (by omega))
  | ((with_reducible apply rv_mod); first | assumption | omega)
  | ((with_reducible apply rv_mul); first | assumption | exact cmul_left (by omega) | exact cmul_right (by omega))
  | ((with_reducible apply rv_mulW); assumption)
  | (with_reducible exact rv_p8) | (with_reducible exact rv_p18) | (with_reducible exact rv_p40) | (with_reducible exact rv_p20) | (with_reducible exact rv_p6) | (with_reducible exact rv_p7) | (with_reducible exact rv_p12) | (with_reducible exact rv_p25) | (with_reducible exact rv_p30) | (with_reducible exact rv_p39) | (with_reducible exact rv_p60)
  | ((with_reducible apply rv_ixxL); first | assumption | exact at_getD (by omega) (by omega) | exact at_nat rfl)
  | ((with_reducible apply rv_ixxT); first | assumption | exact at_getD (by omega) (by omega) | exact at_nat rfl)
  | ((with_reducible apply rv_ixxC); first | assumption)
  | (with_reducible exact ru_neg))
local macro_rules | `(tactic| walk_at "isi") => `(tactic| first | (with_reducible exact isi_non_int) | (with_reducible exact isi_non_bool) | (with_reducible exact isi_non_str) | (with_reducible exact isi_non_tuple) | (with_reducible exact isi_non_list) | (with_reducible exact isi_bl_int) | (with_reducible exact isi_bl_bool) | (with_reducible exact isi_bl_str) | (with_reducible exact isi_bl_tuple) | (with_reducible exact isi_bl_list) | (with_reducible exact isi_int_int) | (with_reducible exact isi_int_bool) | (with_reducible exact isi_int_str) | (with_reducible exact isi_int_tuple) | (with_reducible exact isi_int_list) | (with_reducible exact isi_str_int) | (with_reducible exact isi_str_bool) | (with_reducible exact isi_str_str) | (with_reducible exact isi_str_tuple) | (with_reducible exact isi_str_list) | (with_reducible exact isi_tup_int) | (with_reducible exact isi_tup_bool) | (with_reducible exact isi_tup_str) | (with_reducible exact isi_tup_tuple) | (with_reducible exact isi_tup_list) | (with_reducible exact isi_lst_int) | (with_reducible exact isi_lst_bool) | (with_reducible exact isi_lst_str) | (with_reducible exact isi_lst_tuple) | (with_reducible exact isi_lst_list))
local macro_rules | `(tactic| walk_at "rc") => `(tactic| first
  | walk_at "isi"
  | (with_reducible exact rc_len) | (with_reducible exact rc_lent) | (with_reducible exact rc_lenc) | (with_reducible exact rc_toint) | (with_reducible exact rc_absv) | (with_reducible exact rc_gcd)
  | ((with_reducible apply rc_lcm); assumption)
  | ((with_reducible apply rc_isi); (focus rfl); assumption)
  | (with_reducible exact rco_list) | (with_reducible exact rco_listT))
local macro_rules | `(tactic| walk_at "ev") => `(tactic| first
  | (with_reducible exact ev_int) | (with_reducible exact ev_bl) | (with_reducible exact ev_non) | (with_reducible exact ev_str) | (with_reducible exact ev_ty)
  | ((with_reducible apply ev_var); rfl)
  | ((with_reducible apply ev_lenOw); rfl)
  | ((with_reducible apply ev_op) <;> first | walk_at "ev" | walk_at "rv")
  | ((with_reducible apply ev_un) <;> first | walk_at "ev" | walk_at "rv")
  | ((with_reducible apply ev_cb) <;> first | walk_at "ev" | walk_at "rc")
  | ((with_reducible apply ev_call) <;> first | walk_at "ev" | walk_at "pr")
  | ((with_reducible apply ev_tup) <;> first | walk_at "ev" | (simp; done))
  | (with_reducible exact ea_nil)
  | ((with_reducible apply ea_cons) <;> walk_at "ev")
  | ((with_reducible apply et_test); walk_at "ev")
  | ((with_reducible apply et_B); walk_at "ev")
  | ((with_reducible apply et_not); walk_at "ev")
  | ((with_reducible apply et_or); (walk_at "ev"); intro _; walk_at "ev")
  | ((with_reducible apply et_and); (walk_at "ev"); intro _; walk_at "ev")
  | ((with_reducible apply ev_orV); (walk_at "ev"); intro _; walk_at "ev")
  | ((with_reducible apply ev_andV); (walk_at "ev"); intro _; walk_at "ev")
  | ((with_reducible apply ev_notV); walk_at "ev")
  | (with_reducible exact et_yes)
  | ((with_reducible apply evo_lst) <;> first | walk_at "ev" | (simp; done))
  | ((with_reducible apply ev_opO) <;> first | walk_at "ev" | ((with_reducible apply rvo_add); simp; omega))
  | ((with_reducible apply ev_cbO) <;> first | walk_at "ev" | walk_at "rc")
  | ((with_reducible apply ev_callO) <;> first | walk_at "ev" | walk_at "pr")
  | ((with_reducible apply ec_call) <;> first | walk_at "ev" | walk_at "pr")
  | ((with_reducible apply ec_tup) <;> first | walk_at "ev" | (simp; done))
  | ((with_reducible apply ec_lst) <;> first | walk_at "ev" | (simp; done))
  | (with_reducible exact eca_nil)
  | ((with_reducible apply eca_cons) <;> walk_at "ev")
  | ((with_reducible apply ec_sc); (walk_at "ev"); rfl)
  | ((with_reducible apply ec_ow); (walk_at "ev"); first | assumption | (intro d hd; simp at hd; done))
  | ((with_reducible apply ec_fz); walk_at "ev")
  | ((with_reducible apply ev_fz); walk_at "ev"))

local macro_rules | `(tactic| walk_at "im") => `(tactic| ((with_reducible apply wq_asg); walk_at "ev"; (try dsimp only [List.set, Int.reduceToNat])))
local macro_rules | `(tactic| walk_at "ow") => `(tactic| ((with_reducible apply wq_asgO); walk_at "ev"; (focus (first | decide | (simp; done))); (try dsimp only [List.set, Int.reduceToNat])))
local macro_rules | `(tactic| walk_at "cl") => `(tactic| ((with_reducible apply wq_asgC); walk_at "ev"; (focus (first | decide | (simp; done))); (try dsimp only [List.set, Int.reduceToNat])))
local macro_rules | `(tactic| walk_at "if") => `(tactic| ((first | (with_reducible apply wq_when) | (with_reducible apply wq_if) | (with_reducible apply ws_if)); walk_at "ev"; (try dsimp only [Int.reduceToNat])))
local macro_rules | `(tactic| walk_at "ret") => `(tactic| ((with_reducible apply ws_ret); walk_at "ev"))
local macro_rules | `(tactic| walk_at "go") => `(tactic| (try dsimp only [cxOf, L2.Cx.nox, L2.Cx.wish, L2.Cx.blk]))
local macro_rules | `(tactic| walk_at "ints") => `(tactic| (refine ev_fz (evo_lst ?_ (by decide)); repeat (first | exact ea_nil | refine ea_cons ev_int ?_)))

/-! ### what a person believes -/
def totC (ws : List Int) (c : List Nat) : Int := (c.map fun w => ws.getD w 0).sum
def heldC (ws : List Int) (lot c : List Nat) : Int := ((c.filter fun w => decide (w ∈ lot)).map fun w => ws.getD w 0).sum
def believeC (ws : List Int) (lot : List Nat) (ch : Num) (c : List Nat) : Bool := decide (ch.1 * totC ws c ≤ heldC ws lot c * ch.2)
def believesN (lab : List Nat) (ws : List Int) (lot : List Nat) (ch : Num) : List Nat := (List.range lab.length).filter fun w => believeC ws lot ch (cellN lab lab.length (lab.getD w 0))
theorem sum_bd (B : Int) : ∀ l : List Int, (∀ x ∈ l, 0 ≤ x ∧ x ≤ B) → 0 ≤ l.sum ∧ l.sum ≤ l.length * B
  | [], _ => ⟨Int.le_refl _, by simp⟩
  | x :: l, h => by
    obtain ⟨a, b⟩ := sum_bd B l fun y hy => h y (List.mem_cons_of_mem _ hy)
    obtain ⟨c, d⟩ := h x List.mem_cons_self
    rw [List.sum_cons, List.length_cons]
    have : ((l.length + 1 : Nat) : Int) * B = l.length * B + B := by rw [Int.natCast_add, Int.add_mul]; simp
    omega
theorem filter_or_perm {α : Type} {p1 p2 p : α → Bool} (hp : ∀ x, p x = (p1 x || p2 x)) (hd : ∀ x, p1 x = true → p2 x = false) : ∀ l : List α, List.Perm (l.filter p) (l.filter p1 ++ l.filter p2)
  | [] => List.Perm.refl _
  | x :: l => by
    have ih := filter_or_perm hp hd l
    rw [List.filter_cons, List.filter_cons, List.filter_cons, hp x]
    cases h1 : p1 x with
    | true =>
      rw [hd x h1]
      exact ih.cons x
    | false =>
      cases h2 : p2 x with
      | true => exact (ih.cons x).trans List.perm_middle.symm
      | false => exact ih
/-- the union of some cells -/
theorem union_perm (lab : List Nat) (Q : Nat → Bool) : ∀ M : Nat, List.Perm (((List.range M).map fun c => if Q c then cellN lab lab.length c else []).flatten) ((List.range lab.length).filter fun w => decide (lab.getD w 0 < M) && Q (lab.getD w 0))
  | 0 => by simp
  | M + 1 => by
    have ih := union_perm lab Q M
    rw [List.range_succ, List.map_append, List.flatten_append]
    refine (ih.append_right _).trans ?_
    refine List.Perm.symm (List.Perm.trans (filter_or_perm (p1 := fun w => decide (lab.getD w 0 < M) && Q (lab.getD w 0)) (p2 := fun w => decide (lab.getD w 0 = M) && Q M) (fun w => ?_) (fun w hw => ?_) _) ?_)
    · by_cases h : lab.getD w 0 = M
      · rw [h]
        simp
      · by_cases h2 : lab.getD w 0 < M
        · rw [decide_eq_true h2, decide_eq_true (show lab.getD w 0 < M + 1 by omega), decide_eq_false h]
          simp
        · rw [decide_eq_false h2, decide_eq_false (show ¬ lab.getD w 0 < M + 1 by omega), decide_eq_false h]
          simp
    · have h2 : lab.getD w 0 < M := by
        simp only [Bool.and_eq_true, decide_eq_true_eq] at hw
        exact hw.1
      rw [decide_eq_false (show ¬ lab.getD w 0 = M by omega)] <;> rfl
    · refine List.Perm.append_left _ ?_
      cases hq : Q M with
      | true =>
        simp only [Bool.and_true, List.map_cons, List.map_nil, hq, if_true, List.flatten_cons, List.flatten_nil, List.append_nil]
        exact List.Perm.refl _
      | false =>
        simp [hq]
theorem range_filter_sorted (n : Nat) (p : Nat → Bool) : (nats ((List.range n).filter p)).Pairwise (· ≤ ·) := by
  unfold nats
  rw [List.pairwise_map]
  refine List.Pairwise.imp (R := (· < ·)) (fun h => by omega) ?_
  exact List.Pairwise.filter _ List.pairwise_lt_range
section
variable {P : Program} {w : World} {K : PySem.W.Frag} {mg : Str → Option Value} {base : Heap} {C_Book : Addr}
/-- a person of a book: labels, weights -/
structure Per (b : BookM) (q : Nat) (lab : List Nat) (ws : List Int) : Prop where
  qp : q < b.people
  cells : b.cells[q]? = some (gathN lab)
  wts : b.weights[q]? = some ws
  ll : lab.length = b.worlds
  wl : ws.length = b.worlds
  n1 : 1 ≤ b.worlds
  n2 : b.worlds ≤ 12
  lt : ∀ x ∈ lab, x < 12
  wb : ∀ x ∈ ws, 0 ≤ x ∧ x ≤ 10 ^ 40
def ChOk (ch : Num) : Prop := ch.1.natAbs < 2 ^ 400 ∧ 0 < ch.2 ∧ ch.2 < 2 ^ 400
def P_believes (C : Addr) : PrD := fun ds R _ => ∃ (b : BookM) (q : Nat) (lab : List Nat) (ws : List Int) (lot : List Nat) (ch : Num), ds = [bookD C b, .int (q : Int), natsD lot, numD ch] ∧ Per b q lab ws ∧ Lot b.worlds lot ∧ ChOk ch ∧ R (.cl (natsD (believesN lab ws lot ch)))
theorem asc_len {n : Nat} {l : List Nat} (h : Lot n l) : l.length ≤ n := by
  have h1 : l.Sublist (List.range n) := by
    have : ∀ (n : Nat) (l : List Nat), (∀ x ∈ l, x < n) → l.Pairwise (· < ·) → l = (List.range n).filter fun x => decide (x ∈ l) := by
      intro n l h1 h2
      refine List.Perm.eq_of_pairwise (fun a b _ _ x y => absurd x (by omega)) h2 (List.Pairwise.filter _ List.pairwise_lt_range) ?_
      refine (List.perm_ext_iff_of_nodup (h2.imp fun h => by omega) (List.nodup_range.filter _)).mpr fun a => ?_
      rw [List.mem_filter, List.mem_range]
      simp only [decide_eq_true_eq]
      exact ⟨fun h => ⟨h1 a h, h⟩, fun h => h.2⟩
    rw [this n l h.lt h.asc]
    exact List.filter_sublist
  have := h1.length_le
  rwa [List.length_range] at this
theorem ok_believes (F : Df K mg "believes" s_believes ["book", "person", "lot", "chance"]) (gm : Gm K mg C_Book) (G_check_person : FnG P w K mg base CX0 1 "check_person" ["book", "person"] (spD K (P_check_person C_Book))) (G_check_lot : FnG P w K mg base CX0 2 "check_lot" ["book", "lot"] (spD K (P_check_lot C_Book)))
    (G_Book_cells : FnM P w K mg base CX0 2 C_Book "cells" ["self", "person"] (spD K (P_Book_cells C_Book))) (G_Book_weight : FnM P w K mg base CX0 2 C_Book "weight" ["self", "person", "world"] (spD K (P_Book_weight C_Book))) : FnG P w K mg base CX0 3 "believes" ["book", "person", "lot", "chance"] (spD K (P_believes C_Book)) := by
  refine F.ok (k := 2) sc_believes (fun ds R Z ⟨a, b, c, d, e, f, g, _⟩ => by rw [g] <;> rfl) (fun f cdv A outer s H E hr => ?_)
  refine ⟨_,
    (pss_cons (ps_expr (pe_g G_check_person hr.le pass0 (pa_cons (pv 0) (pa_cons (pv 1) pa_nil))))
    (pss_cons (ps_expr (pe_g G_check_lot hr.le pass0 (pa_cons (pv 0) (pa_cons (pv 2) pa_nil))))
    (pss_cons (sv 4 sc_believes.nd (pe_lst pa_nil))
    (pss_cons (ps_for PassesOwn.never rfl (pl K (pe_m G_Book_cells gm.Book_c hr.le pass0 (pv 0) (pa_cons (pv 1) pa_nil))) (gn 5 sc_believes.nd) (pss_cons (sv 6 sc_believes.nd (cb (kSum K rfl) gm.sum (pa_cons (pe_lc (own := [("world", 8)]) rfl sc_believes.nd (pl K (pv 5)) (blkOk_by (N := N_believes) (sc := defScope s_believes) (by decide +kernel)) (fun _ _ _ _ _ => (gn 8 sc_believes.nd)) (fun _ _ _ _ _ => pts_nil) (fun _ _ _ _ _ => (pe_m G_Book_weight gm.Book_c hr.le pass0 (pv 0) (pa_cons (pv 1) (pa_cons (pv 8) pa_nil))))) pa_nil))) (pss_cons (sv 7 sc_believes.nd (cb (kSum K rfl) gm.sum (pa_cons (pe_lc (own := [("world", 8)]) rfl sc_believes.nd (pl K (pv 5)) (blkOk_by (N := N_believes) (sc := defScope s_believes) (by decide +kernel)) (fun _ _ _ _ _ => (gn 8 sc_believes.nd)) (fun _ _ _ _ _ => (pts_one (pt_cmpR (kIn K) (pv 8) (pv 2) (by rfl)))) (fun _ _ _ _ _ => (pe_m G_Book_weight gm.Book_c hr.le pass0 (pv 0) (pa_cons (pv 1) (pa_cons (pv 8) pa_nil))))) pa_nil))) (pss_one (ps_if (pt_cmpR opGe (pe_op opMul (pv 7) (ix K (pv 3) pe_int)) (pe_op opMul (ix K (pv 3) pe_int) (pv 6)) (nomark _)) (pss_one (ps_expr (ml_extend K (pv 4) (pa_cons (pv 5) pa_nil)))) pss_nil)))))
    (pss_one (ps_ret (cb (kSorted K) gm.sorted (pa_cons (pv 4) pa_nil)))))))), fun ds R Z p => ?_⟩
  obtain ⟨b, q, lab, ws, lot, ch, rfl, g, hlot, hch, p⟩ := p
  refine ws_to (ρ' := [.im (bookD C_Book b), .im (.int (q : Int)), .im (natsD lot), .im (numD ch), .no, .no, .no, .no, .no]) rfl ?_
  walk_at "go"
  have n2 := g.n2
  have ll := g.ll
  have wl := g.wl
  have gq := g.qp
  refine wq_drop (ev_call (ea_cons (ev_var rfl) (ea_cons (ev_var rfl) ea_nil)) (pr_check_person (by omega) (by omega))) ?_
  refine wq_drop (ev_call (ea_cons (ev_var rfl) (ea_cons (ev_var rfl) ea_nil)) (pr_check_lot hlot (by have := asc_len hlot; omega))) ?_
  refine wq_asgO (evo_lst ea_nil (by simp)) (by simp) ?_
  dsimp only [List.set]
  have hmx : mxN lab < 12 := by
    have hne : lab ≠ [] := fun e => by
      rw [e] at ll
      have := g.n1
      have : (0 : Nat) = b.worlds := ll
      omega
    exact g.lt _ (mx_mem hne)
  have hgl : (gathN lab).length ≤ 1000 := by rw [gathN, List.length_map, List.length_range]; omega
  have hcell : ∀ c ∈ gathN lab, c.length ≤ 12 ∧ ∀ v ∈ c, v < b.worlds := fun c hc => by
    obtain ⟨k, _, rfl⟩ := List.mem_map.mp hc
    refine ⟨by have := cellN_len lab lab.length k; omega, fun v hv => ?_⟩
    have := List.mem_range.mp (List.mem_filter.mp hv).1
    omega
  have e2 : natsD lot = intsD (nats lot) := natsD_eq lot
  refine wq_for (src_list (l := (gathN lab).map natsD) (ec_fz (ec_meth (ns := bookNs) (l := bookL b) (ev_var rfl) (by decide) (ea_cons (ev_var rfl) ea_nil) (pr_Book_cells gq g.cells hgl))))
    (fun i ρ' => ∃ s5 s6 s7 s8, ρ' = [.im (bookD C_Book b), .im (.int (q : Int)), .im (natsD lot), .im (numD ch), .ow ((nats (((gathN lab).take i).map fun c => if believeC ws lot ch c then c else []).flatten).map .int), s5, s6, s7, s8] ∧ isOw (some s8) = false) ⟨_, _, _, _, rfl, rfl⟩ ?_ ?_
  · rintro i d ρ' hd ⟨s5, s6, s7, s8, rfl, h8⟩
    obtain ⟨c, hc, rfl⟩ := map_get hd
    have hcm := hcell c (List.mem_of_getElem? hc)
    have hil := (List.getElem?_eq_some_iff.mp hc).1
    refine ⟨_, gd_name, ?_⟩
    dsimp only [setD, List.set]
    have hwt : ∀ v, v < b.worlds → 0 ≤ ws.getD v 0 ∧ ws.getD v 0 ≤ 10 ^ 40 := fun v hv => by
      rw [List.getD_eq_getElem?_getD, List.getElem?_eq_getElem (by omega)]
      exact g.wb _ (List.getElem_mem _)
    have hwm : ∀ ρ : Rho, ∀ v, v < b.worlds → ρ[0]? = some (.im (bookD C_Book b)) → ρ[1]? = some (.im (.int (q : Int))) → ρ[8]? = some (.im (.int (v : Int))) → EvD K (tMeth C_Book "weight" (spD K (P_Book_weight C_Book)) [] E0 (tVar 0) (tCons (tVar 1) (tCons (tVar 8) tNil))) ρ (.int (ws.getD v 0)) := fun ρ v hv e0 e1 e8 =>
      ev_meth (ns := bookNs) (l := bookL b) (ev_var e0) (by decide) (ea_cons (ev_var e1) (ea_cons (ev_var e8) ea_nil)) (pr_Book_weight gq hv g.wts (by omega))
    have hlotD : ∀ ρ : Rho, ρ[2]? = some (.im (natsD lot)) → EvD K (tVar 2) ρ (.lst ((nats lot).map .int)) := fun ρ e => ev_var (by rw [e, e2] <;> rfl)
    refine wq_asg (d := .int (totC ws c)) (ev_cb (ea_cons ((ev_fz (evo_map (xs := c) (enc := fun n : Nat => .int (n : Int)) (fun v => D.int (ws.getD v 0)) (src_list (ev_var rfl)) ?_ (fun v hv => ⟨_, gd_name, by simp, ?_⟩) (by omega))).is ?_) ea_nil) (rc_sum (ns := c.map fun v => ws.getD v 0))) ?_
    · intro j hj
      have hj : j = 8 := by simpa using hj
      rw [hj]
      exact h8
    · dsimp only [setD, wipeD, List.set, List.map]
      exact hwm _ v (hcm.2 v hv) rfl rfl rfl
    · rw [List.map_map]
      rfl
    dsimp only [List.set]
    refine wq_asg (d := .int (heldC ws lot c)) (ev_cb (ea_cons ((ev_fz (evo_lc (xs := c) (enc := fun n : Nat => .int (n : Int)) (fun v => decide (v ∈ lot)) (fun v => D.int (ws.getD v 0)) (src_list (ev_var rfl)) ?_ (fun v hv => ⟨_, gd_name, by simp, ?_, fun _ => ?_⟩) (by omega))).is ?_) ea_nil) (rc_sum (ns := (c.filter fun w => decide (w ∈ lot)).map fun v => ws.getD v 0))) ?_
    · intro j hj
      have hj : j = 8 := by simpa using hj
      rw [hj]
      exact h8
    · dsimp only [setD, wipeD, List.set, List.map]
      refine (et_test (ev_op (ev_var rfl) (hlotD _ rfl) rv_in)).is ?_
      exact decide_eq_decide.mpr mem_nats
    · dsimp only [setD, wipeD, List.set, List.map]
      exact hwm _ v (hcm.2 v hv) rfl rfl rfl
    · rw [List.map_map]
      rfl
    dsimp only [List.set]
    have hB : (10 : Int) ^ 40 = 10000000000000000000000000000000000000000 := by decide
    have h150 : (2 : Nat) ^ 150 = 1427247692705959881058285969449495136382746624 := by decide
    have bt : (totC ws c).natAbs < 2 ^ 150 := by
      have := sum_bd (10 ^ 40) (c.map fun v => ws.getD v 0) fun x hx => by
        obtain ⟨v, hv, rfl⟩ := List.mem_map.mp hx
        exact hwt v (hcm.2 v hv)
      rw [List.length_map, hB] at this
      rw [h150]
      unfold totC
      have h12 : ((c.length : Nat) : Int) ≤ 12 := by omega
      omega
    have bh : (heldC ws lot c).natAbs < 2 ^ 150 := by
      have := sum_bd (10 ^ 40) ((c.filter fun w => decide (w ∈ lot)).map fun v => ws.getD v 0) fun x hx => by
        obtain ⟨v, hv, rfl⟩ := List.mem_map.mp hx
        exact hwt v (hcm.2 v (List.mem_filter.mp hv).1)
      rw [List.length_map, hB] at this
      rw [h150]
      unfold heldC
      have h12 := List.length_filter_le (fun w => decide (w ∈ lot)) c
      have h13 : (((c.filter fun w => decide (w ∈ lot)).length : Nat) : Int) ≤ 12 := by omega
      omega
    have m1 : CMulW (heldC ws lot c) ch.2 := wide_mul (a := 150) (b := 400) bh (abs_lt (by have := hch.2.1; omega) hch.2.2) (by decide) (by decide) (by decide)
    have m2 : CMulW ch.1 (totC ws c) := wide_mul (a := 400) (b := 150) hch.1 bt (by decide) (by decide) (by decide)
    have hfl : ∀ k, ((((gathN lab).take k).map fun c => if believeC ws lot ch c then c else []).flatten).length ≤ 12 * k := fun k => by
      induction k with
      | zero => simp
      | succ k ih =>
        by_cases hk : k < (gathN lab).length
        · rw [List.take_add_one, List.getElem?_eq_getElem hk, List.map_append, List.flatten_append, List.length_append]
          have := (hcell _ (List.getElem_mem hk)).1
          have h2 : (List.map (fun c => if believeC ws lot ch c then c else []) (some ((gathN lab)[k])).toList).flatten.length ≤ 12 := by
            simp only [Option.toList_some, List.map_cons, List.map_nil, List.flatten_cons, List.flatten_nil, List.append_nil]
            split
            · exact this
            · simp
          omega
        · rw [List.take_of_length_le (by omega)] at ih ⊢
          omega
    have h1000 := hfl i
    have etk : (((gathN lab).take (i + 1)).map fun c => if believeC ws lot ch c then c else []).flatten = (((gathN lab).take i).map fun c => if believeC ws lot ch c then c else []).flatten ++ (if believeC ws lot ch c then c else []) := by
      rw [List.take_add_one, hc, List.map_append, List.flatten_append]
      simp
    refine ws_if (et_test (ev_op (ev_op (ev_var rfl) (ev_op (ev_var rfl) ev_int (rv_ixxT (at_nat (j := 1) rfl))) (rv_mulW m1)) (ev_op (ev_op (ev_var rfl) ev_int (rv_ixxT (at_nat (j := 0) rfl))) (ev_var rfl) (rv_mulW m2)) rv_ge)) (fun hb => ?_) (fun hb => ?_)
    · have hb' : believeC ws lot ch c = true := hb
      refine ws_ext (i := 4) (l' := c.map fun n : Nat => .int (n : Int)) rfl (ev_var rfl) ?_ ?_
      · unfold nats
        rw [List.length_map, List.length_map, List.length_map]
        have : i < 12 := by
          have : (gathN lab).length ≤ 12 := by rw [gathN, List.length_map, List.length_range]; omega
          omega
        omega
      · dsimp only [List.set]
        refine ⟨.im (natsD c), .im (.int (totC ws c)), .im (.int (heldC ws lot c)), s8, ?_, h8⟩
        rw [etk, if_pos hb']
        unfold nats
        rw [List.map_append, List.map_append]
        have : (c.map fun n : Nat => D.int (n : Int)) = (c.map fun n : Nat => (n : Int)).map .int := by rw [List.map_map] <;> rfl
        rw [this]
    · have hb' : believeC ws lot ch c = false := hb
      refine ws_next ⟨.im (natsD c), .im (.int (totC ws c)), .im (.int (heldC ws lot c)), s8, ?_, h8⟩
      rw [etk, if_neg (by rw [hb']; decide), List.append_nil]
  · rintro ρ' ⟨s5, s6, s7, s8, rfl, h8⟩
    rw [List.length_map, List.take_length]
    have hp := union_perm lab (fun c => believeC ws lot ch (cellN lab lab.length c)) (mxN lab + 1)
    have ef : ((gathN lab).map fun c => if believeC ws lot ch c then c else []) = (List.range (mxN lab + 1)).map fun c => if believeC ws lot ch (cellN lab lab.length c) then cellN lab lab.length c else [] := by
      rw [gathN, List.map_map]
      rfl
    have ef2 : ((List.range lab.length).filter fun w => decide (lab.getD w 0 < mxN lab + 1) && believeC ws lot ch (cellN lab lab.length (lab.getD w 0))) = believesN lab ws lot ch := by
      unfold believesN
      refine List.filter_congr fun w hw => ?_
      have hw := List.mem_range.mp hw
      have hg : lab.getD w 0 = lab[w] := by rw [List.getD_eq_getElem?_getD, List.getElem?_eq_getElem hw] <;> rfl
      have := mx_le (lab := lab) (x := lab[w]) (List.getElem_mem hw)
      rw [decide_eq_true (show lab.getD w 0 < mxN lab + 1 by omega)]
      rfl
    rw [← ef, ef2] at hp
    refine ws_fz (i := 4) rfl ?_
    dsimp only [List.set]
    refine ws_retC (d := natsD (believesN lab ws lot ch)) ((ec_ow (ev_cbO (ea_cons (ev_var rfl) ea_nil) (rco_sorted (ns' := nats (believesN lab ws lot ch)) (hp.symm.map _) (range_filter_sorted _ _))) (scal_ints _)).is (natsD_eq _).symm) p
theorem pr_believes {C : Addr} {b : BookM} {q : Nat} {lab : List Nat} {ws : List Int} {lot : List Nat} {ch : Num} (h : Per b q lab ws) (h1 : Lot b.worlds lot) (h2 : ChOk ch) : P_believes C [bookD C b, .int (q : Int), natsD lot, numD ch] (fun s => s = .cl (natsD (believesN lab ws lot ch))) (fun _ => False) := ⟨b, q, lab, ws, lot, ch, rfl, h, h1, h2, rfl⟩
end
end FS
set_option Elab.async false
set_option linter.all false
set_option maxRecDepth 100000
set_option maxHeartbeats 4000000
set_option exponentiation.threshold 20000
namespace FS
open PySem PySem.Spec PyProof.Rows L2

local macro_rules | `(tactic| walk_at "side") => `(tactic| first | assumption | omega | decide)
local macro_rules | `(tactic| walk_at "hv") => `(tactic| (intro i hi; simp at hi; first | (subst hi; rfl) | (rcases hi with rfl | rfl <;> rfl) | (rcases hi with rfl | rfl | rfl <;> rfl)))
local macro_rules | `(tactic| walk_at "pr") => `(tactic| fail "no promise")
local macro_rules | `(tactic| walk_at "rv") => `(tactic| first
  | (with_reducible exact rv_add) | (with_reducible exact rv_sub) | (with_reducible exact rv_lt) | (with_reducible exact rv_le) | (with_reducible exact rv_gt) | (with_reducible exact rv_ge) | (with_reducible exact rv_eq) | (with_reducible exact rv_ne)
  | (with_reducible exact rv_is) | (with_reducible exact rv_isnot)
  | ((with_reducible apply rv_div); first | assumption | exact cdiv_small (by omega) (by omega))
  | ((with_reducible apply rv_mod); first | assumption | omega)
  | ((with_reducible apply rv_mul); first | assumption | exact cmul_left (by omega) | exact cmul_right (by omega))
  | ((with_reducible apply rv_mulW); assumption)
  | (with_reducible exact rv_p8) | (with_reducible exact rv_p18) | (with_reducible exact rv_p40) | (with_reducible exact rv_p20) | (with_reducible exact rv_p6) | (with_reducible exact rv_p7) | (with_reducible exact rv_p12) | (with_reducible exact rv_p25) | (with_reducible exact rv_p30) | (with_reducible exact rv_p39) | (with_reducible exact rv_p60)
  | ((with_reducible apply rv_ixxL); first | assumption | exact at_getD (by omega) (by omega) | exact at_nat rfl)
  | ((with_reducible apply rv_ixxT); first | assumption | exact at_getD (by omega) (by omega) | exact at_nat rfl)
  | ((with_reducible apply rv_ixxC); first | assumption)
  | (with_reducible exact ru_neg))
local macro_rules | `(tactic| walk_at "isi") => `(tactic| first | (with_reducible exact isi_non_int) | (with_reducible exact isi_non_bool) | (with_reducible exact isi_non_str) | (with_reducible exact isi_non_tuple) | (with_reducible exact isi_non_list) | (with_reducible exact isi_bl_int) | (with_reducible exact isi_bl_bool) | (with_reducible exact isi_bl_str) | (with_reducible exact isi_bl_tuple) | (with_reducible exact isi_bl_list) | (with_reducible exact isi_int_int) | (with_reducible exact isi_int_bool) | (with_reducible exact isi_int_str) | (with_reducible exact isi_int_tuple) | (with_reducible exact isi_int_list) | (with_reducible exact isi_str_int) | (with_reducible exact isi_str_bool) | (with_reducible exact isi_str_str) | (with_reducible exact isi_str_tuple) | (with_reducible exact isi_str_list) | (with_reducible exact isi_tup_int) | (with_reducible exact isi_tup_bool) | (with_reducible exact isi_tup_str) | (with_reducible exact isi_tup_tuple) | (with_reducible exact isi_tup_list) | (with_reducible exact isi_lst_int) | (with_reducible exact isi_lst_bool) | (with_reducible exact isi_lst_str) | (with_reducible exact isi_lst_tuple) | (with_reducible exact isi_lst_list))
local macro_rules | `(tactic| walk_at "rc") => `(tactic| first
  | walk_at "isi"
  | (with_reducible exact rc_len) | (with_reducible exact rc_lent) | (with_reducible exact rc_lenc) | (with_reducible exact rc_toint) | (with_reducible exact rc_absv) | (with_reducible exact rc_gcd)
  | ((with_reducible apply rc_lcm); assumption)
  | ((with_reducible apply rc_isi); (focus rfl); assumption)
  | (with_reducible exact rco_list) | (with_reducible exact rco_listT))
local macro_rules | `(tactic| walk_at "ev") => `(tactic| first
  | (with_reducible exact ev_int) | (with_reducible exact ev_bl) | (with_reducible exact ev_non) | (with_reducible exact ev_str) | (with_reducible exact ev_ty)
  | ((with_reducible apply ev_var); rfl)
  | ((with_reducible apply ev_lenOw); rfl)
  | ((with_reducible apply ev_op) <;> first | walk_at "ev" | walk_at "rv")
  | ((with_reducible apply ev_un) <;> first | walk_at "ev" | walk_at "rv")
  | ((with_reducible apply ev_cb) <;> first | walk_at "ev" | walk_at "rc")
  | ((with_reducible apply ev_call) <;> first | walk_at "ev" | walk_at "pr")
  | ((with_reducible apply ev_tup) <;> first | walk_at "ev" | (simp; done))
  | (with_reducible exact ea_nil)
  | ((with_reducible apply ea_cons) <;> walk_at "ev")
  | ((with_reducible apply et_test); walk_at "ev")
  | ((with_reducible apply et_B); walk_at "ev")
  | ((with_reducible apply et_not); walk_at "ev")
  | ((with_reducible apply et_or); (walk_at "ev"); intro _; walk_at "ev")
  | ((with_reducible apply et_and); (walk_at "ev"); intro _; walk_at "ev")
  | ((with_reducible apply ev_orV); (walk_at "ev"); intro _; walk_at "ev")
  | ((with_reducible apply ev_andV); (walk_at "ev"); intro _; walk_at "ev")
  | ((with_reducible apply ev_notV); walk_at "ev")
  | (with_reducible exact et_yes)
  | ((with_reducible apply evo_lst) <;> first | walk_at "ev" | (simp; done))
  | ((with_reducible apply ev_opO) <;> first | walk_at "ev" | ((with_reducible apply rvo_add); simp; omega))
  | ((with_reducible apply ev_cbO) <;> first | walk_at "ev" | walk_at "rc")
  | ((with_reducible apply ev_callO) <;> first | walk_at "ev" | walk_at "pr")
  | ((with_reducible apply ec_call) <;> first | walk_at "ev" | walk_at "pr")
  | ((with_reducible apply ec_tup) <;> first | walk_at "ev" | (simp; done))
  | ((with_reducible apply ec_lst) <;> first | walk_at "ev" | (simp; done))
  | (with_reducible exact eca_nil)
  | ((with_reducible apply eca_cons) <;> walk_at "ev")
  | ((with_reducible apply ec_sc); (walk_at "ev"); rfl)
  | ((with_reducible apply ec_ow); (walk_at "ev"); first | assumption | (intro d hd; simp at hd; done))
  | ((with_reducible apply ec_fz); walk_at "ev")
  | ((with_reducible apply ev_fz); walk_at "ev"))

local macro_rules | `(tactic| walk_at "im") => `(tactic| ((with_reducible apply wq_asg); walk_at "ev"; (try dsimp only [List.set, Int.reduceToNat])))
local macro_rules | `(tactic| walk_at "ow") => `(tactic| ((with_reducible apply wq_asgO); walk_at "ev"; (focus (first | decide | (simp; done))); (try dsimp only [List.set, Int.reduceToNat])))
local macro_rules | `(tactic| walk_at "cl") => `(tactic| ((with_reducible apply wq_asgC); walk_at "ev"; (focus (first | decide | (simp; done))); (try dsimp only [List.set, Int.reduceToNat])))
local macro_rules | `(tactic| walk_at "if") => `(tactic| ((first | (with_reducible apply wq_when) | (with_reducible apply wq_if) | (with_reducible apply ws_if)); walk_at "ev"; (try dsimp only [Int.reduceToNat])))
local macro_rules | `(tactic| walk_at "ret") => `(tactic| ((with_reducible apply ws_ret); walk_at "ev"))
local macro_rules | `(tactic| walk_at "go") => `(tactic| (try dsimp only [cxOf, L2.Cx.nox, L2.Cx.wish, L2.Cx.blk]))
local macro_rules | `(tactic| walk_at "ints") => `(tactic| (refine ev_fz (evo_lst ?_ (by decide)); repeat (first | exact ea_nil | refine ea_cons ev_int ?_)))

/-! ### what is commonly believed: turns until nothing falls -/
def stepF (B : Nat → List Nat → List Nat) (grp t : List Nat) : List Nat := grp.foldl (fun t q => t.filter fun w => decide (w ∈ B q t)) t
def firstF (B : Nat → List Nat → List Nat) (grp lot t : List Nat) : List Nat := grp.foldl (fun t q => t.filter fun w => decide (w ∈ B q lot)) t
def loopF (B : Nat → List Nat → List Nat) (grp : List Nat) : Nat → List Nat → List Nat
  | 0, t => t
  | k + 1, t => if (stepF B grp t).length < t.length then loopF B grp k (stepF B grp t) else stepF B grp t
def commonN (B : Nat → List Nat → List Nat) (n : Nat) (grp lot : List Nat) : List Nat := loopF B grp (n + 1) (firstF B grp lot (List.range n))
theorem step_sub (B : Nat → List Nat → List Nat) : ∀ (grp t : List Nat), (stepF B grp t).Sublist t
  | [], t => List.Sublist.refl _
  | q :: grp, t => (step_sub B grp _).trans List.filter_sublist
theorem first_sub (B : Nat → List Nat → List Nat) (lot : List Nat) : ∀ (grp t : List Nat), (firstF B grp lot t).Sublist t
  | [], t => List.Sublist.refl _
  | q :: grp, t => (first_sub B lot grp _).trans List.filter_sublist
theorem lot_sub {n : Nat} {l t : List Nat} (h : Lot n t) (s : l.Sublist t) : Lot n l := ⟨fun x hx => h.lt x (s.subset hx), h.asc.sublist s⟩
theorem lot_range (n : Nat) : Lot n (List.range n) := ⟨fun x hx => List.mem_range.mp hx, List.pairwise_lt_range⟩
section
variable {P : Program} {w : World} {K : PySem.W.Frag} {mg : Str → Option Value} {base : Heap} {C_Book : Addr}
def P_common (C : Addr) : PrD := fun ds R _ => ∃ (b : BookM) (grp lot : List Nat) (ch : Num) (lab : Nat → List Nat) (ws : Nat → List Int), ds = [bookD C b, natsD grp, natsD lot, numD ch] ∧ (∀ q ∈ grp, Per b q (lab q) (ws q)) ∧ Lot b.worlds lot ∧ ChOk ch ∧ 1 ≤ b.worlds ∧ b.worlds ≤ 12 ∧
  R (.ow ((nats (commonN (fun q t => believesN (lab q) (ws q) t ch) b.worlds grp lot)).map .int))
theorem ok_common_belief (F : Df K mg "common_belief" s_common_belief ["book", "group", "lot", "chance"]) (gm : Gm K mg C_Book) (G_check_group : FnG P w K mg base CX0 2 "check_group" ["book", "group"] (spD K (P_check_group C_Book))) (G_check_lot : FnG P w K mg base CX0 2 "check_lot" ["book", "lot"] (spD K (P_check_lot C_Book)))
    (G_believes : FnG P w K mg base CX0 3 "believes" ["book", "person", "lot", "chance"] (spD K (P_believes C_Book))) : FnG P w K mg base CX0 4 "common_belief" ["book", "group", "lot", "chance"] (spD K (P_common C_Book)) := by
  refine F.ok (k := 3) sc_common_belief (fun ds R Z ⟨a, b, c, d, e, f, g, _⟩ => by rw [g] <;> rfl) (fun f cdv A outer s H E hr => ?_)
  refine ⟨_,
    (pss_cons (ps_expr (pe_g G_check_group hr.le pass0 (pa_cons (pv 0) (pa_cons (pv 1) pa_nil))))
    (pss_cons (ps_expr (pe_g G_check_lot hr.le pass0 (pa_cons (pv 0) (pa_cons (pv 2) pa_nil))))
    (pss_cons (sv 4 sc_common_belief.nd (ct (cListRngC rfl) gm.list (pa_cons (ct cRng1 gm.range (pa_cons (fl K (pv 0)) pa_nil)) pa_nil)))
    (pss_cons (ps_for PassesOwn.never rfl (pl K (pv 1)) (gn 5 sc_common_belief.nd) (pss_cons (sv 6 sc_common_belief.nd (pe_g G_believes hr.le pass0 (pa_cons (pv 0) (pa_cons (pv 5) (pa_cons (pv 2) (pa_cons (pv 3) pa_nil)))))) (pss_one (ps_setLc (i := 4) (own := [("world", 7)]) rfl sc_common_belief.nd rfl rfl (sw_true rfl rfl rfl (by decide +kernel)) (pl K (pv 4)) (blkOk_by (N := N_common_belief) (sc := defScope s_common_belief) (by decide +kernel)) (fun _ _ _ _ _ => (gn 7 sc_common_belief.nd)) (fun _ _ _ _ _ => (pts_one (pt_cmpR (kIn K) (pv 7) (pv 6) (by rfl)))) (fun _ _ _ _ _ => (pv 7))))))
    (pss_cons (sv 8 sc_common_belief.nd (pe_op (kAdd K) (fl K (pv 0)) pe_int))
    (pss_cons (ps_while PassesOwn.never (pt_cmpR opLt (cb (kLen K) gm.len (pa_cons (pv 4) pa_nil)) (pv 8) (nomark _)) (pss_cons (sv 8 sc_common_belief.nd (cb (kLen K) gm.len (pa_cons (pv 4) pa_nil))) (pss_one (ps_for PassesOwn.never rfl (pl K (pv 1)) (gn 5 sc_common_belief.nd) (pss_cons (sv 9 sc_common_belief.nd (pe_g G_believes hr.le pass0 (pa_cons (pv 0) (pa_cons (pv 5) (pa_cons (pv 4) (pa_cons (pv 3) pa_nil)))))) (pss_one (ps_setLc (i := 4) (own := [("world", 7)]) rfl sc_common_belief.nd rfl rfl (sw_true rfl rfl rfl (by decide +kernel)) (pl K (pv 4)) (blkOk_by (N := N_common_belief) (sc := defScope s_common_belief) (by decide +kernel)) (fun _ _ _ _ _ => (gn 7 sc_common_belief.nd)) (fun _ _ _ _ _ => (pts_one (pt_cmpR (kIn K) (pv 7) (pv 9) (by rfl)))) (fun _ _ _ _ _ => (pv 7)))))))))
    (pss_one (ps_ret (pv 4))))))))), fun ds R Z p => ?_⟩
  obtain ⟨b, grp, lot, ch, lab, ws, rfl, hper, hlot, hch, n1, n2, p⟩ := p
  generalize hB : (fun q t => believesN (lab q) (ws q) t ch) = B at p
  have hBq : ∀ q t, believesN (lab q) (ws q) t ch = B q t := fun q t => by rw [← hB]
  refine ws_to (ρ' := [.im (bookD C_Book b), .im (natsD grp), .im (natsD lot), .im (numD ch), .no, .no, .no, .no, .no, .no]) rfl ?_
  walk_at "go"
  have hll := asc_len hlot
  refine wq_drop (ev_call (ea_cons (ev_var rfl) (ea_cons ((ev_var rfl).is (natsD_eq grp)) ea_nil)) (pr_check_group fun x hx => ?_)) ?_
  · obtain ⟨q, hq, rfl⟩ := List.mem_map.mp hx
    have := (hper q hq).qp
    omega
  refine wq_drop (ev_call (ea_cons (ev_var rfl) (ea_cons (ev_var rfl) ea_nil)) (pr_check_lot hlot (by omega))) ?_
  refine wq_asgO (l := (nats (List.range b.worlds)).map .int) ((evo_rng (n := (b.worlds : Int)) (ea_cons (ev_fld (l := bookL b) (ns := bookNs) (j := 0) (ev_var rfl) (by decide) rfl gm.Book_c gm.Book_worlds) ea_nil) (by omega) (by omega)).is (by rw [Int.toNat_natCast, rng_nats])) (by simp) ?_
  dsimp only [List.set]
  have inner : ∀ (q : Nat) (t bt : List Nat) (ρ : Rho) (tt : TT), ρ[4]? = some (.ow ((nats t).map .int)) → True → True := fun _ _ _ _ _ _ h => h
  -- for person in group: the first sieve
  refine wq_for (src_list (l := grp.map fun n : Nat => .int (n : Int)) (ev_var rfl)) (fun i ρ' => ∃ s5 s6 s7, ρ' = [.im (bookD C_Book b), .im (natsD grp), .im (natsD lot), .im (numD ch), .ow ((nats (firstF B (grp.take i) lot (List.range b.worlds))).map .int), s5, s6, s7, .no, .no] ∧ isOw (some s7) = false) ⟨_, _, _, rfl, rfl⟩ ?_ ?_
  · rintro i d ρ' hd ⟨s5, s6, s7, rfl, h7⟩
    obtain ⟨q, hq, rfl⟩ := map_get hd
    have hp := hper q (List.mem_of_getElem? hq)
    refine ⟨_, gd_name, ?_⟩
    dsimp only [setD, List.set]
    refine wq_asg (d := natsD (B q lot)) (ec_fz (ec_call (ea_cons (ev_var rfl) (ea_cons (ev_var rfl) (ea_cons (ev_var rfl) (ea_cons (ev_var rfl) ea_nil)))) (by rw [← hBq]; exact pr_believes hp hlot hch))) ?_
    dsimp only [List.set]
    have hsub := first_sub B lot (grp.take i) (List.range b.worlds)
    have hl := asc_len (lot_sub (lot_range b.worlds) hsub)
    have ef : firstF B (grp.take (i + 1)) lot (List.range b.worlds) = (firstF B (grp.take i) lot (List.range b.worlds)).filter fun w => decide (w ∈ B q lot) := by
      unfold firstF
      rw [foldl_take hq]
    rw [ef]
    generalize firstF B (grp.take i) lot (List.range b.worlds) = t at hl
    refine ws_asgO ((evo_lcW (xs := t) (enc := fun n : Nat => .int (n : Int)) (fun w => decide (w ∈ B q lot)) (fun w => D.int (w : Int)) ?_ ?_ (fun v hv => ⟨_, gd_name, by simp, ?_, fun _ => ?_⟩) (by omega)).is ?_) (by simp) ⟨_, _, _, rfl, h7⟩
    · refine src_own (i := 4) ?_
      show some (Sl.ow _) = some (Sl.ow _)
      rw [nats, List.map_map]
      rfl
    · intro j hj
      have hj : j = 7 := by simpa using hj
      rw [hj]
      exact h7
    · dsimp only [setD, wipeD, List.set, List.map]
      refine (et_test (ev_op (ev_var rfl) ((ev_var (d := natsD (B q lot)) rfl).is (natsD_eq _)) rv_in)).is ?_
      exact decide_eq_decide.mpr mem_nats
    · dsimp only [setD, wipeD, List.set, List.map]
      exact ev_var rfl
    · unfold nats
      rw [List.map_map]
      rfl
  · rintro ρ' ⟨s5, s6, s7, rfl, h7⟩
    rw [List.length_map, List.take_length]
    have ht0 : Lot b.worlds (firstF B grp lot (List.range b.worlds)) := lot_sub (lot_range b.worlds) (first_sub B lot grp _)
    have hfin : commonN B b.worlds grp lot = loopF B grp (b.worlds + 1) (firstF B grp lot (List.range b.worlds)) := rfl
    rw [hfin] at p
    generalize firstF B grp lot (List.range b.worlds) = t0 at ht0 p
    have hl0 := asc_len ht0
    refine wq_asg (d := .int ((b.worlds + 1 : Nat) : Int)) ((ev_op (ev_fld (l := bookL b) (ns := bookNs) (j := 0) (ev_var rfl) (by decide) rfl gm.Book_c gm.Book_worlds) ev_int rv_add).is (by rw [Int.natCast_add] <;> rfl)) ?_
    dsimp only [List.set]
    refine wq_while (fun m ρ' => ∃ (t : List Nat) (c : Nat) (s5 s6 s7 s9 : Sl), ρ' = [.im (bookD C_Book b), .im (natsD grp), .im (natsD lot), .im (numD ch), .ow ((nats t).map .int), s5, s6, s7, .im (.int (c : Int)), s9] ∧ isOw (some s7) = false ∧ Lot b.worlds t ∧
      ((t.length < c ∧ loopF B grp m t = loopF B grp (b.worlds + 1) t0 ∧ t.length < m) ∨ (¬ t.length < c ∧ t = loopF B grp (b.worlds + 1) t0))) (b.worlds + 1) ⟨t0, b.worlds + 1, s5, s6, s7, .no, rfl, h7, ht0, .inl ⟨by omega, rfl, by omega⟩⟩ ?_
    rintro m ρ' ⟨t, c, s5, s6, s7, s9, rfl, h7, ht, hor⟩
    have hl := asc_len ht
    have elen : (((nats t).map D.int).length : Int) = (t.length : Int) := by rw [nats, List.length_map, List.length_map]
    refine ⟨decide (t.length < c), (et_test (ev_op ((ev_lenOw (i := 4) rfl).is (by rw [elen])) (ev_var rfl) rv_lt)).is ?_, fun hb => ?_, fun hb => ?_⟩
    · exact decide_eq_decide.mpr (by omega)
    · have hb : t.length < c := of_decide_eq_true hb
      rcases hor with ⟨_, hloop, hm⟩ | ⟨hn, _⟩
      · obtain ⟨k, rfl⟩ : ∃ k, m = k + 1 := ⟨m - 1, by omega⟩
        refine wq_asg (d := .int (t.length : Int)) ((ev_lenOw (i := 4) rfl).is (by rw [elen])) ?_
        dsimp only [List.set]
        refine ws_for (src_list (l := grp.map fun n : Nat => .int (n : Int)) (ev_var rfl)) (fun i ρ' => ∃ s5 s6 s7 s9, ρ' = [.im (bookD C_Book b), .im (natsD grp), .im (natsD lot), .im (numD ch), .ow ((nats (stepF B (grp.take i) t)).map .int), s5, s6, s7, .im (.int (t.length : Int)), s9] ∧ isOw (some s7) = false) ⟨_, _, _, _, rfl, h7⟩ ?_ ?_
        · rintro i d ρ' hd ⟨s5, s6, s7, s9, rfl, h7⟩
          obtain ⟨q, hq, rfl⟩ := map_get hd
          have hp := hper q (List.mem_of_getElem? hq)
          refine ⟨_, gd_name, ?_⟩
          dsimp only [setD, List.set]
          have hst := lot_sub ht (step_sub B (grp.take i) t)
          have hl := asc_len hst
          have ef : stepF B (grp.take (i + 1)) t = (stepF B (grp.take i) t).filter fun w => decide (w ∈ B q (stepF B (grp.take i) t)) := by
            unfold stepF
            rw [foldl_take hq]
          rw [ef]
          generalize stepF B (grp.take i) t = u at hl hst
          have eu : ((nats u).map D.int) = u.map fun n : Nat => .int (n : Int) := by rw [nats, List.map_map] <;> rfl
          refine wq_asg (d := natsD (B q u)) (ec_fz (ec_callN (ena_cons (en_d (ev_var rfl)) (ena_cons (en_d (ev_var rfl)) (ena_cons (en_ow (i := 4) rfl) (ena_cons (en_d (ev_var rfl)) ena_nil)))) (by rw [eu, ← hBq]; exact pr_believes hp hst hch) (by rw [natsD_eq]; exact kf_ints _))) ?_
          dsimp only [List.set]
          refine ws_asgO ((evo_lcW (xs := u) (enc := fun n : Nat => .int (n : Int)) (fun w => decide (w ∈ B q u)) (fun w => D.int (w : Int)) ?_ ?_ (fun v hv => ⟨_, gd_name, by simp, ?_, fun _ => ?_⟩) (by omega)).is ?_) (by simp) ⟨_, _, _, _, rfl, h7⟩
          · refine src_own (i := 4) ?_
            show some (Sl.ow _) = some (Sl.ow _)
            rw [eu]
          · intro j hj
            have hj : j = 7 := by simpa using hj
            rw [hj]
            exact h7
          · dsimp only [setD, wipeD, List.set, List.map]
            refine (et_test (ev_op (ev_var rfl) ((ev_var (d := natsD (B q u)) rfl).is (natsD_eq _)) rv_in)).is ?_
            exact decide_eq_decide.mpr mem_nats
          · dsimp only [setD, wipeD, List.set, List.map]
            exact ev_var rfl
          · unfold nats
            rw [List.map_map]
            rfl
        · rintro ρ' ⟨s5, s6, s7, s9, rfl, h7⟩
          rw [List.length_map, List.take_length]
          have hss := step_sub B grp t
          have hsl := hss.length_le
          have hst := lot_sub ht hss
          rw [loopF] at hloop
          by_cases hlt : (stepF B grp t).length < t.length
          · rw [if_pos hlt] at hloop
            exact ⟨k, Nat.lt_succ_self k, stepF B grp t, t.length, s5, s6, s7, s9, rfl, h7, hst, .inl ⟨hlt, hloop, by omega⟩⟩
          · rw [if_neg hlt] at hloop
            exact ⟨k, Nat.lt_succ_self k, stepF B grp t, t.length, s5, s6, s7, s9, rfl, h7, hst, .inr ⟨hlt, hloop⟩⟩
      · exact absurd hb hn
    · have hb : ¬ t.length < c := of_decide_eq_false hb
      rcases hor with ⟨h1, _⟩ | ⟨_, h2⟩
      · exact absurd h1 hb
      · rw [← h2] at p
        exact ws_retV (i := 4) rfl p
theorem pr_common {C : Addr} {b : BookM} {grp lot : List Nat} {ch : Num} {lab : Nat → List Nat} {ws : Nat → List Int} (h : ∀ q ∈ grp, Per b q (lab q) (ws q)) (h1 : Lot b.worlds lot) (h2 : ChOk ch) (h3 : 1 ≤ b.worlds) (h4 : b.worlds ≤ 12) :
    P_common C [bookD C b, natsD grp, natsD lot, numD ch] (fun s => s = .ow ((nats (commonN (fun q t => believesN (lab q) (ws q) t ch) b.worlds grp lot)).map .int)) (fun _ => False) := ⟨b, grp, lot, ch, lab, ws, rfl, h, h1, h2, h3, h4, rfl⟩
end
end FS
set_option Elab.async false
set_option linter.all false
set_option maxRecDepth 100000
set_option maxHeartbeats 4000000
set_option exponentiation.threshold 20000
namespace FS
open PySem PySem.Spec PyProof.Rows L2

local macro_rules | `(tactic| walk_at "side") => `(tactic| first | assumption | omega | decide)
local macro_rules | `(tactic| walk_at "hv") => `(tactic| (intro i hi; simp at hi; first | (subst hi; rfl) | (rcases hi with rfl | rfl <;> rfl) | (rcases hi with rfl | rfl | rfl <;> rfl)))
local macro_rules | `(tactic| walk_at "pr") => `(tactic| fail "no promise")
local macro_rules | `(tactic| walk_at "rv") => `(tactic| first
  | (with_reducible exact rv_add) | (with_reducible exact rv_sub) | (with_reducible exact rv_lt) | (with_reducible exact rv_le) | (with_reducible exact rv_gt) | (with_reducible exact rv_ge) | (with_reducible exact rv_eq) | (with_reducible exact rv_ne)
  | (with_reducible exact rv_is) | (with_reducible exact rv_isnot)
  | ((with_reducible apply rv_div); first | assumption | exact cdiv_small (by omega) (by omega))
  | ((with_reducible apply rv_mod); first | assumption | omega)
  | ((with_reducible apply rv_mul); first | assumption | exact cmul_left (by omega) | exact cmul_right (by omega))
  | ((with_reducible apply rv_mulW); assumption)
  | (with_reducible exact rv_p8) | (with_reducible exact rv_p18) | (with_reducible exact rv_p40) | (with_reducible exact rv_p20) | (with_reducible exact rv_p6) | (with_reducible exact rv_p7) | (with_reducible exact rv_p12) | (with_reducible exact rv_p25) | (with_reducible exact rv_p30) | (with_reducible exact rv_p39) | (with_reducible exact rv_p60)
  | ((with_reducible apply rv_ixxL); first | assumption | exact at_getD (by omega) (by omega) | exact at_nat rfl)
  | ((with_reducible apply rv_ixxT); first | assumption | exact at_getD (by omega) (by omega) | exact at_nat rfl)
  | ((with_reducible apply rv_ixxC); first | assumption)
  | (with_reducible exact ru_neg))
local macro_rules | `(tactic| walk_at "isi") => `(tactic| first | (with_reducible exact isi_non_int) | (with_reducible exact isi_non_bool) | (with_reducible exact isi_non_str) | (with_reducible exact isi_non_tuple) | (with_reducible exact isi_non_list) | (with_reducible exact isi_bl_int) | (with_reducible exact isi_bl_bool) | (with_reducible exact isi_bl_str) | (with_reducible exact isi_bl_tuple) | (with_reducible exact isi_bl_list) | (with_reducible exact isi_int_int) | (with_reducible exact isi_int_bool) | (with_reducible exact isi_int_str) | (with_reducible exact isi_int_tuple) | (with_reducible exact isi_int_list) | (with_reducible exact isi_str_int) | (with_reducible exact isi_str_bool) | (with_reducible exact isi_str_str) | (with_reducible exact isi_str_tuple) | (with_reducible exact isi_str_list) | (with_reducible exact isi_tup_int) | (with_reducible exact isi_tup_bool) | (with_reducible exact isi_tup_str) | (with_reducible exact isi_tup_tuple) | (with_reducible exact isi_tup_list) | (with_reducible exact isi_lst_int) | (with_reducible exact isi_lst_bool) | (with_reducible exact isi_lst_str) | (with_reducible exact isi_lst_tuple) | (with_reducible exact isi_lst_list))
local macro_rules | `(tactic| walk_at "rc") => `(tactic| first
  | walk_at "isi"
  | (with_reducible exact rc_len) | (with_reducible exact rc_lent) | (with_reducible exact rc_lenc) | (with_reducible exact rc_toint) | (with_reducible exact rc_absv) | (with_reducible exact rc_gcd)
  | ((with_reducible apply rc_lcm); assumption)
  | ((with_reducible apply rc_isi); (focus rfl); assumption)
  | (with_reducible exact rco_list) | (with_reducible exact rco_listT))
local macro_rules | `(tactic| walk_at "ev") => `(tactic| first
  | (with_reducible exact ev_int) | (with_reducible exact ev_bl) | (with_reducible exact ev_non) | (with_reducible exact ev_str) | (with_reducible exact ev_ty)
  | ((with_reducible apply ev_var); rfl)
  | ((with_reducible apply ev_lenOw); rfl)
  | ((with_reducible apply ev_op) <;> first | walk_at "ev" | walk_at "rv")
  | ((with_reducible apply ev_un) <;> first | walk_at "ev" | walk_at "rv")
  | ((with_reducible apply ev_cb) <;> first | walk_at "ev" | walk_at "rc")
  | ((with_reducible apply ev_call) <;> first | walk_at "ev" | walk_at "pr")
  | ((with_reducible apply ev_tup) <;> first | walk_at "ev" | (simp; done))
  | (with_reducible exact ea_nil)
  | ((with_reducible apply ea_cons) <;> walk_at "ev")
  | ((with_reducible apply et_test); walk_at "ev")
  | ((with_reducible apply et_B); walk_at "ev")
  | ((with_reducible apply et_not); walk_at "ev")
  | ((with_reducible apply et_or); (walk_at "ev"); intro _; walk_at "ev")
  | ((with_reducible apply et_and); (walk_at "ev"); intro _; walk_at "ev")
  | ((with_reducible apply ev_orV); (walk_at "ev"); intro _; walk_at "ev")
  | ((with_reducible apply ev_andV); (walk_at "ev"); intro _; walk_at "ev")
  | ((with_reducible apply ev_notV); walk_at "ev")
  | (with_reducible exact et_yes)
  | ((with_reducible apply evo_lst) <;> first | walk_at "ev" | (simp; done))
  | ((with_reducible apply ev_opO) <;> first | walk_at "ev" | ((with_reducible apply rvo_add); simp; omega))
  | ((with_reducible apply ev_cbO) <;> first | walk_at "ev" | walk_at "rc")
  | ((with_reducible apply ev_callO) <;> first | walk_at "ev" | walk_at "pr")
  | ((with_reducible apply ec_call) <;> first | walk_at "ev" | walk_at "pr")
  | ((with_reducible apply ec_tup) <;> first | walk_at "ev" | (simp; done))
  | ((with_reducible apply ec_lst) <;> first | walk_at "ev" | (simp; done))
  | (with_reducible exact eca_nil)
  | ((with_reducible apply eca_cons) <;> walk_at "ev")
  | ((with_reducible apply ec_sc); (walk_at "ev"); rfl)
  | ((with_reducible apply ec_ow); (walk_at "ev"); first | assumption | (intro d hd; simp at hd; done))
  | ((with_reducible apply ec_fz); walk_at "ev")
  | ((with_reducible apply ev_fz); walk_at "ev"))

local macro_rules | `(tactic| walk_at "im") => `(tactic| ((with_reducible apply wq_asg); walk_at "ev"; (try dsimp only [List.set, Int.reduceToNat])))
local macro_rules | `(tactic| walk_at "ow") => `(tactic| ((with_reducible apply wq_asgO); walk_at "ev"; (focus (first | decide | (simp; done))); (try dsimp only [List.set, Int.reduceToNat])))
local macro_rules | `(tactic| walk_at "cl") => `(tactic| ((with_reducible apply wq_asgC); walk_at "ev"; (focus (first | decide | (simp; done))); (try dsimp only [List.set, Int.reduceToNat])))
local macro_rules | `(tactic| walk_at "if") => `(tactic| ((first | (with_reducible apply wq_when) | (with_reducible apply wq_if) | (with_reducible apply ws_if)); walk_at "ev"; (try dsimp only [Int.reduceToNat])))
local macro_rules | `(tactic| walk_at "ret") => `(tactic| ((with_reducible apply ws_ret); walk_at "ev"))
local macro_rules | `(tactic| walk_at "go") => `(tactic| (try dsimp only [cxOf, L2.Cx.nox, L2.Cx.wish, L2.Cx.blk]))
local macro_rules | `(tactic| walk_at "ints") => `(tactic| (refine ev_fz (evo_lst ?_ (by decide)); repeat (first | exact ea_nil | refine ea_cons ev_int ?_)))

/-! ### drawn weights -/
def szW : Nat → List Int
  | 0 => []
  | k + 1 => szW k ++ [1000000000, 10000000000000000000000000000000]
theorem szW_len : ∀ n, (szW n).length = 2 * n
  | 0 => rfl
  | n + 1 => by rw [szW, List.length_append, szW_len n] <;> rfl
theorem szW_ok : ∀ n, ∀ s ∈ szW n, 0 < s ∧ s < 2 ^ 200
  | 0, s, h => by simp [szW] at h
  | n + 1, s, h => by
    rcases List.mem_append.mp h with h | h
    · exact szW_ok n s h
    · have h : s = 1000000000 ∨ s = 10000000000000000000000000000000 := by simpa using h
      rcases h with rfl | rfl <;> decide
theorem getD_app_l {l r : List Int} {i : Nat} (h : i < l.length) : (l ++ r).getD i 0 = l.getD i 0 := by
  rw [List.getD_eq_getElem?_getD, List.getD_eq_getElem?_getD, List.getElem?_append_left h]
theorem getD_app_r {l r : List Int} {i : Nat} (h : l.length ≤ i) : (l ++ r).getD i 0 = r.getD (i - l.length) 0 := by
  rw [List.getD_eq_getElem?_getD, List.getD_eq_getElem?_getD, List.getElem?_append_right h]
theorem szW_get : ∀ n w, w < n → (szW n).getD (2 * w) 0 = 1000000000 ∧ (szW n).getD (2 * w + 1) 0 = 10000000000000000000000000000000
  | 0, w, h => by omega
  | n + 1, w, h => by
    have hl := szW_len n
    by_cases hw : w < n
    · obtain ⟨a, b⟩ := szW_get n w hw
      rw [szW, getD_app_l (by omega), getD_app_l (by omega)]
      exact ⟨a, b⟩
    · have e : w = n := by omega
      subst e
      rw [szW, getD_app_r (by omega), getD_app_r (by omega), hl]
      have e1 : 2 * w - 2 * w = 0 := by omega
      have e2 : 2 * w + 1 - 2 * w = 1 := by omega
      rw [e1, e2]
      exact ⟨rfl, rfl⟩
def szL (n : Nat) (least : Int) : List Int := (List.range n).map fun _ => if least = 0 then 3 else 9
def weightsN (c : Int) (n : Nat) (least large : Int) : List Int :=
  if large = 0 then (List.range n).map fun w => least + (draws c (szW n)).getD (2 * w) 0 * 10000000000000000000000000000000 + (draws c (szW n)).getD (2 * w + 1) 0
  else if large = 1 then ((draws c (szL n least)).map fun x => least + x).map fun x => x * 1000000000000000000000000000000000000000 else (draws c (szL n least)).map fun x => least + x
theorem szL_len (n : Nat) (least : Int) : (szL n least).length = n := by rw [szL, List.length_map, List.length_range]
theorem szL_mem {n : Nat} {least s : Int} (h : s ∈ szL n least) : s = if least = 0 then 3 else 9 := by
  obtain ⟨_, _, rfl⟩ := List.mem_map.mp h
  rfl
theorem draws_mem {c : Int} {s : List Int} (hp : ∀ x ∈ s, 0 < x) {x : Int} (h : x ∈ draws c s) : ∃ i, i < s.length ∧ x = (draws c s).getD i 0 ∧ 0 ≤ x ∧ x < s.getD i 0 := by
  obtain ⟨i, hi, e⟩ := List.getElem_of_mem h
  have hl := draws_len c s
  have hb := draws_bd c s i hp (by omega)
  have e2 : (draws c s).getD i 0 = x := by rw [List.getD_eq_getElem?_getD, List.getElem?_eq_getElem hi, ← e] <;> rfl
  rw [e2] at hb
  exact ⟨i, by omega, e2.symm, hb⟩
theorem weights_ok {c : Int} {n : Nat} {least large : Int} (h : least = 0 ∨ least = 1) : (weightsN c n least large).length = n ∧ ∀ x ∈ weightsN c n least large, 0 ≤ x ∧ x ≤ 10 ^ 40 := by
  have h40 : (10 : Int) ^ 40 = 10000000000000000000000000000000000000000 := by decide
  rw [h40]
  have hL : ∀ x ∈ draws c (szL n least), 0 ≤ x ∧ x < 9 := fun x hx => by
    obtain ⟨i, hi, _, h0, h1⟩ := draws_mem (fun s hs => by rw [szL_mem hs]; split <;> decide) hx
    have : (szL n least).getD i 0 ∈ szL n least := by
      rw [List.getD_eq_getElem?_getD, List.getElem?_eq_getElem hi]
      exact List.getElem_mem _
    have := szL_mem this
    refine ⟨h0, ?_⟩
    rw [this] at h1
    split at h1 <;> omega
  unfold weightsN
  split
  · refine ⟨by rw [List.length_map, List.length_range], fun x hx => ?_⟩
    obtain ⟨w, hw, rfl⟩ := List.mem_map.mp hx
    have hw := List.mem_range.mp hw
    have hl := szW_len n
    have a := draws_bd c (szW n) (2 * w) (fun s hs => (szW_ok n s hs).1) (by omega)
    have b := draws_bd c (szW n) (2 * w + 1) (fun s hs => (szW_ok n s hs).1) (by omega)
    rw [(szW_get n w hw).1] at a
    rw [(szW_get n w hw).2] at b
    omega
  · split
    · refine ⟨by rw [List.length_map, List.length_map, draws_len, szL_len], fun x hx => ?_⟩
      obtain ⟨y, hy, rfl⟩ := List.mem_map.mp hx
      obtain ⟨z, hz, rfl⟩ := List.mem_map.mp hy
      have := hL z hz
      omega
    · refine ⟨by rw [List.length_map, draws_len, szL_len], fun x hx => ?_⟩
      obtain ⟨z, hz, rfl⟩ := List.mem_map.mp hx
      have := hL z hz
      omega
section
variable {P : Program} {w : World} {K : PySem.W.Frag} {mg : Str → Option Value} {base : Heap} {C_Book : Addr}
def P_weights : PrD := fun ds R _ => ∃ (c : Int) (n : Nat) (least large : Int), ds = [.int c, .int (n : Int), .int least, .int large] ∧ n ≤ 100 ∧ (least = 0 ∨ least = 1) ∧ R (.ow ((weightsN c n least large).map .int))
theorem ok_weights (F : Df K mg "_law_weights" s_law_weights ["cell", "worlds", "least", "large"]) (gm : Gm K mg C_Book) (G_law_draws : FnG P w K mg base CX0 1 "_law_draws" ["cell", "sizes"] (spD K P_draws)) : FnG P w K mg base CX0 2 "_law_weights" ["cell", "worlds", "least", "large"] (spD K P_weights) := by
  refine F.ok (k := 1) sc_law_weights (fun ds R Z ⟨a, b, c, d, e, _⟩ => by rw [e] <;> rfl) (fun f cdv A outer s H E hr => ?_)
  refine ⟨_,
    (pss_cons (ps_if (pt_cmpR (kEq K hr.units) (pv 3) pe_int (nomark _)) (pss_cons (sv 4 sc_law_weights.nd (pe_lst pa_nil)) (pss_cons (ps_for PassesOwn.never rfl (pi_range1 (by rfl) gm.range (pa_cons (pv 1) pa_nil)) (gn 5 sc_law_weights.nd) (pss_one (ps_expr (ml_extend K (pv 4) (pa_cons (pe_lst (pa_cons (pe_op opPow pe_int pe_int) (pa_cons (pe_op opPow pe_int pe_int) pa_nil))) pa_nil))))) (pss_cons (sv 6 sc_law_weights.nd (pe_g G_law_draws hr.le pass0 (pa_cons (pv 0) (pa_cons (pv 4) pa_nil)))) (pss_one (ps_ret (pe_lc (own := [("w", 5)]) rfl sc_law_weights.nd (pi_range1 (by rfl) gm.range (pa_cons (pv 1) pa_nil)) (blkOk_by (N := N_law_weights) (sc := defScope s_law_weights) (by decide +kernel)) (fun _ _ _ _ _ => (gn 5 sc_law_weights.nd)) (fun _ _ _ _ _ => pts_nil) (fun _ _ _ _ _ => (pe_op (kAdd K) (pe_op (kAdd K) (pv 2) (pe_op opMul (ix K (pv 6) (pe_op opMul pe_int (pv 5))) (pe_op opPow pe_int pe_int))) (ix K (pv 6) (pe_op (kAdd K) (pe_op opMul pe_int (pv 5)) pe_int)))))))))) pss_nil)
    (pss_cons (ps_setLc (i := 7) (own := [("n", 8)]) rfl sc_law_weights.nd rfl rfl (sw_true rfl rfl rfl (by decide +kernel)) (pl K (pe_g G_law_draws hr.le pass0 (pa_cons (pv 0) (pa_cons (pe_lc (own := [("w", 5)]) rfl sc_law_weights.nd (pi_range1 (by rfl) gm.range (pa_cons (pv 1) pa_nil)) (blkOk_by (N := N_law_weights) (sc := defScope s_law_weights) (by decide +kernel)) (fun _ _ _ _ _ => (gn 5 sc_law_weights.nd)) (fun _ _ _ _ _ => pts_nil) (fun _ _ _ _ _ => (ix K (pe_lst (pa_cons pe_int (pa_cons pe_int pa_nil))) (pv 2)))) pa_nil)))) (blkOk_by (N := N_law_weights) (sc := defScope s_law_weights) (by decide +kernel)) (fun _ _ _ _ _ => (gn 8 sc_law_weights.nd)) (fun _ _ _ _ _ => pts_nil) (fun _ _ _ _ _ => (pe_op (kAdd K) (pv 2) (pv 8))))
    (pss_cons (ps_if (pt_cmpR (kEq K hr.units) (pv 3) pe_int (nomark _)) (pss_one (ps_ret (pe_lc (own := [("n", 8)]) rfl sc_law_weights.nd (pl K (pv 7)) (blkOk_by (N := N_law_weights) (sc := defScope s_law_weights) (by decide +kernel)) (fun _ _ _ _ _ => (gn 8 sc_law_weights.nd)) (fun _ _ _ _ _ => pts_nil) (fun _ _ _ _ _ => (pe_op opMul (pv 8) (pe_op opPow pe_int pe_int)))))) pss_nil)
    (pss_one (ps_ret (pv 7)))))), fun ds R Z p => ?_⟩
  obtain ⟨c, n, least, large, rfl, hn, hle, p⟩ := p
  refine ws_to (ρ' := [.im (.int c), .im (.int (n : Int)), .im (.int least), .im (.int large), .no, .no, .no, .no, .no]) rfl ?_
  walk_at "go"
  refine wq_when (et_test (ev_op (ev_var rfl) ev_int rv_eq)) (fun hb => ?_) (fun hb => ?_)
  · have hb : large = 0 := of_decide_eq_true hb
    unfold weightsN at p
    rw [if_pos hb] at p
    refine wq_asgO (evo_lst ea_nil (by simp)) (by simp) ?_
    dsimp only [List.set]
    refine wq_for (src_rng1 (n := (n : Int)) (ea_cons (ev_var rfl) ea_nil) (by omega)) (fun i ρ' => ∃ s5, ρ' = [.im (.int c), .im (.int (n : Int)), .im (.int least), .im (.int large), .ow ((szW i).map .int), s5, .no, .no, .no] ∧ isOw (some s5) = false) ⟨_, rfl, rfl⟩ ?_ ?_
    · rintro i d ρ' hd ⟨s5, rfl, _⟩
      obtain ⟨hi, rfl⟩ := rng_get hd
      refine ⟨_, gd_name, ?_⟩
      dsimp only [setD, List.set]
      have hl := szW_len i
      refine ws_ext (i := 4) (l' := [.int 1000000000, .int 10000000000000000000000000000000]) rfl (ev_fz (evo_lst (ea_cons (ev_op ev_int ev_int rv_p9) (ea_cons (ev_op ev_int ev_int rv_p31) ea_nil)) (by simp))) (by rw [List.length_map]; show _ + 2 ≤ _; omega) ?_
      dsimp only [List.set]
      refine ⟨.im (.int (0 + (i : Int))), ?_, rfl⟩
      rw [szW, List.map_append]
      rfl
    · rintro ρ' ⟨s5, rfl, h5⟩
      rw [rng_len, Int.toNat_natCast]
      refine ws_fz (i := 4) rfl ?_
      dsimp only [List.set]
      have hl := szW_len n
      refine wq_asg (d := intsD (draws c (szW n))) (ec_fz (ec_call (ea_cons (ev_var rfl) (ea_cons (ev_var rfl) ea_nil)) (pr_draws (szW_ok n) (by omega)))) ?_
      dsimp only [List.set]
      have hdl := draws_len c (szW n)
      refine ws_retO ((evo_map (xs := List.range n) (enc := fun k : Nat => D.int (0 + (k : Int))) (fun v => D.int (least + (draws c (szW n)).getD (2 * v) 0 * 10000000000000000000000000000000 + (draws c (szW n)).getD (2 * v + 1) 0)) (src_rng1 (n := (n : Int)) (ea_cons (ev_var rfl) ea_nil) (by omega)) ?_ (fun v hv => ⟨_, gd_name, by simp, ?_⟩) (by rw [List.length_range]; omega)).is ?_) p
      · intro j hj
        have hj : j = 5 := by simpa using hj
        rw [hj]
        exact h5
      · dsimp only [setD, wipeD, List.set, List.map]
        have hv := List.mem_range.mp hv
        have a := draws_bd c (szW n) (2 * v) (fun s hs => (szW_ok n s hs).1) (by omega)
        rw [(szW_get n v hv).1] at a
        have e1 : (2 : Int) * (0 + (v : Int)) = ((2 * v : Nat) : Int) := by omega
        have e2 : (2 : Int) * (0 + (v : Int)) + 1 = ((2 * v + 1 : Nat) : Int) := by omega
        have g1 : atI ((draws c (szW n)).map D.int) (2 * (0 + (v : Int))) = some (.int ((draws c (szW n)).getD (2 * v) 0)) := by rw [e1]; exact at_ints (by omega)
        have g2 : atI ((draws c (szW n)).map D.int) (2 * (0 + (v : Int)) + 1) = some (.int ((draws c (szW n)).getD (2 * v + 1) 0)) := by rw [e2]; exact at_ints (by omega)
        have m2 : EvD K (tOp rMulA (tC (.int 2)) (tVar 5)) [.im (.int c), .im (.int (n : Int)), .im (.int least), .im (.int large), .im (.lst ((szW n).map .int)), .im (.int (0 + (v : Int))), .im (intsD (draws c (szW n))), .no, .no] (.int (2 * (0 + (v : Int)))) := ev_op ev_int (ev_var rfl) (rv_mul (cmul_left (by decide)))
        exact ev_op (ev_op (ev_var rfl) (ev_op (ev_op (ev_var rfl) m2 (rv_ixxL g1)) (ev_op ev_int ev_int rv_p31) (rv_mul (cmul_left (by omega)))) rv_add) (ev_op (ev_var rfl) (ev_op m2 ev_int rv_add) (rv_ixxL g2)) rv_add
      · rw [List.map_map]
        rfl
  · have hb : ¬ large = 0 := of_decide_eq_false hb
    unfold weightsN at p
    rw [if_neg hb] at p
    have hok : ∀ s ∈ szL n least, 0 < s ∧ s < 2 ^ 200 := fun s hs => by rw [szL_mem hs]; split <;> decide
    have hll := szL_len n least
    have hat : atI [D.int 3, D.int 9] least = some (.int (if least = 0 then 3 else 9)) := by rcases hle with rfl | rfl <;> rfl
    have hdr : EvC K _ [.im (.int c), .im (.int (n : Int)), .im (.int least), .im (.int large), .no, .no, .no, .no, .no] (intsD (draws c (szL n least))) := ec_call (E := E0) (ea_cons (ev_var (i := 0) rfl) (ea_cons ((ev_fz (evo_map (xs := List.range n) (enc := fun k : Nat => D.int (0 + (k : Int))) (vs := [5]) (g := gName 5) (te := tOp (rIx K) (tLst (tCons (tC (.int 3)) (tCons (tC (.int 9)) tNil))) (tVar 2)) (fun _ => D.int (if least = 0 then 3 else 9)) (src_rng1 (n := (n : Int)) (ea_cons (ev_var (i := 1) rfl) ea_nil) (by omega)) (by walk_at "hv") (fun v hv => ⟨_, gd_name, by simp, ev_op (ev_fz (evo_lst (ea_cons ev_int (ea_cons ev_int ea_nil)) (by simp))) (ev_var rfl) (rv_ixxL hat)⟩) (by rw [List.length_range]; omega))).is (by rw [szL, List.map_map] <;> rfl)) ea_nil)) (pr_draws hok (by omega))
    have hdl := draws_len c (szL n least)
    refine wq_asgO (l := ((draws c (szL n least)).map fun x => least + x).map .int) ((evo_map (xs := draws c (szL n least)) (enc := .int) (fun x => D.int (least + x)) (src_list (ec_fz hdr)) (by walk_at "hv") (fun x hx => ⟨_, gd_name, by simp, ev_op (ev_var rfl) (ev_var rfl) rv_add⟩) (by omega)).is (by rw [List.map_map] <;> rfl)) (by simp) ?_
    dsimp only [List.set]
    refine wq_when (et_test (ev_op (ev_var rfl) ev_int rv_eq)) (fun hb => ?_) (fun hb => ?_)
    · have hb : large = 1 := of_decide_eq_true hb
      rw [if_pos hb] at p
      have hL : ∀ x ∈ (draws c (szL n least)).map fun x => least + x, 0 ≤ x ∧ x ≤ 9 := fun x hx => by
        obtain ⟨y, hy, rfl⟩ := List.mem_map.mp hx
        obtain ⟨i, hi, _, h0, h1⟩ := draws_mem (fun s hs => (hok s hs).1) hy
        have : (szL n least).getD i 0 ∈ szL n least := by
          rw [List.getD_eq_getElem?_getD, List.getElem?_eq_getElem hi]
          exact List.getElem_mem _
        have := szL_mem this
        rw [this] at h1
        split at h1 <;> omega
      refine ws_retO ((evo_mapW (xs := (draws c (szL n least)).map fun x => least + x) (enc := .int) (fun x => D.int (x * 1000000000000000000000000000000000000000)) (src_own (i := 7) rfl) (by walk_at "hv") (fun x hx => ⟨_, gd_name, by simp, ev_op (ev_var rfl) (ev_op ev_int ev_int rv_p39) (rv_mul (cmul_left (by have := hL x hx; omega)))⟩) (by rw [List.length_map]; omega)).is (by rw [List.map_map, List.map_map, List.map_map] <;> rfl)) p
    · have hb : ¬ large = 1 := of_decide_eq_false hb
      rw [if_neg hb] at p
      exact ws_retV (i := 7) rfl p
theorem pr_weights {c : Int} {n : Nat} {least large : Int} (hn : n ≤ 100) (h : least = 0 ∨ least = 1) : P_weights [.int c, .int (n : Int), .int least, .int large] (fun s => s = .ow ((weightsN c n least large).map .int)) (fun _ => False) := ⟨c, n, least, large, rfl, hn, h, rfl⟩
end
end FS
set_option Elab.async false
set_option linter.all false
set_option maxRecDepth 100000
set_option maxHeartbeats 4000000
set_option exponentiation.threshold 20000
namespace FS
open PySem PySem.Spec PyProof.Rows L2

local macro_rules | `(tactic| walk_at "side") => `(tactic| first | assumption | omega | decide)
local macro_rules | `(tactic| walk_at "hv") => `(tactic| (intro i hi; simp at hi; first | (subst hi; rfl) | (rcases hi with rfl | rfl <;> rfl) | (rcases hi with rfl | rfl | rfl <;> rfl)))
local macro_rules | `(tactic| walk_at "pr") => `(tactic| fail "no promise")
local macro_rules | `(tactic| walk_at "rv") => `(tactic| first
  | (with_reducible exact rv_add) | (with_reducible exact rv_sub) | (with_reducible exact rv_lt) | (with_reducible exact rv_le) | (with_reducible exact rv_gt) | (with_reducible exact rv_ge) | (with_reducible exact rv_eq) | (with_reducible exact rv_ne)
  | (with_reducible exact rv_is) | (with_reducible exact rv_isnot)
  | ((with_reducible apply rv_div); first | assumption | exact cdiv_small (by omega) (by omega))
  | ((with_reducible apply rv_mod); first | assumption | omega)
  | ((with_reducible apply rv_mul); first | assumption | exact cmul_left (by omega) | exact cmul_right (by omega))
  | ((with_reducible apply rv_mulW); assumption)
  | (with_reducible exact rv_p8) | (with_reducible exact rv_p18) | (with_reducible exact rv_p40) | (with_reducible exact rv_p20) | (with_reducible exact rv_p6) | (with_reducible exact rv_p7) | (with_reducible exact rv_p12) | (with_reducible exact rv_p25) | (with_reducible exact rv_p30) | (with_reducible exact rv_p39) | (with_reducible exact rv_p60)
  | ((with_reducible apply rv_ixxL); first | assumption | exact at_getD (by omega) (by omega) | exact at_nat rfl)
  | ((with_reducible apply rv_ixxT); first | assumption | exact at_getD (by omega) (by omega) | exact at_nat rfl)
  | ((with_reducible apply rv_ixxC); first | assumption)
  | (with_reducible exact ru_neg))
local macro_rules | `(tactic| walk_at "isi") => `(tactic| first | (with_reducible exact isi_non_int) | (with_reducible exact isi_non_bool) | (with_reducible exact isi_non_str) | (with_reducible exact isi_non_tuple) | (with_reducible exact isi_non_list) | (with_reducible exact isi_bl_int) | (with_reducible exact isi_bl_bool) | (with_reducible exact isi_bl_str) | (with_reducible exact isi_bl_tuple) | (with_reducible exact isi_bl_list) | (with_reducible exact isi_int_int) | (with_reducible exact isi_int_bool) | (with_reducible exact isi_int_str) | (with_reducible exact isi_int_tuple) | (with_reducible exact isi_int_list) | (with_reducible exact isi_str_int) | (with_reducible exact isi_str_bool) | (with_reducible exact isi_str_str) | (with_reducible exact isi_str_tuple) | (with_reducible exact isi_str_list) | (with_reducible exact isi_tup_int) | (with_reducible exact isi_tup_bool) | (with_reducible exact isi_tup_str) | (with_reducible exact isi_tup_tuple) | (with_reducible exact isi_tup_list) | (with_reducible exact isi_lst_int) | (with_reducible exact isi_lst_bool) | (with_reducible exact isi_lst_str) | (with_reducible exact isi_lst_tuple) | (with_reducible exact isi_lst_list))
local macro_rules | `(tactic| walk_at "rc") => `(tactic| first
  | walk_at "isi"
  | (with_reducible exact rc_len) | (with_reducible exact rc_lent) | (with_reducible exact rc_lenc) | (with_reducible exact rc_toint) | (with_reducible exact rc_absv) | (with_reducible exact rc_gcd)
  | ((with_reducible apply rc_lcm); assumption)
  | ((with_reducible apply rc_isi); (focus rfl); assumption)
  | (with_reducible exact rco_list) | (with_reducible exact rco_listT))
local macro_rules | `(tactic| walk_at "ev") => `(tactic| first
  | (with_reducible exact ev_int) | (with_reducible exact ev_bl) | (with_reducible exact ev_non) | (with_reducible exact ev_str) | (with_reducible exact ev_ty)
  | ((with_reducible apply ev_var); rfl)
  | ((with_reducible apply ev_lenOw); rfl)
  | ((with_reducible apply ev_op) <;> first | walk_at "ev" | walk_at "rv")
  | ((with_reducible apply ev_un) <;> first | walk_at "ev" | walk_at "rv")
  | ((with_reducible apply ev_cb) <;> first | walk_at "ev" | walk_at "rc")
  | ((with_reducible apply ev_call) <;> first | walk_at "ev" | walk_at "pr")
  | ((with_reducible apply ev_tup) <;> first | walk_at "ev" | (simp; done))
  | (with_reducible exact ea_nil)
  | ((with_reducible apply ea_cons) <;> walk_at "ev")
  | ((with_reducible apply et_test); walk_at "ev")
  | ((with_reducible apply et_B); walk_at "ev")
  | ((with_reducible apply et_not); walk_at "ev")
  | ((with_reducible apply et_or); (walk_at "ev"); intro _; walk_at "ev")
  | ((with_reducible apply et_and); (walk_at "ev"); intro _; walk_at "ev")
  | ((with_reducible apply ev_orV); (walk_at "ev"); intro _; walk_at "ev")
  | ((with_reducible apply ev_andV); (walk_at "ev"); intro _; walk_at "ev")
  | ((with_reducible apply ev_notV); walk_at "ev")
  | (with_reducible exact et_yes)
  | ((with_reducible apply evo_lst) <;> first | walk_at "ev" | (simp; done))
  | ((with_reducible apply ev_opO) <;> first | walk_at "ev" | ((with_reducible apply rvo_add); simp; omega))
  | ((with_reducible apply ev_cbO) <;> first | walk_at "ev" | walk_at "rc")
  | ((with_reducible apply ev_callO) <;> first | walk_at "ev" | walk_at "pr")
  | ((with_reducible apply ec_call) <;> first | walk_at "ev" | walk_at "pr")
  | ((with_reducible apply ec_tup) <;> first | walk_at "ev" | (simp; done))
  | ((with_reducible apply ec_lst) <;> first | walk_at "ev" | (simp; done))
  | (with_reducible exact eca_nil)
  | ((with_reducible apply eca_cons) <;> walk_at "ev")
  | ((with_reducible apply ec_sc); (walk_at "ev"); rfl)
  | ((with_reducible apply ec_ow); (walk_at "ev"); first | assumption | (intro d hd; simp at hd; done))
  | ((with_reducible apply ec_fz); walk_at "ev")
  | ((with_reducible apply ev_fz); walk_at "ev"))

local macro_rules | `(tactic| walk_at "im") => `(tactic| ((with_reducible apply wq_asg); walk_at "ev"; (try dsimp only [List.set, Int.reduceToNat])))
local macro_rules | `(tactic| walk_at "ow") => `(tactic| ((with_reducible apply wq_asgO); walk_at "ev"; (focus (first | decide | (simp; done))); (try dsimp only [List.set, Int.reduceToNat])))
local macro_rules | `(tactic| walk_at "cl") => `(tactic| ((with_reducible apply wq_asgC); walk_at "ev"; (focus (first | decide | (simp; done))); (try dsimp only [List.set, Int.reduceToNat])))
local macro_rules | `(tactic| walk_at "if") => `(tactic| ((first | (with_reducible apply wq_when) | (with_reducible apply wq_if) | (with_reducible apply ws_if)); walk_at "ev"; (try dsimp only [Int.reduceToNat])))
local macro_rules | `(tactic| walk_at "ret") => `(tactic| ((with_reducible apply ws_ret); walk_at "ev"))
local macro_rules | `(tactic| walk_at "go") => `(tactic| (try dsimp only [cxOf, L2.Cx.nox, L2.Cx.wish, L2.Cx.blk]))
local macro_rules | `(tactic| walk_at "ints") => `(tactic| (refine ev_fz (evo_lst ?_ (by decide)); repeat (first | exact ea_nil | refine ea_cons ev_int ?_)))

/-! ### drawn tables -/
def szH : List Int := [5, 3, 9, 12, 6, 3, 9]
def shT (ns : List Int) (i : Nat) : Int := (draws (cell ns 0) szH).getD i 0
def wT (ns : List Int) : Nat := ((if shT ns 2 = 0 then shT ns 3 else shT ns 0) + 1).toNat
def pT (ns : List Int) : Nat := ((if shT ns 2 = 0 then shT ns 4 else shT ns 1) + 1).toNat
def sz12 (n : Nat) : List Int := (List.range n).map fun _ => 12
def dT (ns : List Int) (q : Nat) : List Int := draws (cell ns (1 + (0 + (q : Int)))) (sz12 (wT ns + 2))
def menuT (ns : List Int) (q : Nat) : Int := 1 + (dT ns q).getD 0 0 % (wT ns : Int)
def labT (ns : List Int) (q : Nat) : List Int := (List.range (wT ns)).map fun w => ((dT ns q).getD (2 + w) 0 % menuT ns q + (dT ns q).getD 1 0) % 12
def sumAt (labels r : List Int) (n w : Nat) : Int := (((List.range n).filter fun v => decide (labels.getD v 0 = labels.getD w 0)).map fun v => r.getD v 0).sum
def fixR (labels : List Int) (n : Nat) : Nat → List Int → List Int
  | 0, r => r
  | k + 1, r => if sumAt labels (fixR labels n k r) n k = 0 then (fixR labels n k r).set k 1 else fixR labels n k r
def rowT0 (ns : List Int) (q : Nat) : List Int := weightsN (cell ns (7 + (0 + (q : Int)))) (wT ns) (if 0 < shT ns 5 then 1 else 0) (shT ns 6)
def rowT (ns : List Int) (q : Nat) : List Int := fixR (labT ns q) (wT ns) (wT ns) (rowT0 ns q)
def sightsT (ns : List Int) : List (List Int) := (List.range (pT ns)).map (labT ns)
def oddsT (ns : List Int) : List (List Int) := (List.range (pT ns)).map (rowT ns)
theorem sz12_len (n : Nat) : (sz12 n).length = n := by rw [sz12, List.length_map, List.length_range]
theorem sz12_mem {n : Nat} {s : Int} (h : s ∈ sz12 n) : s = 12 := by
  obtain ⟨_, _, rfl⟩ := List.mem_map.mp h
  rfl
theorem sz12_get {n i : Nat} (h : i < n) : (sz12 n).getD i 0 = 12 := by
  have hm : (sz12 n).getD i 0 ∈ sz12 n := by
    rw [List.getD_eq_getElem?_getD, List.getElem?_eq_getElem (by rw [sz12_len]; exact h)]
    exact List.getElem_mem _
  exact sz12_mem hm
theorem shT_bd (ns : List Int) (i : Nat) (h : i < 7) : 0 ≤ shT ns i ∧ shT ns i < szH.getD i 0 := draws_bd (cell ns 0) szH i (by decide) h
theorem wp_ok (ns : List Int) : 1 ≤ wT ns ∧ wT ns ≤ 12 ∧ 1 ≤ pT ns ∧ pT ns ≤ 6 ∧ ((wT ns : Nat) : Int) = (if shT ns 2 = 0 then shT ns 3 else shT ns 0) + 1 ∧ ((pT ns : Nat) : Int) = (if shT ns 2 = 0 then shT ns 4 else shT ns 1) + 1 := by
  have h0 := shT_bd ns 0 (by decide)
  have h1 := shT_bd ns 1 (by decide)
  have h3 := shT_bd ns 3 (by decide)
  have h4 := shT_bd ns 4 (by decide)
  have e0 : szH.getD 0 0 = 5 := rfl
  have e1 : szH.getD 1 0 = 3 := rfl
  have e3 : szH.getD 3 0 = 12 := rfl
  have e4 : szH.getD 4 0 = 6 := rfl
  rw [e0] at h0
  rw [e1] at h1
  rw [e3] at h3
  rw [e4] at h4
  unfold wT pT
  split <;> omega
theorem labT_len (ns : List Int) (q : Nat) : (labT ns q).length = wT ns := by rw [labT, List.length_map, List.length_range]
theorem labT_bd {ns : List Int} {q : Nat} {x : Int} (h : x ∈ labT ns q) : 0 ≤ x ∧ x < 12 := by
  obtain ⟨w, _, rfl⟩ := List.mem_map.mp h
  exact ⟨Int.emod_nonneg _ (by decide), Int.emod_lt_of_pos _ (by decide)⟩
theorem fixR_len (labels : List Int) (n : Nat) : ∀ (k : Nat) (r : List Int), (fixR labels n k r).length = r.length
  | 0, r => rfl
  | k + 1, r => by
    rw [fixR]
    split
    · rw [List.length_set, fixR_len labels n k]
    · exact fixR_len labels n k r
theorem fixR_bd (labels : List Int) (n : Nat) : ∀ (k : Nat) (r : List Int), (∀ x ∈ r, 0 ≤ x ∧ x ≤ 10 ^ 40) → ∀ x ∈ fixR labels n k r, 0 ≤ x ∧ x ≤ 10 ^ 40
  | 0, r, h, x, hx => h x hx
  | k + 1, r, h, x, hx => by
    rw [fixR] at hx
    split at hx
    · rcases List.mem_or_eq_of_mem_set hx with hx | rfl
      · exact fixR_bd labels n k r h x hx
      · decide
    · exact fixR_bd labels n k r h x hx
section
variable {P : Program} {w : World} {K : PySem.W.Frag} {mg : Str → Option Value} {base : Heap} {C_Book : Addr}
def P_tables : PrD := fun ds R _ => ∃ ns : List Int, ds = [.scr ns] ∧ R (.im (.lst [rowsD (sightsT ns), rowsD (oddsT ns)]))
theorem ok_tables (F : Df K mg "_law_tables" s_law_tables ["script"]) (gm : Gm K mg C_Book) (G_law_draws : FnG P w K mg base CX0 1 "_law_draws" ["cell", "sizes"] (spD K P_draws)) (G_law_cell : FnG P w K mg base CX0 1 "_law_cell" ["script", "k"] (spD K P_cell)) (G_law_weights : FnG P w K mg base CX0 2 "_law_weights" ["cell", "worlds", "least", "large"] (spD K P_weights)) : FnG P w K mg base CX0 3 "_law_tables" ["script"] (spD K P_tables) := by
  refine F.ok (k := 2) sc_law_tables (fun ds R Z ⟨a, e, _⟩ => by rw [e] <;> rfl) (fun f cdv A outer s H E hr => ?_)
  refine ⟨_,
    (pss_cons (sv 1 sc_law_tables.nd (pe_g G_law_draws hr.le pass0 (pa_cons (pe_g G_law_cell hr.le pass0 (pa_cons (pv 0) (pa_cons pe_int pa_nil))) (pa_cons (pe_lst (pa_cons pe_int (pa_cons pe_int (pa_cons pe_int (pa_cons pe_int (pa_cons pe_int (pa_cons pe_int (pa_cons pe_int pa_nil)))))))) pa_nil))))
    (pss_cons (sv 2 sc_law_tables.nd (pe_op (kAdd K) (ix K (pv 1) pe_int) pe_int))
    (pss_cons (sv 3 sc_law_tables.nd (pe_op (kAdd K) (ix K (pv 1) pe_int) pe_int))
    (pss_cons (ps_if (pt_cmpR (kEq K hr.units) (ix K (pv 1) pe_int) pe_int (nomark _)) (pss_cons (sv 2 sc_law_tables.nd (pe_op (kAdd K) (ix K (pv 1) pe_int) pe_int)) (pss_one (sv 3 sc_law_tables.nd (pe_op (kAdd K) (ix K (pv 1) pe_int) pe_int)))) pss_nil)
    (pss_cons (sv 4 sc_law_tables.nd (pe_lst pa_nil))
    (pss_cons (sv 5 sc_law_tables.nd (pe_lst pa_nil))
    (pss_cons (ps_for PassesOwn.never rfl (pi_range1 (by rfl) gm.range (pa_cons (pv 3) pa_nil)) (gn 6 sc_law_tables.nd) (pss_cons (sv 7 sc_law_tables.nd (pe_g G_law_draws hr.le pass0 (pa_cons (pe_g G_law_cell hr.le pass0 (pa_cons (pv 0) (pa_cons (pe_op (kAdd K) pe_int (pv 6)) pa_nil))) (pa_cons (pe_lc (own := [("k", 12)]) rfl sc_law_tables.nd (pi_range1 (by rfl) gm.range (pa_cons (pe_op (kAdd K) (pv 2) pe_int) pa_nil)) (blkOk_by (N := N_law_tables) (sc := defScope s_law_tables) (by decide +kernel)) (fun _ _ _ _ _ => (gn 12 sc_law_tables.nd)) (fun _ _ _ _ _ => pts_nil) (fun _ _ _ _ _ => pe_int)) pa_nil)))) (pss_cons (sv 8 sc_law_tables.nd (pe_op (kAdd K) pe_int (pe_op opMod (ct cInt gm.int (pa_cons (ix K (pv 7) pe_int) pa_nil)) (pv 2)))) (pss_cons (sv 9 sc_law_tables.nd (pe_lc (own := [("w", 11)]) rfl sc_law_tables.nd (pi_range1 (by rfl) gm.range (pa_cons (pv 2) pa_nil)) (blkOk_by (N := N_law_tables) (sc := defScope s_law_tables) (by decide +kernel)) (fun _ _ _ _ _ => (gn 11 sc_law_tables.nd)) (fun _ _ _ _ _ => pts_nil) (fun _ _ _ _ _ => (pe_op opMod (ct cInt gm.int (pa_cons (pe_op (kAdd K) (pe_op opMod (ct cInt gm.int (pa_cons (ix K (pv 7) (pe_op (kAdd K) pe_int (pv 11))) pa_nil)) (pv 8)) (ix K (pv 7) pe_int)) pa_nil)) pe_int)))) (pss_cons (sv 10 sc_law_tables.nd (pe_g G_law_weights hr.le pass0 (pa_cons (pe_g G_law_cell hr.le pass0 (pa_cons (pv 0) (pa_cons (pe_op (kAdd K) pe_int (pv 6)) pa_nil))) (pa_cons (pv 2) (pa_cons (ct cInt gm.int (pa_cons (pe_cmpR opGt (ix K (pv 1) pe_int) pe_int (nomark _)) pa_nil)) (pa_cons (ix K (pv 1) pe_int) pa_nil)))))) (pss_cons (ps_for PassesOwn.never rfl (pi_range1 (by rfl) gm.range (pa_cons (pv 2) pa_nil)) (gn 11 sc_law_tables.nd) (pss_one (ps_if (pt_cmpR (kEq K hr.units) (cb (kSum K rfl) gm.sum (pa_cons (pe_lc (own := [("v", 13)]) rfl sc_law_tables.nd (pi_range1 (by rfl) gm.range (pa_cons (pv 2) pa_nil)) (blkOk_by (N := N_law_tables) (sc := defScope s_law_tables) (by decide +kernel)) (fun _ _ _ _ _ => (gn 13 sc_law_tables.nd)) (fun _ _ _ _ _ => (pts_one (pt_cmpR (kEq K hr.units) (ix K (pv 9) (pv 13)) (ix K (pv 9) (pv 11)) (nomark _)))) (fun _ _ _ _ _ => (ix K (pv 10) (pv 13)))) pa_nil)) pe_int (nomark _)) (pss_one (ps_asg pe_int (pg_sub (pv 10) (pv 11) set_list))) pss_nil))) (pss_cons (ps_expr (ml_append K (pv 4) (pa_cons (pv 9) pa_nil))) (pss_one (ps_expr (ml_append K (pv 5) (pa_cons (pv 10) pa_nil)))))))))))
    (pss_one (ps_ret (pe_lst (pa_cons (pv 4) (pa_cons (pv 5) pa_nil)))))))))))), fun ds R Z p => ?_⟩
  obtain ⟨ns, rfl, p⟩ := p
  refine ws_to (ρ' := [.im (.scr ns), .no, .no, .no, .no, .no, .no, .no, .no, .no, .no, .no, .no, .no]) rfl ?_
  walk_at "go"
  refine wq_asg (d := intsD (draws (cell ns 0) szH)) (ec_fz (ec_call (ea_cons (ev_call (by walk_at "ev") (pr_cell (by decide))) (ea_cons (by walk_at "ints") ea_nil)) (pr_draws (sizes := szH) (by decide) (by decide)))) ?_
  dsimp only [List.set]
  have hlen : (draws (cell ns 0) szH).length = 7 := draws_len _ _
  have hsh : ∀ i : Nat, i < 7 → atI ((draws (cell ns 0) szH).map D.int) (i : Int) = some (.int (shT ns i)) := fun i hi => at_ints (by omega)
  obtain ⟨w1, w2, p1, p2, we, pe⟩ := wp_ok ns
  refine wq_asg (d := .int (shT ns 0 + 1)) (ev_op (ev_op (ev_var rfl) ev_int (rv_ixxL (hsh 0 (by decide)))) ev_int rv_add) ?_
  dsimp only [List.set]
  refine wq_asg (d := .int (shT ns 1 + 1)) (ev_op (ev_op (ev_var rfl) ev_int (rv_ixxL (hsh 1 (by decide)))) ev_int rv_add) ?_
  dsimp only [List.set]
  refine ws_cut [.im (.scr ns), .im (intsD (draws (cell ns 0) szH)), .im (.int (wT ns : Int)), .im (.int (pT ns : Int)), .no, .no, .no, .no, .no, .no, .no, .no, .no, .no] ?_ ?_
  · refine ws_if (et_test (ev_op (ev_op (ev_var rfl) ev_int (rv_ixxL (hsh 2 (by decide)))) ev_int rv_eq)) (fun hb => ?_) (fun hb => ?_)
    · have hb : shT ns 2 = 0 := of_decide_eq_true hb
      rw [if_pos hb] at we pe
      refine wq_asg (d := .int (wT ns : Int)) ((ev_op (ev_op (ev_var rfl) ev_int (rv_ixxL (hsh 3 (by decide)))) ev_int rv_add).is (by rw [we])) ?_
      dsimp only [List.set]
      refine ws_asg (d := .int (pT ns : Int)) ((ev_op (ev_op (ev_var rfl) ev_int (rv_ixxL (hsh 4 (by decide)))) ev_int rv_add).is (by rw [pe])) rfl
    · have hb : ¬ shT ns 2 = 0 := of_decide_eq_false hb
      rw [if_neg hb] at we pe
      refine ws_next ?_
      rw [we, pe]
  refine wq_asgO (evo_lst ea_nil (by simp)) (by simp) ?_
  dsimp only [List.set]
  refine wq_asgO (evo_lst ea_nil (by simp)) (by simp) ?_
  dsimp only [List.set]
  refine wq_for (src_rng1 (n := (pT ns : Int)) (ea_cons (ev_var rfl) ea_nil) (by omega))
    (fun i ρ' => ∃ s6 s7 s8 s9 s10 s11 s12 s13, ρ' = [.im (.scr ns), .im (intsD (draws (cell ns 0) szH)), .im (.int (wT ns : Int)), .im (.int (pT ns : Int)), .ow (((List.range i).map (labT ns)).map intsD), .ow (((List.range i).map (rowT ns)).map intsD), s6, s7, s8, s9, s10, s11, s12, s13] ∧ isOw (some s11) = false ∧ isOw (some s12) = false ∧ isOw (some s13) = false) ⟨_, _, _, _, _, _, _, _, rfl, rfl, rfl, rfl⟩ ?_ ?_
  · rintro i d ρ' hd ⟨s6, s7, s8, s9, s10, s11, s12, s13, rfl, h11, h12, h13⟩
    obtain ⟨hi, rfl⟩ := rng_get hd
    refine ⟨_, gd_name, ?_⟩
    dsimp only [setD, List.set]
    have hi : i < pT ns := by omega
    have h12' : ∀ s ∈ sz12 (wT ns + 2), 0 < s ∧ s < 2 ^ 200 := fun s hs => by rw [sz12_mem hs]; decide
    refine wq_asg (d := intsD (dT ns i)) (ec_fz (ec_call (ea_cons (ev_call (ea_cons (ev_var rfl) (ea_cons (ev_op ev_int (ev_var rfl) rv_add) ea_nil)) (pr_cell (by omega))) (ea_cons ((ev_fz (evo_map (xs := List.range (wT ns + 2)) (enc := fun k : Nat => D.int (0 + (k : Int))) (fun _ => D.int 12) ((src_rng1 (n := (wT ns : Int) + 2) (ea_cons (ev_op (ev_var rfl) ev_int rv_add) ea_nil) (by omega))) ?_ (fun v hv => ⟨_, gd_name, by simp, ev_int⟩) (by rw [List.length_range]; omega))).is ?_) ea_nil)) (pr_draws (sizes := sz12 (wT ns + 2)) h12' (by rw [sz12_len]; omega)))) ?_
    · intro j hj
      have hj : j = 12 := by simpa using hj
      rw [hj]
      exact h12
    · rw [sz12, List.map_map]
      rfl
    dsimp only [List.set]
    have hdl : (dT ns i).length = wT ns + 2 := by rw [dT, draws_len, sz12_len]
    have hdb : ∀ j, j < wT ns + 2 → 0 ≤ (dT ns i).getD j 0 ∧ (dT ns i).getD j 0 < 12 := fun j hj => by
      have := draws_bd (cell ns (1 + (0 + (i : Int)))) (sz12 (wT ns + 2)) j (fun s hs => (h12' s hs).1) (by rw [sz12_len]; exact hj)
      rw [sz12_get hj] at this
      exact this
    have hda : ∀ j : Nat, j < wT ns + 2 → atI ((dT ns i).map D.int) (j : Int) = some (.int ((dT ns i).getD j 0)) := fun j hj => at_ints (by omega)
    have hm1 : 1 ≤ menuT ns i := by
      have := Int.emod_nonneg ((dT ns i).getD 0 0) (b := (wT ns : Int)) (by omega)
      unfold menuT
      omega
    refine wq_asg (d := .int (menuT ns i)) (ev_op ev_int (ev_op (ev_cb (ea_cons (ev_op (ev_var rfl) ev_int (rv_ixxL (hda 0 (by omega)))) ea_nil) rc_toint) (ev_var rfl) (rv_mod (by omega))) rv_add) ?_
    dsimp only [List.set]
    refine wq_asg (d := intsD (labT ns i)) ((ev_fz (evo_map (xs := List.range (wT ns)) (enc := fun k : Nat => D.int (0 + (k : Int))) (fun v => D.int (((dT ns i).getD (2 + v) 0 % menuT ns i + (dT ns i).getD 1 0) % 12)) (src_rng1 (n := (wT ns : Int)) (ea_cons (ev_var rfl) ea_nil) (by omega)) ?_ (fun v hv => ⟨_, gd_name, by simp, ?_⟩) (by rw [List.length_range]; omega))).is ?_) ?_
    · intro j hj
      have hj : j = 11 := by simpa using hj
      rw [hj]
      exact h11
    · dsimp only [setD, wipeD, List.set, List.map]
      have hv := List.mem_range.mp hv
      have e1 : (2 : Int) + (0 + (v : Int)) = ((2 + v : Nat) : Int) := by omega
      have g1 : atI ((dT ns i).map D.int) (2 + (0 + (v : Int))) = some (.int ((dT ns i).getD (2 + v) 0)) := by rw [e1]; exact hda _ (by omega)
      exact ev_op (ev_cb (ea_cons (ev_op (ev_op (ev_cb (ea_cons (ev_op (ev_var rfl) (ev_op ev_int (ev_var rfl) rv_add) (rv_ixxL g1)) ea_nil) rc_toint) (ev_var rfl) (rv_mod (by omega))) (ev_op (ev_var rfl) ev_int (rv_ixxL (hda 1 (by omega)))) rv_add) ea_nil) rc_toint) ev_int (rv_mod (by decide))
    · show D.lst _ = D.lst _
      rw [labT, List.map_map]
      rfl
    dsimp only [List.set]
    have hle : (if 0 < shT ns 5 then (1 : Int) else 0) = 0 ∨ (if 0 < shT ns 5 then (1 : Int) else 0) = 1 := by split <;> simp
    refine wq_asgO (l := (rowT0 ns i).map .int) (ev_callO (ea_cons (ev_call (ea_cons (ev_var rfl) (ea_cons (ev_op ev_int (ev_var rfl) rv_add) ea_nil)) (pr_cell (by omega))) (ea_cons (ev_var rfl) (ea_cons ((ev_cb (ea_cons (ev_op (ev_op (ev_var rfl) ev_int (rv_ixxL (hsh 5 (by decide)))) ev_int rv_gt) ea_nil) rc_tointB).is (by simp)) (ea_cons (ev_op (ev_var rfl) ev_int (rv_ixxL (hsh 6 (by decide)))) ea_nil)))) (pr_weights (least := if 0 < shT ns 5 then 1 else 0) (by omega) hle)) (by simp) ?_
    dsimp only [List.set]
    have hrl : (rowT0 ns i).length = wT ns := (weights_ok hle).1
    have hlabl := labT_len ns i
    have hlab : ∀ v, v < wT ns → atI ((labT ns i).map D.int) (v : Int) = some (.int ((labT ns i).getD v 0)) := fun v hv => at_ints (by omega)
    refine wq_for (src_rng1 (n := (wT ns : Int)) (ea_cons (ev_var rfl) ea_nil) (by omega))
      (fun k ρ' => ∃ s11 s12 s13, ρ' = [.im (.scr ns), .im (intsD (draws (cell ns 0) szH)), .im (.int (wT ns : Int)), .im (.int (pT ns : Int)), .ow (((List.range i).map (labT ns)).map intsD), .ow (((List.range i).map (rowT ns)).map intsD), .im (.int (0 + (i : Int))), .im (intsD (dT ns i)), .im (.int (menuT ns i)), .im (intsD (labT ns i)), .ow ((fixR (labT ns i) (wT ns) k (rowT0 ns i)).map .int), s11, s12, s13] ∧ isOw (some s11) = false ∧ isOw (some s12) = false ∧ isOw (some s13) = false) ⟨_, _, _, rfl, h11, h12, h13⟩ ?_ ?_
    · rintro k d ρ' hd ⟨s11, s12, s13, rfl, h11, h12, h13⟩
      obtain ⟨hk, rfl⟩ := rng_get hd
      refine ⟨_, gd_name, ?_⟩
      dsimp only [setD, List.set]
      have hk : k < wT ns := by omega
      have hfl : (fixR (labT ns i) (wT ns) k (rowT0 ns i)).length = wT ns := by rw [fixR_len, hrl]
      have e00 : (0 : Int) + (k : Int) = ((k : Nat) : Int) := Int.zero_add _
      have efix : fixR (labT ns i) (wT ns) (k + 1) (rowT0 ns i) = if sumAt (labT ns i) (fixR (labT ns i) (wT ns) k (rowT0 ns i)) (wT ns) k = 0 then (fixR (labT ns i) (wT ns) k (rowT0 ns i)).set k 1 else fixR (labT ns i) (wT ns) k (rowT0 ns i) := rfl
      rw [efix]
      generalize fixR (labT ns i) (wT ns) k (rowT0 ns i) = r at hfl
      refine ws_if (b := decide (sumAt (labT ns i) r (wT ns) k = 0)) (et_test (ev_op (x := .int (sumAt (labT ns i) r (wT ns) k)) (ev_cb (ea_cons ((ev_fz (evo_lc (xs := List.range (wT ns)) (enc := fun k : Nat => D.int (0 + (k : Int))) (fun v => decide ((labT ns i).getD v 0 = (labT ns i).getD k 0)) (fun v => D.int (r.getD v 0)) (src_rng1 (n := (wT ns : Int)) (ea_cons (ev_var rfl) ea_nil) (by omega)) ?_ (fun v hv => ⟨_, gd_name, by simp, ?_, fun _ => ?_⟩) (by rw [List.length_range]; omega))).is ?_) ea_nil) (rc_sum (ns := ((List.range (wT ns)).filter fun v => decide ((labT ns i).getD v 0 = (labT ns i).getD k 0)).map fun v => r.getD v 0))) ev_int rv_eq)) (fun hb => ?_) (fun hb => ?_)
      · intro j hj
        have hj : j = 13 := by simpa using hj
        rw [hj]
        exact h13
      · dsimp only [setD, wipeD, List.set, List.map]
        have hv := List.mem_range.mp hv
        have e1 : (0 : Int) + (v : Int) = ((v : Nat) : Int) := Int.zero_add _
        exact et_test (ev_op (ev_op (ev_var rfl) (ev_var rfl) (rv_ixxL (by rw [e1]; exact hlab v hv))) (ev_op (ev_var rfl) (ev_var rfl) (rv_ixxL (by rw [e00]; exact hlab k hk))) rv_eq)
      · dsimp only [setD, wipeD, List.set, List.map]
        have hv := List.mem_range.mp hv
        have e1 : (0 : Int) + (v : Int) = ((v : Nat) : Int) := Int.zero_add _
        exact ev_ixO (i := 10) rfl (ev_var rfl) (by rw [e1]; exact at_ints (by omega))
      · rw [List.map_map]
        rfl
      · have hb : sumAt (labT ns i) r (wT ns) k = 0 := of_decide_eq_true hb
        rw [if_pos hb]
        refine ws_setL (i := 10) (l := r.map .int) (j := k) rfl ev_int (ev_var rfl) ?_ ?_
        · unfold ixN
          rw [List.length_map, if_pos (by omega), if_pos (by omega), e00]
          rfl
        · dsimp only [List.set]
          refine ⟨.im (.int (0 + (k : Int))), s12, s13, ?_, rfl, h12, h13⟩
          rw [List.map_set]
      · have hb : ¬ sumAt (labT ns i) r (wT ns) k = 0 := of_decide_eq_false hb
        rw [if_neg hb]
        exact ws_next ⟨.im (.int (0 + (k : Int))), s12, s13, rfl, rfl, h12, h13⟩
    · rintro ρ' ⟨s11, s12, s13, rfl, h11, h12, h13⟩
      rw [rng_len, Int.toNat_natCast]
      refine wq_app (i := 4) rfl (ev_var rfl) (by rw [List.length_map, List.length_map, List.length_range]; omega) ?_
      dsimp only [List.set]
      refine ws_fz (i := 10) rfl ?_
      dsimp only [List.set]
      refine ws_app (i := 5) rfl (ev_var rfl) (by rw [List.length_map, List.length_map, List.length_range]; omega) ?_
      dsimp only [List.set]
      refine ⟨.im (.int (0 + (i : Int))), .im (intsD (dT ns i)), .im (.int (menuT ns i)), .im (intsD (labT ns i)), .im (intsD (rowT ns i)), s11, s12, s13, ?_, h11, h12, h13⟩
      rw [List.range_succ, List.map_append, List.map_append, List.map_append, List.map_append]
      rfl
  · rintro ρ' ⟨s6, s7, s8, s9, s10, s11, s12, s13, rfl, _⟩
    rw [rng_len, Int.toNat_natCast]
    refine ws_fz (i := 4) rfl ?_
    dsimp only [List.set]
    refine ws_fz (i := 5) rfl ?_
    dsimp only [List.set]
    exact ws_ret (ev_fz (evo_lst (ea_cons (ev_var rfl) (ea_cons (ev_var rfl) ea_nil)) (by simp))) p
theorem pr_tables {ns : List Int} : P_tables [.scr ns] (fun s => s = .im (.lst [rowsD (sightsT ns), rowsD (oddsT ns)])) (fun _ => False) := ⟨ns, rfl, rfl⟩
end
end FS
set_option Elab.async false
set_option linter.all false
set_option maxRecDepth 100000
set_option maxHeartbeats 4000000
set_option exponentiation.threshold 20000
namespace FS
open PySem PySem.Spec PyProof.Rows L2

local macro_rules | `(tactic| walk_at "side") => `(tactic| first | assumption | omega | decide)
local macro_rules | `(tactic| walk_at "hv") => `(tactic| (intro i hi; simp at hi; first | (subst hi; rfl) | (rcases hi with rfl | rfl <;> rfl) | (rcases hi with rfl | rfl | rfl <;> rfl)))
local macro_rules | `(tactic| walk_at "pr") => `(tactic| fail "no promise")
local macro_rules | `(tactic| walk_at "rv") => `(tactic| first
  | (with_reducible exact rv_add) | (with_reducible exact rv_sub) | (with_reducible exact rv_lt) | (with_reducible exact rv_le) | (with_reducible exact rv_gt) | (with_reducible exact rv_ge) | (with_reducible exact rv_eq) | (with_reducible exact rv_ne)
  | (with_reducible exact rv_is) | (with_reducible exact rv_isnot)
  | ((with_reducible apply rv_div); first | assumption | exact cdiv_small (by omega) (by omega))
  | ((with_reducible apply rv_mod); first | assumption | omega)
  | ((with_reducible apply rv_mul); first | assumption | exact cmul_left (by omega) | exact cmul_right (by omega))
  | ((with_reducible apply rv_mulW); assumption)
  | (with_reducible exact rv_p8) | (with_reducible exact rv_p18) | (with_reducible exact rv_p40) | (with_reducible exact rv_p20) | (with_reducible exact rv_p6) | (with_reducible exact rv_p7) | (with_reducible exact rv_p12) | (with_reducible exact rv_p25) | (with_reducible exact rv_p30) | (with_reducible exact rv_p39) | (with_reducible exact rv_p60)
  | ((with_reducible apply rv_ixxL); first | assumption | exact at_getD (by omega) (by omega) | exact at_nat rfl)
  | ((with_reducible apply rv_ixxT); first | assumption | exact at_getD (by omega) (by omega) | exact at_nat rfl)
  | ((with_reducible apply rv_ixxC); first | assumption)
  | (with_reducible exact ru_neg))
local macro_rules | `(tactic| walk_at "isi") => `(tactic| first | (with_reducible exact isi_non_int) | (with_reducible exact isi_non_bool) | (with_reducible exact isi_non_str) | (with_reducible exact isi_non_tuple) | (with_reducible exact isi_non_list) | (with_reducible exact isi_bl_int) | (with_reducible exact isi_bl_bool) | (with_reducible exact isi_bl_str) | (with_reducible exact isi_bl_tuple) | (with_reducible exact isi_bl_list) | (with_reducible exact isi_int_int) | (with_reducible exact isi_int_bool) | (with_reducible exact isi_int_str) | (with_reducible exact isi_int_tuple) | (with_reducible exact isi_int_list) | (with_reducible exact isi_str_int) | (with_reducible exact isi_str_bool) | (with_reducible exact isi_str_str) | (with_reducible exact isi_str_tuple) | (with_reducible exact isi_str_list) | (with_reducible exact isi_tup_int) | (with_reducible exact isi_tup_bool) | (with_reducible exact isi_tup_str) | (with_reducible exact isi_tup_tuple) | (with_reducible exact isi_tup_list) | (with_reducible exact isi_lst_int) | (with_reducible exact isi_lst_bool) | (with_reducible exact isi_lst_str) | (with_reducible exact isi_lst_tuple) | (with_reducible exact isi_lst_list))
local macro_rules | `(tactic| walk_at "rc") => `(tactic| first
  | walk_at "isi"
  | (with_reducible exact rc_len) | (with_reducible exact rc_lent) | (with_reducible exact rc_lenc) | (with_reducible exact rc_toint) | (with_reducible exact rc_absv) | (with_reducible exact rc_gcd)
  | ((with_reducible apply rc_lcm); assumption)
  | ((with_reducible apply rc_isi); (focus rfl); assumption)
  | (with_reducible exact rco_list) | (with_reducible exact rco_listT))
local macro_rules | `(tactic| walk_at "ev") => `(tactic| first
  | (with_reducible exact ev_int) | (with_reducible exact ev_bl) | (with_reducible exact ev_non) | (with_reducible exact ev_str) | (with_reducible exact ev_ty)
  | ((with_reducible apply ev_var); rfl)
  | ((with_reducible apply ev_lenOw); rfl)
  | ((with_reducible apply ev_op) <;> first | walk_at "ev" | walk_at "rv")
  | ((with_reducible apply ev_un) <;> first | walk_at "ev" | walk_at "rv")
  | ((with_reducible apply ev_cb) <;> first | walk_at "ev" | walk_at "rc")
  | ((with_reducible apply ev_call) <;> first | walk_at "ev" | walk_at "pr")
  | ((with_reducible apply ev_tup) <;> first | walk_at "ev" | (simp; done))
  | (with_reducible exact ea_nil)
  | ((with_reducible apply ea_cons) <;> walk_at "ev")
  | ((with_reducible apply et_test); walk_at "ev")
  | ((with_reducible apply et_B); walk_at "ev")
  | ((with_reducible apply et_not); walk_at "ev")
  | ((with_reducible apply et_or); (walk_at "ev"); intro _; walk_at "ev")
  | ((with_reducible apply et_and); (walk_at "ev"); intro _; walk_at "ev")
  | ((with_reducible apply ev_orV); (walk_at "ev"); intro _; walk_at "ev")
  | ((with_reducible apply ev_andV); (walk_at "ev"); intro _; walk_at "ev")
  | ((with_reducible apply ev_notV); walk_at "ev")
  | (with_reducible exact et_yes)
  | ((with_reducible apply evo_lst) <;> first | walk_at "ev" | (simp; done))
  | ((with_reducible apply ev_opO) <;> first | walk_at "ev" | ((with_reducible apply rvo_add); simp; omega))
  | ((with_reducible apply ev_cbO) <;> first | walk_at "ev" | walk_at "rc")
  | ((with_reducible apply ev_callO) <;> first | walk_at "ev" | walk_at "pr")
  | ((with_reducible apply ec_call) <;> first | walk_at "ev" | walk_at "pr")
  | ((with_reducible apply ec_tup) <;> first | walk_at "ev" | (simp; done))
  | ((with_reducible apply ec_lst) <;> first | walk_at "ev" | (simp; done))
  | (with_reducible exact eca_nil)
  | ((with_reducible apply eca_cons) <;> walk_at "ev")
  | ((with_reducible apply ec_sc); (walk_at "ev"); rfl)
  | ((with_reducible apply ec_ow); (walk_at "ev"); first | assumption | (intro d hd; simp at hd; done))
  | ((with_reducible apply ec_fz); walk_at "ev")
  | ((with_reducible apply ev_fz); walk_at "ev"))

local macro_rules | `(tactic| walk_at "im") => `(tactic| ((with_reducible apply wq_asg); walk_at "ev"; (try dsimp only [List.set, Int.reduceToNat])))
local macro_rules | `(tactic| walk_at "ow") => `(tactic| ((with_reducible apply wq_asgO); walk_at "ev"; (focus (first | decide | (simp; done))); (try dsimp only [List.set, Int.reduceToNat])))
local macro_rules | `(tactic| walk_at "cl") => `(tactic| ((with_reducible apply wq_asgC); walk_at "ev"; (focus (first | decide | (simp; done))); (try dsimp only [List.set, Int.reduceToNat])))
local macro_rules | `(tactic| walk_at "if") => `(tactic| ((first | (with_reducible apply wq_when) | (with_reducible apply wq_if) | (with_reducible apply ws_if)); walk_at "ev"; (try dsimp only [Int.reduceToNat])))
local macro_rules | `(tactic| walk_at "ret") => `(tactic| ((with_reducible apply ws_ret); walk_at "ev"))
local macro_rules | `(tactic| walk_at "go") => `(tactic| (try dsimp only [cxOf, L2.Cx.nox, L2.Cx.wish, L2.Cx.blk]))
local macro_rules | `(tactic| walk_at "ints") => `(tactic| (refine ev_fz (evo_lst ?_ (by decide)); repeat (first | exact ea_nil | refine ea_cons ev_int ?_)))

theorem py_ints : ∀ l : List Int, D.pyL (l.map D.int) = l.map PyData.int
  | [] => rfl
  | x :: l => by rw [List.map_cons, List.map_cons, D.pyL, py_ints l] <;> rfl
theorem eqv_ints : ∀ a b : List Int, PyData.eqvAll (a.map PyData.int) (b.map PyData.int) = decide (a = b)
  | [], [] => rfl
  | [], _ :: _ => rfl
  | _ :: _, [] => rfl
  | x :: a, y :: b => by
    rw [List.map_cons, List.map_cons, PyData.eqvAll, eqv_ints a b]
    show ((x == y) && decide (a = b)) = decide (x :: a = y :: b)
    by_cases h : x = y
    · subst h
      simp
    · have : (x == y) = false := by simpa using h
      rw [this]
      simp [h]
theorem flat_intsD (l : List Int) : D.flat 1 (intsD l) = true := by
  unfold intsD
  rw [D.flat, flatL_iff]
  intro d hd
  obtain ⟨x, _, rfl⟩ := List.mem_map.mp hd
  rfl
theorem eqv_intsD (a b : List Int) : PyData.eqv (intsD a).py (intsD b).py = decide (a = b) := by
  show PyData.eqv (.list (D.pyL (a.map D.int))) (.list (D.pyL (b.map D.int))) = _
  rw [py_ints, py_ints, PyData.eqv, eqv_ints]
theorem rv_eqInts {K : PySem.W.Frag} {a b : List Int} : RvD K (rEqA K) (intsD a) (intsD b) (.bl (decide (a = b))) := by
  have h := rv_eqD (K := K) (flat_intsD a) (flat_intsD b) (by decide)
  rw [eqv_intsD] at h
  exact h
theorem rv_neInts {K : PySem.W.Frag} {a b : List Int} : RvD K (rNeA K) (intsD a) (intsD b) (.bl (!decide (a = b))) := by
  have h := rv_neD (K := K) (flat_intsD a) (flat_intsD b) (by decide)
  rw [eqv_intsD] at h
  exact h
theorem nats_inj {a b : List Nat} : nats a = nats b ↔ a = b := by
  unfold nats
  refine ⟨fun h => ?_, fun h => by rw [h]⟩
  have : (a.map fun n : Nat => (n : Int)).map Int.toNat = (b.map fun n : Nat => (n : Int)).map Int.toNat := by rw [h]
  rw [List.map_map, List.map_map] at this
  have e : (Int.toNat ∘ fun n : Nat => (n : Int)) = id := by
    funext n
    exact Int.toNat_natCast n
  rw [e, List.map_id, List.map_id] at this
  exact this

/-! ### the law's own belief -/
def insideN (row : List Int) (n v : Nat) : List Nat := (List.range n).filter fun u => decide (row.getD u 0 = row.getD v 0)
def believedN (row ws : List Int) (lot : List Nat) (ch : Num) : List Nat := (List.range row.length).filter fun v => believeC ws lot ch (insideN row row.length v)
section
variable {P : Program} {w : World} {K : PySem.W.Frag} {mg : Str → Option Value} {base : Heap} {C_Book : Addr}
def tabD (sights odds : List (List Int)) : D := .lst [rowsD sights, rowsD odds]
structure PerT (sights odds : List (List Int)) (q : Nat) (row ws : List Int) : Prop where
  s : sights[q]? = some row
  o : odds[q]? = some ws
  l : row.length = ws.length
  n1 : 1 ≤ row.length
  n2 : row.length ≤ 12
  wb : ∀ x ∈ ws, 0 ≤ x ∧ x ≤ 10 ^ 40
def P_believed : PrD := fun ds R _ => ∃ (sights odds : List (List Int)) (q : Nat) (row ws : List Int) (lot : List Nat) (ch : Num), ds = [tabD sights odds, .int (q : Int), natsD lot, numD ch] ∧ PerT sights odds q row ws ∧ ChOk ch ∧ R (.ow ((nats (believedN row ws lot ch)).map .int))
theorem inside_lt {row : List Int} {n v u : Nat} (h : u ∈ insideN row n v) : u < n := List.mem_range.mp (List.mem_filter.mp h).1
theorem inside_len (row : List Int) (n v : Nat) : (insideN row n v).length ≤ n := by
  have := List.length_filter_le (fun u => decide (row.getD u 0 = row.getD v 0)) (List.range n)
  rwa [List.length_range] at this
theorem tot_bd {ws : List Int} {c : List Nat} (hw : ∀ v ∈ c, 0 ≤ ws.getD v 0 ∧ ws.getD v 0 ≤ 10 ^ 40) (hl : c.length ≤ 12) : 0 ≤ totC ws c ∧ (totC ws c).natAbs < 2 ^ 150 := by
  have hB : (10 : Int) ^ 40 = 10000000000000000000000000000000000000000 := by decide
  have h150 : (2 : Nat) ^ 150 = 1427247692705959881058285969449495136382746624 := by decide
  have := sum_bd (10 ^ 40) (c.map fun v => ws.getD v 0) fun x hx => by
    obtain ⟨v, hv, rfl⟩ := List.mem_map.mp hx
    exact hw v hv
  rw [List.length_map, hB] at this
  rw [h150]
  unfold totC
  have h12 : ((c.length : Nat) : Int) ≤ 12 := by omega
  omega
theorem ok_believed (F : Df K mg "_law_believed" s_law_believed ["tables", "person", "lot", "chance"]) (gm : Gm K mg C_Book) : FnG P w K mg base CX0 1 "_law_believed" ["tables", "person", "lot", "chance"] (spD K P_believed) := by
  refine F.ok (k := 0) sc_law_believed (fun ds R Z ⟨a, b, c, d, e, f, g, h, _⟩ => by rw [h] <;> rfl) (fun f cdv A outer s H E hr => ?_)
  refine ⟨_,
    (pss_cons (sv 4 sc_law_believed.nd (ix K (ix K (pv 0) pe_int) (pv 1)))
    (pss_cons (sv 5 sc_law_believed.nd (ix K (ix K (pv 0) pe_int) (pv 1)))
    (pss_cons (sv 6 sc_law_believed.nd (pe_lst pa_nil))
    (pss_cons (ps_for PassesOwn.never rfl (pi_range1 (by rfl) gm.range (pa_cons (cb (kLen K) gm.len (pa_cons (pv 4) pa_nil)) pa_nil)) (gn 7 sc_law_believed.nd) (pss_cons (ps_setLc (i := 8) (own := [("v", 10)]) rfl sc_law_believed.nd rfl rfl (sw_true rfl rfl rfl (by decide +kernel)) (pi_range1 (by rfl) gm.range (pa_cons (cb (kLen K) gm.len (pa_cons (pv 4) pa_nil)) pa_nil)) (blkOk_by (N := N_law_believed) (sc := defScope s_law_believed) (by decide +kernel)) (fun _ _ _ _ _ => (gn 10 sc_law_believed.nd)) (fun _ _ _ _ _ => (pts_one (pt_cmpR (kEq K hr.units) (ix K (pv 4) (pv 10)) (ix K (pv 4) (pv 7)) (nomark _)))) (fun _ _ _ _ _ => (pv 10))) (pss_cons (sv 9 sc_law_believed.nd (cb (kSum K rfl) gm.sum (pa_cons (pe_lc (own := [("v", 10)]) rfl sc_law_believed.nd (pl K (pv 8)) (blkOk_by (N := N_law_believed) (sc := defScope s_law_believed) (by decide +kernel)) (fun _ _ _ _ _ => (gn 10 sc_law_believed.nd)) (fun _ _ _ _ _ => (pts_one (pt_cmpR (kIn K) (pv 10) (pv 2) (by rfl)))) (fun _ _ _ _ _ => (ix K (pv 5) (pv 10)))) pa_nil))) (pss_one (ps_if (pt_cmpR opGe (pe_op opMul (pv 9) (ix K (pv 3) pe_int)) (pe_op opMul (ix K (pv 3) pe_int) (cb (kSum K rfl) gm.sum (pa_cons (pe_lc (own := [("v", 10)]) rfl sc_law_believed.nd (pl K (pv 8)) (blkOk_by (N := N_law_believed) (sc := defScope s_law_believed) (by decide +kernel)) (fun _ _ _ _ _ => (gn 10 sc_law_believed.nd)) (fun _ _ _ _ _ => pts_nil) (fun _ _ _ _ _ => (ix K (pv 5) (pv 10)))) pa_nil))) (nomark _)) (pss_one (ps_expr (ml_append K (pv 6) (pa_cons (pv 7) pa_nil)))) pss_nil)))))
    (pss_one (ps_ret (pv 6))))))), fun ds R Z p => ?_⟩
  obtain ⟨sights, odds, q, row, ws, lot, ch, rfl, g, hch, p⟩ := p
  refine ws_to (ρ' := [.im (tabD sights odds), .im (.int (q : Int)), .im (natsD lot), .im (numD ch), .no, .no, .no, .no, .no, .no, .no]) rfl ?_
  walk_at "go"
  have n2 := g.n2
  have gl := g.l
  refine wq_asg (d := intsD row) (ev_op (ev_op (ev_var rfl) ev_int (rv_ixxL (at_nat (j := 0) rfl))) (ev_var rfl) (rv_ixxL (at_map g.s))) ?_
  dsimp only [List.set]
  refine wq_asg (d := intsD ws) (ev_op (ev_op (ev_var rfl) ev_int (rv_ixxL (at_nat (j := 1) rfl))) (ev_var rfl) (rv_ixxL (at_map g.o))) ?_
  dsimp only [List.set]
  refine wq_asgO (evo_lst ea_nil (by simp)) (by simp) ?_
  dsimp only [List.set]
  have hrl : ((row.map D.int).length : Int) = (row.length : Int) := by rw [List.length_map]
  have hra : ∀ v, v < row.length → atI (row.map D.int) (v : Int) = some (.int (row.getD v 0)) := fun v hv => at_ints hv
  have hwa : ∀ v, v < row.length → atI (ws.map D.int) (v : Int) = some (.int (ws.getD v 0)) := fun v hv => at_ints (by omega)
  have hwt : ∀ v, v < row.length → 0 ≤ ws.getD v 0 ∧ ws.getD v 0 ≤ 10 ^ 40 := fun v hv => by
    rw [List.getD_eq_getElem?_getD, List.getElem?_eq_getElem (by omega)]
    exact g.wb _ (List.getElem_mem _)
  refine wq_for (src_rng1 (n := (row.length : Int)) (ea_cons ((ev_cb (ea_cons (ev_var rfl) ea_nil) rc_len).is (by rw [hrl])) ea_nil) (by omega))
    (fun i ρ' => ∃ s7 s8 s9 s10, ρ' = [.im (tabD sights odds), .im (.int (q : Int)), .im (natsD lot), .im (numD ch), .im (intsD row), .im (intsD ws), .ow ((nats ((List.range i).filter fun v => believeC ws lot ch (insideN row row.length v))).map .int), s7, s8, s9, s10] ∧ isOw (some s10) = false) ⟨_, _, _, _, rfl, rfl⟩ ?_ ?_
  · rintro i d ρ' hd ⟨s7, s8, s9, s10, rfl, h10⟩
    obtain ⟨hi, rfl⟩ := rng_get hd
    refine ⟨_, gd_name, ?_⟩
    dsimp only [setD, List.set]
    have hi : i < row.length := by omega
    have e00 : (0 : Int) + (i : Int) = ((i : Nat) : Int) := Int.zero_add _
    refine wq_asg (d := natsD (insideN row row.length i)) ((ev_fz (evo_lc (xs := List.range row.length) (enc := fun k : Nat => D.int (0 + (k : Int))) (fun u => decide (row.getD u 0 = row.getD i 0)) (fun u => D.int (0 + (u : Int))) (src_rng1 (n := (row.length : Int)) (ea_cons ((ev_cb (ea_cons (ev_var rfl) ea_nil) rc_len).is (by rw [hrl])) ea_nil) (by omega)) ?_ (fun u hu => ⟨_, gd_name, by simp, ?_, fun _ => ?_⟩) (by rw [List.length_range]; omega))).is ?_) ?_
    · intro j hj
      have hj : j = 10 := by simpa using hj
      rw [hj]
      exact h10
    · dsimp only [setD, wipeD, List.set, List.map]
      have hu := List.mem_range.mp hu
      have e1 : (0 : Int) + (u : Int) = ((u : Nat) : Int) := Int.zero_add _
      exact et_test (ev_op (ev_op (ev_var rfl) (ev_var rfl) (rv_ixxL (by rw [e1]; exact hra u hu))) (ev_op (ev_var rfl) (ev_var rfl) (rv_ixxL (by rw [e00]; exact hra i hi))) rv_eq)
    · dsimp only [setD, wipeD, List.set, List.map]
      exact ev_var rfl
    · show D.lst _ = D.lst _
      unfold insideN
      congr 1
      refine List.map_congr_left fun u _ => ?_
      rw [Int.zero_add]
    dsimp only [List.set]
    have hin : ∀ v ∈ insideN row row.length i, v < row.length := fun v hv => inside_lt hv
    have hil := inside_len row row.length i
    have hlotD : ∀ ρ : Rho, ρ[2]? = some (.im (natsD lot)) → EvD K (tVar 2) ρ (.lst ((nats lot).map .int)) := fun ρ e => ev_var (by rw [e, natsD_eq] <;> rfl)
    have bt := tot_bd (c := insideN row row.length i) (fun v hv => hwt v (hin v hv)) (by omega)
    have bh := tot_bd (c := (insideN row row.length i).filter fun w => decide (w ∈ lot)) (fun v hv => hwt v (hin v (List.mem_filter.mp hv).1)) (by have := List.length_filter_le (fun w => decide (w ∈ lot)) (insideN row row.length i); omega)
    have ef : ((List.range (i + 1)).filter fun v => believeC ws lot ch (insideN row row.length v)) = ((List.range i).filter fun v => believeC ws lot ch (insideN row row.length v)) ++ if believeC ws lot ch (insideN row row.length i) then [i] else [] := filter_range_succ
    rw [ef]
    have hkl : ((List.range i).filter fun v => believeC ws lot ch (insideN row row.length v)).length ≤ i := by
      have := List.length_filter_le (fun v => believeC ws lot ch (insideN row row.length v)) (List.range i)
      rwa [List.length_range] at this
    generalize ((List.range i).filter fun v => believeC ws lot ch (insideN row row.length v)) = t at hkl
    generalize insideN row row.length i = c at hin hil bt bh
    refine wq_asg (d := .int (heldC ws lot c)) (ev_cb (ea_cons ((ev_fz (evo_lc (xs := c) (enc := fun n : Nat => .int (n : Int)) (fun v => decide (v ∈ lot)) (fun v => D.int (ws.getD v 0)) (src_list (ev_var rfl)) ?_ (fun v hv => ⟨_, gd_name, by simp, ?_, fun _ => ?_⟩) (by omega))).is ?_) ea_nil) (rc_sum (ns := (c.filter fun w => decide (w ∈ lot)).map fun v => ws.getD v 0))) ?_
    · intro j hj
      have hj : j = 10 := by simpa using hj
      rw [hj]
      exact h10
    · dsimp only [setD, wipeD, List.set, List.map]
      exact (et_test (ev_op (ev_var rfl) (hlotD _ rfl) rv_in)).is (decide_eq_decide.mpr mem_nats)
    · dsimp only [setD, wipeD, List.set, List.map]
      exact ev_op (ev_var rfl) (ev_var rfl) (rv_ixxL (hwa v (hin v hv)))
    · rw [List.map_map]
      rfl
    dsimp only [List.set]
    have m1 : CMulW (heldC ws lot c) ch.2 := wide_mul (a := 150) (b := 400) bh.2 (abs_lt (by have := hch.2.1; omega) hch.2.2) (by decide) (by decide) (by decide)
    have m2 : CMulW ch.1 (totC ws c) := wide_mul (a := 400) (b := 150) hch.1 bt.2 (by decide) (by decide) (by decide)
    refine ws_if (et_test (ev_op (ev_op (ev_var rfl) (ev_op (ev_var rfl) ev_int (rv_ixxT (at_nat (j := 1) rfl))) (rv_mulW m1)) (ev_op (ev_op (ev_var rfl) ev_int (rv_ixxT (at_nat (j := 0) rfl))) (ev_cb (z := .int (totC ws c)) (ea_cons ((ev_fz (evo_map (xs := c) (enc := fun n : Nat => .int (n : Int)) (fun v => D.int (ws.getD v 0)) (src_list (ev_var rfl)) ?_ (fun v hv => ⟨_, gd_name, by simp, ?_⟩) (by omega))).is ?_) ea_nil) (rc_sum (ns := c.map fun v => ws.getD v 0))) (rv_mulW m2)) rv_ge)) (fun hb => ?_) (fun hb => ?_)
    · intro j hj
      have hj : j = 10 := by simpa using hj
      rw [hj]
      exact h10
    · dsimp only [setD, wipeD, List.set, List.map]
      exact ev_op (ev_var rfl) (ev_var rfl) (rv_ixxL (hwa v (hin v hv)))
    · rw [List.map_map]
      rfl
    · have hb' : believeC ws lot ch c = true := hb
      rw [if_pos hb']
      refine ws_app (i := 6) rfl (ev_var rfl) (by rw [nats, List.length_map, List.length_map]; omega) ?_
      dsimp only [List.set]
      refine ⟨.im (.int (0 + (i : Int))), .im (natsD c), .im (.int (heldC ws lot c)), s10, ?_, h10⟩
      unfold nats
      rw [List.map_append, List.map_append, e00]
      rfl
    · have hb' : believeC ws lot ch c = false := hb
      rw [if_neg (by rw [hb']; decide), List.append_nil]
      exact ws_next ⟨.im (.int (0 + (i : Int))), .im (natsD c), .im (.int (heldC ws lot c)), s10, rfl, h10⟩
  · rintro ρ' ⟨s7, s8, s9, s10, rfl, h10⟩
    rw [rng_len, Int.toNat_natCast]
    exact ws_retV (i := 6) rfl p
theorem pr_believed {sights odds : List (List Int)} {q : Nat} {row ws : List Int} {lot : List Nat} {ch : Num} (h : PerT sights odds q row ws) (h2 : ChOk ch) : P_believed [tabD sights odds, .int (q : Int), natsD lot, numD ch] (fun s => s = .ow ((nats (believedN row ws lot ch)).map .int)) (fun _ => False) := ⟨sights, odds, q, row, ws, lot, ch, rfl, h, h2, rfl⟩
end
end FS
set_option Elab.async false
set_option linter.all false
set_option maxRecDepth 100000
set_option maxHeartbeats 4000000
set_option exponentiation.threshold 20000
namespace FS
open PySem PySem.Spec PyProof.Rows L2

local macro_rules | `(tactic| walk_at "side") => `(tactic| first | assumption | omega | decide)
local macro_rules | `(tactic| walk_at "hv") => `(tactic| (intro i hi; simp at hi; first | (subst hi; rfl) | (rcases hi with rfl | rfl <;> rfl) | (rcases hi with rfl | rfl | rfl <;> rfl)))
local macro_rules | `(tactic| walk_at "pr") => `(tactic| fail "no promise")
local macro_rules | `(tactic| walk_at "rv") => `(tactic| first
  | (with_reducible exact rv_add) | (with_reducible exact rv_sub) | (with_reducible exact rv_lt) | (with_reducible exact rv_le) | (with_reducible exact rv_gt) | (with_reducible exact rv_ge) | (with_reducible exact rv_eq) | (with_reducible exact rv_ne)
  | (with_reducible exact rv_is) | (with_reducible exact rv_isnot)
  | ((with_reducible apply rv_div); first | assumption | exact cdiv_small (by omega) (by omega))
  | ((with_reducible apply rv_mod); first | assumption | omega)
  | ((with_reducible apply rv_mul); first | assumption | exact cmul_left (by omega) | exact cmul_right (by omega))
  | ((with_reducible apply rv_mulW); assumption)
  | (with_reducible exact rv_p8) | (with_reducible exact rv_p18) | (with_reducible exact rv_p40) | (with_reducible exact rv_p20) | (with_reducible exact rv_p6) | (with_reducible exact rv_p7) | (with_reducible exact rv_p12) | (with_reducible exact rv_p25) | (with_reducible exact rv_p30) | (with_reducible exact rv_p39) | (with_reducible exact rv_p60)
  | ((with_reducible apply rv_ixxL); first | assumption | exact at_getD (by omega) (by omega) | exact at_nat rfl)
  | ((with_reducible apply rv_ixxT); first | assumption | exact at_getD (by omega) (by omega) | exact at_nat rfl)
  | ((with_reducible apply rv_ixxC); first | assumption)
  | (with_reducible exact ru_neg))
local macro_rules | `(tactic| walk_at "isi") => `(tactic| first | (with_reducible exact isi_non_int) | (with_reducible exact isi_non_bool) | (with_reducible exact isi_non_str) | (with_reducible exact isi_non_tuple) | (with_reducible exact isi_non_list) | (with_reducible exact isi_bl_int) | (with_reducible exact isi_bl_bool) | (with_reducible exact isi_bl_str) | (with_reducible exact isi_bl_tuple) | (with_reducible exact isi_bl_list) | (with_reducible exact isi_int_int) | (with_reducible exact isi_int_bool) | (with_reducible exact isi_int_str) | (with_reducible exact isi_int_tuple) | (with_reducible exact isi_int_list) | (with_reducible exact isi_str_int) | (with_reducible exact isi_str_bool) | (with_reducible exact isi_str_str) | (with_reducible exact isi_str_tuple) | (with_reducible exact isi_str_list) | (with_reducible exact isi_tup_int) | (with_reducible exact isi_tup_bool) | (with_reducible exact isi_tup_str) | (with_reducible exact isi_tup_tuple) | (with_reducible exact isi_tup_list) | (with_reducible exact isi_lst_int) | (with_reducible exact isi_lst_bool) | (with_reducible exact isi_lst_str) | (with_reducible exact isi_lst_tuple) | (with_reducible exact isi_lst_list))
local macro_rules | `(tactic| walk_at "rc") => `(tactic| first
  | walk_at "isi"
  | (with_reducible exact rc_len) | (with_reducible exact rc_lent) | (with_reducible exact rc_lenc) | (with_reducible exact rc_toint) | (with_reducible exact rc_absv) | (with_reducible exact rc_gcd)
  | ((with_reducible apply rc_lcm); assumption)
  | ((with_reducible apply rc_isi); (focus rfl); assumption)
  | (with_reducible exact rco_list) | (with_reducible exact rco_listT))
local macro_rules | `(tactic| walk_at "ev") => `(tactic| first
  | (with_reducible exact ev_int) | (with_reducible exact ev_bl) | (with_reducible exact ev_non) | (with_reducible exact ev_str) | (with_reducible exact ev_ty)
  | ((with_reducible apply ev_var); rfl)
  | ((with_reducible apply ev_lenOw); rfl)
  | ((with_reducible apply ev_op) <;> first | walk_at "ev" | walk_at "rv")
  | ((with_reducible apply ev_un) <;> first | walk_at "ev" | walk_at "rv")
  | ((with_reducible apply ev_cb) <;> first | walk_at "ev" | walk_at "rc")
  | ((with_reducible apply ev_call) <;> first | walk_at "ev" | walk_at "pr")
  | ((with_reducible apply ev_tup) <;> first | walk_at "ev" | (simp; done))
  | (with_reducible exact ea_nil)
  | ((with_reducible apply ea_cons) <;> walk_at "ev")
  | ((with_reducible apply et_test); walk_at "ev")
  | ((with_reducible apply et_B); walk_at "ev")
  | ((with_reducible apply et_not); walk_at "ev")
  | ((with_reducible apply et_or); (walk_at "ev"); intro _; walk_at "ev")
  | ((with_reducible apply et_and); (walk_at "ev"); intro _; walk_at "ev")
  | ((with_reducible apply ev_orV); (walk_at "ev"); intro _; walk_at "ev")
  | ((with_reducible apply ev_andV); (walk_at "ev"); intro _; walk_at "ev")
  | ((with_reducible apply ev_notV); walk_at "ev")
  | (with_reducible exact et_yes)
  | ((with_reducible apply evo_lst) <;> first | walk_at "ev" | (simp; done))
  | ((with_reducible apply ev_opO) <;> first | walk_at "ev" | ((with_reducible apply rvo_add); simp; omega))
  | ((with_reducible apply ev_cbO) <;> first | walk_at "ev" | walk_at "rc")
  | ((with_reducible apply ev_callO) <;> first | walk_at "ev" | walk_at "pr")
  | ((with_reducible apply ec_call) <;> first | walk_at "ev" | walk_at "pr")
  | ((with_reducible apply ec_tup) <;> first | walk_at "ev" | (simp; done))
  | ((with_reducible apply ec_lst) <;> first | walk_at "ev" | (simp; done))
  | (with_reducible exact eca_nil)
  | ((with_reducible apply eca_cons) <;> walk_at "ev")
  | ((with_reducible apply ec_sc); (walk_at "ev"); rfl)
  | ((with_reducible apply ec_ow); (walk_at "ev"); first | assumption | (intro d hd; simp at hd; done))
  | ((with_reducible apply ec_fz); walk_at "ev")
  | ((with_reducible apply ev_fz); walk_at "ev"))

local macro_rules | `(tactic| walk_at "im") => `(tactic| ((with_reducible apply wq_asg); walk_at "ev"; (try dsimp only [List.set, Int.reduceToNat])))
local macro_rules | `(tactic| walk_at "ow") => `(tactic| ((with_reducible apply wq_asgO); walk_at "ev"; (focus (first | decide | (simp; done))); (try dsimp only [List.set, Int.reduceToNat])))
local macro_rules | `(tactic| walk_at "cl") => `(tactic| ((with_reducible apply wq_asgC); walk_at "ev"; (focus (first | decide | (simp; done))); (try dsimp only [List.set, Int.reduceToNat])))
local macro_rules | `(tactic| walk_at "if") => `(tactic| ((first | (with_reducible apply wq_when) | (with_reducible apply wq_if) | (with_reducible apply ws_if)); walk_at "ev"; (try dsimp only [Int.reduceToNat])))
local macro_rules | `(tactic| walk_at "ret") => `(tactic| ((with_reducible apply ws_ret); walk_at "ev"))
local macro_rules | `(tactic| walk_at "go") => `(tactic| (try dsimp only [cxOf, L2.Cx.nox, L2.Cx.wish, L2.Cx.blk]))
local macro_rules | `(tactic| walk_at "ints") => `(tactic| (refine ev_fz (evo_lst ?_ (by decide)); repeat (first | exact ea_nil | refine ea_cons ev_int ?_)))

/-- a call that may read all there is; it hands back a new list of numbers -/
theorem ev_callOn {K : PySem.W.Frag} {ρ : Rho} {tr : TA} {P : PrD} {E : XK} {l ds : List D} (ha : EvNA K tr ρ ds) (hp : P ds (fun s => s = .ow l) (fun _ => False)) (hs : ∀ d ∈ l, d.sc = true) : EvO K (tCall (spD K P) [] E tr) ρ l := fun M T0 H T σ X Q e q =>
  ha M T0 H T σ X _ e fun vs H1 T1 s1 t1 e1 i1 => by
    show spD K P (vs ++ []) T1 Q E
    rw [List.append_nil]
    refine ⟨[], T1, ds, _, _, Opn.all, i1, hp, fun s v H' T' hs' s' t' hr => ?_, fun _ _ _ _ _ _ h => h.elim⟩
    subst hs'
    obtain ⟨p, us, rfl, h1, h2, h3⟩ := hr
    have h4 := EnX.lentC (Lc := [(p, .lst us)]) e1 t' s' h2 (fun x hx => by
      have hx := List.mem_singleton.mp hx
      subst hx
      exact h3)
    refine q p us H1 T' s1 (t1.trans t') h4 ?_
    have : ∀ (l : List D) (us : List V), (∀ d ∈ l, d.sc = true) → IsL K H' l us → IsL K H1 l us := by
      intro l
      induction l with
      | nil => exact fun us _ h => h
      | cons d l ih =>
        intro us hsc h
        obtain ⟨v, r, e, g1, g2⟩ := h
        exact ⟨v, r, e, g1.any (hsc d List.mem_cons_self), ih r (fun x hx => hsc x (List.mem_cons_of_mem _ hx)) g2⟩
    exact this l us hs h1

section
variable {P : Program} {w : World} {K : PySem.W.Frag} {mg : Str → Option Value} {base : Heap} {C_Book : Addr}
def P_left : PrD := fun ds R _ => ∃ (sights odds : List (List Int)) (n : Nat) (grp lot : List Nat) (ch : Num) (row ws : Nat → List Int), ds = [tabD sights odds, natsD grp, natsD lot, numD ch] ∧ (∃ r0, sights[0]? = some r0 ∧ r0.length = n) ∧ n ≤ 12 ∧ (∀ q ∈ grp, PerT sights odds q (row q) (ws q) ∧ (row q).length = n) ∧ ChOk ch ∧
  R (.ow ((nats (commonN (fun q t => believedN (row q) (ws q) t ch) n grp lot)).map .int))
theorem ok_left (F : Df K mg "_law_left" s_law_left ["tables", "group", "lot", "chance"]) (gm : Gm K mg C_Book) (G_law_believed : FnG P w K mg base CX0 1 "_law_believed" ["tables", "person", "lot", "chance"] (spD K P_believed)) : FnG P w K mg base CX0 2 "_law_left" ["tables", "group", "lot", "chance"] (spD K P_left) := by
  refine F.ok (k := 1) sc_law_left (fun ds R Z ⟨a, b, c, d, e, f, g, h, i, _⟩ => by rw [i] <;> rfl) (fun f cdv A outer s H E hr => ?_)
  refine ⟨_,
    (pss_cons (sv 4 sc_law_left.nd (ct (cListRngC rfl) gm.list (pa_cons (ct cRng1 gm.range (pa_cons (cb (kLen K) gm.len (pa_cons (ix K (ix K (pv 0) pe_int) pe_int) pa_nil)) pa_nil)) pa_nil)))
    (pss_cons (ps_for PassesOwn.never rfl (pl K (pv 1)) (gn 5 sc_law_left.nd) (pss_cons (sv 6 sc_law_left.nd (pe_g G_law_believed hr.le pass0 (pa_cons (pv 0) (pa_cons (pv 5) (pa_cons (pv 2) (pa_cons (pv 3) pa_nil)))))) (pss_one (ps_setLc (i := 4) (own := [("w", 7)]) rfl sc_law_left.nd rfl rfl (sw_true rfl rfl rfl (by decide +kernel)) (pl K (pv 4)) (blkOk_by (N := N_law_left) (sc := defScope s_law_left) (by decide +kernel)) (fun _ _ _ _ _ => (gn 7 sc_law_left.nd)) (fun _ _ _ _ _ => (pts_one (pt_cmpR (kIn K) (pv 7) (pv 6) (by rfl)))) (fun _ _ _ _ _ => (pv 7))))))
    (pss_cons (ps_for PassesOwn.never rfl (pi_range1 (by rfl) gm.range (pa_cons (pe_op (kAdd K) (cb (kLen K) gm.len (pa_cons (ix K (ix K (pv 0) pe_int) pe_int) pa_nil)) pe_int) pa_nil)) (gn 8 sc_law_left.nd) (pss_cons (sv 9 sc_law_left.nd (ct (kList K) gm.list (pa_cons (pv 4) pa_nil))) (pss_cons (ps_for PassesOwn.never rfl (pl K (pv 1)) (gn 5 sc_law_left.nd) (pss_cons (sv 6 sc_law_left.nd (pe_g G_law_believed hr.le pass0 (pa_cons (pv 0) (pa_cons (pv 5) (pa_cons (pv 4) (pa_cons (pv 3) pa_nil)))))) (pss_one (ps_setLc (i := 4) (own := [("w", 7)]) rfl sc_law_left.nd rfl rfl (sw_true rfl rfl rfl (by decide +kernel)) (pl K (pv 4)) (blkOk_by (N := N_law_left) (sc := defScope s_law_left) (by decide +kernel)) (fun _ _ _ _ _ => (gn 7 sc_law_left.nd)) (fun _ _ _ _ _ => (pts_one (pt_cmpR (kIn K) (pv 7) (pv 6) (by rfl)))) (fun _ _ _ _ _ => (pv 7)))))) (pss_one (ps_if (pt_cmpR (kEq K hr.units) (pv 4) (pv 9) (nomark _)) (pss_one ps_break) pss_nil)))))
    (pss_one (ps_ret (pv 4)))))), fun ds R Z p => ?_⟩
  obtain ⟨sights, odds, n, grp, lot, ch, row, ws, rfl, ⟨r0, hr0, hn0⟩, n2, hper, hch, p⟩ := p
  generalize hB : (fun q t => believedN (row q) (ws q) t ch) = B at p
  have hBq : ∀ q t, believedN (row q) (ws q) t ch = B q t := fun q t => by rw [← hB]
  refine ws_to (ρ' := [.im (tabD sights odds), .im (natsD grp), .im (natsD lot), .im (numD ch), .no, .no, .no, .no, .no, .no]) rfl ?_
  walk_at "go"
  have hlen0 : ∀ ρ : Rho, ρ[0]? = some (.im (tabD sights odds)) → EvD K (tCB (rLenA K) (tCons (tOp (rIx K) (tOp (rIx K) (tVar 0) (tC (.int 0))) (tC (.int 0))) tNil)) ρ (.int (n : Int)) := fun ρ e =>
    (ev_cb (ea_cons (ev_op (ev_op (ev_var e) ev_int (rv_ixxL (at_nat (j := 0) rfl))) ev_int (rv_ixxL (at_map (k := 0) hr0))) ea_nil) rc_len).is (by rw [List.length_map, hn0])
  refine wq_asgO (l := (nats (List.range n)).map .int) ((evo_rng (n := (n : Int)) (ea_cons (hlen0 _ rfl) ea_nil) (by omega) (by omega)).is (by rw [Int.toNat_natCast, rng_nats])) (by simp) ?_
  dsimp only [List.set]
  refine wq_for (src_list (l := grp.map fun n : Nat => .int (n : Int)) (ev_var rfl)) (fun i ρ' => ∃ s5 s6 s7, ρ' = [.im (tabD sights odds), .im (natsD grp), .im (natsD lot), .im (numD ch), .ow ((nats (firstF B (grp.take i) lot (List.range n))).map .int), s5, s6, s7, .no, .no] ∧ isOw (some s7) = false) ⟨_, _, _, rfl, rfl⟩ ?_ ?_
  · rintro i d ρ' hd ⟨s5, s6, s7, rfl, h7⟩
    obtain ⟨q, hq, rfl⟩ := map_get hd
    obtain ⟨hp, hrl⟩ := hper q (List.mem_of_getElem? hq)
    refine ⟨_, gd_name, ?_⟩
    dsimp only [setD, List.set]
    refine wq_asg (d := intsD (nats (B q lot))) (ev_fz (ev_callO (ea_cons (ev_var rfl) (ea_cons (ev_var rfl) (ea_cons (ev_var rfl) (ea_cons (ev_var rfl) ea_nil)))) (by rw [← hBq]; exact pr_believed hp hch))) ?_
    dsimp only [List.set]
    have hl := asc_len (lot_sub (lot_range n) (first_sub B lot (grp.take i) (List.range n)))
    have ef : firstF B (grp.take (i + 1)) lot (List.range n) = (firstF B (grp.take i) lot (List.range n)).filter fun w => decide (w ∈ B q lot) := by
      unfold firstF
      rw [foldl_take hq]
    rw [ef]
    generalize firstF B (grp.take i) lot (List.range n) = t at hl
    refine ws_asgO ((evo_lcW (xs := t) (enc := fun n : Nat => .int (n : Int)) (fun w => decide (w ∈ B q lot)) (fun w => D.int (w : Int)) ?_ ?_ (fun v hv => ⟨_, gd_name, by simp, ?_, fun _ => ?_⟩) (by omega)).is ?_) (by simp) ⟨_, _, _, rfl, h7⟩
    · refine src_own (i := 4) ?_
      show some (Sl.ow _) = some (Sl.ow _)
      rw [nats, List.map_map]
      rfl
    · intro j hj
      have hj : j = 7 := by simpa using hj
      rw [hj]
      exact h7
    · dsimp only [setD, wipeD, List.set, List.map]
      exact (et_test (ev_op (ev_var rfl) (ev_var (d := .lst ((nats (B q lot)).map .int)) rfl) rv_in)).is (decide_eq_decide.mpr mem_nats)
    · dsimp only [setD, wipeD, List.set, List.map]
      exact ev_var rfl
    · unfold nats
      rw [List.map_map]
      rfl
  · rintro ρ' ⟨s5, s6, s7, rfl, h7⟩
    rw [List.length_map, List.take_length]
    have ht0 : Lot n (firstF B grp lot (List.range n)) := lot_sub (lot_range n) (first_sub B lot grp _)
    have hfin : commonN B n grp lot = loopF B grp (n + 1) (firstF B grp lot (List.range n)) := rfl
    rw [hfin] at p
    generalize firstF B grp lot (List.range n) = t0 at ht0 p
    refine wq_for (src_rng1 (n := (n : Int) + 1) (ea_cons (ev_op (hlen0 _ rfl) ev_int rv_add) ea_nil) (by omega)) (fun i ρ' => ∃ t s5 s6 s7 s8 s9, ρ' = [.im (tabD sights odds), .im (natsD grp), .im (natsD lot), .im (numD ch), .ow ((nats t).map .int), s5, s6, s7, s8, s9] ∧ isOw (some s7) = false ∧ Lot n t ∧ loopF B grp (n + 1 - i) t = loopF B grp (n + 1) t0) ⟨t0, _, _, _, _, _, rfl, h7, ht0, rfl⟩ ?_ ?_
    · rintro i d ρ' hd ⟨t, s5, s6, s7, s8, s9, rfl, h7, ht, hloop⟩
      obtain ⟨hi, rfl⟩ := rng_get hd
      refine ⟨_, gd_name, ?_⟩
      dsimp only [setD, List.set]
      have hi : i < n + 1 := by omega
      obtain ⟨k, hk⟩ : ∃ k, n + 1 - i = k + 1 := ⟨n - i, by omega⟩
      have hk2 : n + 1 - (i + 1) = k := by omega
      rw [hk, loopF] at hloop
      rw [hk2]
      refine wq_asg (d := intsD (nats t)) (ec_fz (ec_cbN (ena_cons (en_ow (i := 4) rfl) ena_nil) rco_list (scal_ints _))) ?_
      dsimp only [List.set]
      refine wq_for (src_list (l := grp.map fun n : Nat => .int (n : Int)) (ev_var rfl)) (fun i' ρ' => ∃ s5 s6 s7, ρ' = [.im (tabD sights odds), .im (natsD grp), .im (natsD lot), .im (numD ch), .ow ((nats (stepF B (grp.take i') t)).map .int), s5, s6, s7, .im (.int (0 + (i : Int))), .im (intsD (nats t))] ∧ isOw (some s7) = false) ⟨_, _, _, rfl, h7⟩ ?_ ?_
      · rintro i' d ρ' hd ⟨s5, s6, s7, rfl, h7⟩
        obtain ⟨q, hq, rfl⟩ := map_get hd
        obtain ⟨hp, hrl⟩ := hper q (List.mem_of_getElem? hq)
        refine ⟨_, gd_name, ?_⟩
        dsimp only [setD, List.set]
        have hst := lot_sub ht (step_sub B (grp.take i') t)
        have hl := asc_len hst
        have ef : stepF B (grp.take (i' + 1)) t = (stepF B (grp.take i') t).filter fun w => decide (w ∈ B q (stepF B (grp.take i') t)) := by
          unfold stepF
          rw [foldl_take hq]
        rw [ef]
        generalize stepF B (grp.take i') t = u at hl hst
        have eu : ((nats u).map D.int) = u.map fun n : Nat => .int (n : Int) := by rw [nats, List.map_map] <;> rfl
        refine wq_asg (d := intsD (nats (B q u))) (ev_fz (ev_callOn (ena_cons (en_d (ev_var rfl)) (ena_cons (en_d (ev_var rfl)) (ena_cons (en_ow (i := 4) rfl) (ena_cons (en_d (ev_var rfl)) ena_nil)))) (by rw [eu, ← hBq]; exact pr_believed hp hch) (scal_ints _))) ?_
        dsimp only [List.set]
        refine ws_asgO ((evo_lcW (xs := u) (enc := fun n : Nat => .int (n : Int)) (fun w => decide (w ∈ B q u)) (fun w => D.int (w : Int)) ?_ ?_ (fun v hv => ⟨_, gd_name, by simp, ?_, fun _ => ?_⟩) (by omega)).is ?_) (by simp) ⟨_, _, _, rfl, h7⟩
        · refine src_own (i := 4) ?_
          show some (Sl.ow _) = some (Sl.ow _)
          rw [eu]
        · intro j hj
          have hj : j = 7 := by simpa using hj
          rw [hj]
          exact h7
        · dsimp only [setD, wipeD, List.set, List.map]
          exact (et_test (ev_op (ev_var rfl) (ev_var (d := .lst ((nats (B q u)).map .int)) rfl) rv_in)).is (decide_eq_decide.mpr mem_nats)
        · dsimp only [setD, wipeD, List.set, List.map]
          exact ev_var rfl
        · unfold nats
          rw [List.map_map]
          rfl
      · rintro ρ' ⟨s5, s6, s7, rfl, h7⟩
        rw [List.length_map, List.take_length]
        have hss := step_sub B grp t
        have hst := lot_sub ht hss
        refine ws_if (b := decide (stepF B grp t = t)) ((et_test (ev_now (en_op (en_ow (i := 4) rfl) (en_d (ev_var rfl)) rv_eqInts) rfl)).is (decide_eq_decide.mpr nats_inj)) (fun hb => ?_) (fun hb => ?_)
        · have hb : stepF B grp t = t := of_decide_eq_true hb
          rw [if_neg (by rw [hb]; omega)] at hloop
          rw [← hloop] at p
          exact ws_break (ws_retV (i := 4) rfl p)
        · have hb : ¬ stepF B grp t = t := of_decide_eq_false hb
          have hlt : (stepF B grp t).length < t.length := by
            have := hss.length_le
            rcases Nat.lt_or_ge (stepF B grp t).length t.length with h | h
            · exact h
            · exact absurd (hss.eq_of_length (by omega)) hb
          rw [if_pos hlt] at hloop
          exact ws_next ⟨_, _, _, _, _, _, rfl, h7, hst, hloop⟩
    · rintro ρ' ⟨t, s5, s6, s7, s8, s9, rfl, h7, ht, hloop⟩
      rw [rng_len] at hloop
      have e : n + 1 - ((n : Int) + 1).toNat = 0 := by omega
      rw [e, loopF] at hloop
      rw [← hloop] at p
      exact ws_retV (i := 4) rfl p
theorem pr_left {sights odds : List (List Int)} {n : Nat} {grp lot : List Nat} {ch : Num} {row ws : Nat → List Int} (h0 : ∃ r0, sights[0]? = some r0 ∧ r0.length = n) (h1 : n ≤ 12) (h2 : ∀ q ∈ grp, PerT sights odds q (row q) (ws q) ∧ (row q).length = n) (h3 : ChOk ch) :
    P_left [tabD sights odds, natsD grp, natsD lot, numD ch] (fun s => s = .ow ((nats (commonN (fun q t => believedN (row q) (ws q) t ch) n grp lot)).map .int)) (fun _ => False) := ⟨sights, odds, n, grp, lot, ch, row, ws, rfl, h0, h1, h2, h3, rfl⟩
end
end FS
set_option Elab.async false
set_option linter.all false
set_option maxRecDepth 100000
set_option maxHeartbeats 4000000
set_option exponentiation.threshold 20000
namespace FS
open PySem PySem.Spec PyProof.Rows L2

local macro_rules | `(tactic| walk_at "side") => `(tactic| first | assumption | omega | decide)
local macro_rules | `(tactic| walk_at "hv") => `(tactic| (intro i hi; simp at hi; first | (subst hi; rfl) | (rcases hi with rfl | rfl <;> rfl) | (rcases hi with rfl | rfl | rfl <;> rfl)))
local macro_rules | `(tactic| walk_at "pr") => `(tactic| fail "no promise")
local macro_rules | `(tactic| walk_at "rv") => `(tactic| first
  | (with_reducible exact rv_add) | (with_reducible exact rv_sub) | (with_reducible exact rv_lt) | (with_reducible exact rv_le) | (with_reducible exact rv_gt) | (with_reducible exact rv_ge) | (with_reducible exact rv_eq) | (with_reducible exact rv_ne)
  | (with_reducible exact rv_is) | (with_reducible exact rv_isnot)
  | ((with_reducible apply rv_div); first | assumption | exact cdiv_small (by omega) (by omega))
  | ((with_reducible apply rv_mod); first | assumption | omega)
  | ((with_reducible apply rv_mul); first | assumption | exact cmul_left (by omega) | exact cmul_right (by omega))
  | ((with_reducible apply rv_mulW); assumption)
  | (with_reducible exact rv_p8) | (with_reducible exact rv_p18) | (with_reducible exact rv_p40) | (with_reducible exact rv_p20) | (with_reducible exact rv_p6) | (with_reducible exact rv_p7) | (with_reducible exact rv_p12) | (with_reducible exact rv_p25) | (with_reducible exact rv_p30) | (with_reducible exact rv_p39) | (with_reducible exact rv_p60)
  | ((with_reducible apply rv_ixxL); first | assumption | exact at_getD (by omega) (by omega) | exact at_nat rfl)
  | ((with_reducible apply rv_ixxT); first | assumption | exact at_getD (by omega) (by omega) | exact at_nat rfl)
  | ((with_reducible apply rv_ixxC); first | assumption)
  | (with_reducible exact ru_neg))
local macro_rules | `(tactic| walk_at "isi") => `(tactic| first | (with_reducible exact isi_non_int) | (with_reducible exact isi_non_bool) | (with_reducible exact isi_non_str) | (with_reducible exact isi_non_tuple) | (with_reducible exact isi_non_list) | (with_reducible exact isi_bl_int) | (with_reducible exact isi_bl_bool) | (with_reducible exact isi_bl_str) | (with_reducible exact isi_bl_tuple) | (with_reducible exact isi_bl_list) | (with_reducible exact isi_int_int) | (with_reducible exact isi_int_bool) | (with_reducible exact isi_int_str) | (with_reducible exact isi_int_tuple) | (with_reducible exact isi_int_list) | (with_reducible exact isi_str_int) | (with_reducible exact isi_str_bool) | (with_reducible exact isi_str_str) | (with_reducible exact isi_str_tuple) | (with_reducible exact isi_str_list) | (with_reducible exact isi_tup_int) | (with_reducible exact isi_tup_bool) | (with_reducible exact isi_tup_str) | (with_reducible exact isi_tup_tuple) | (with_reducible exact isi_tup_list) | (with_reducible exact isi_lst_int) | (with_reducible exact isi_lst_bool) | (with_reducible exact isi_lst_str) | (with_reducible exact isi_lst_tuple) | (with_reducible exact isi_lst_list))
local macro_rules | `(tactic| walk_at "rc") => `(tactic| first
  | walk_at "isi"
  | (with_reducible exact rc_len) | (with_reducible exact rc_lent) | (with_reducible exact rc_lenc) | (with_reducible exact rc_toint) | (with_reducible exact rc_absv) | (with_reducible exact rc_gcd)
  | ((with_reducible apply rc_lcm); assumption)
  | ((with_reducible apply rc_isi); (focus rfl); assumption)
  | (with_reducible exact rco_list) | (with_reducible exact rco_listT))
local macro_rules | `(tactic| walk_at "ev") => `(tactic| first
  | (with_reducible exact ev_int) | (with_reducible exact ev_bl) | (with_reducible exact ev_non) | (with_reducible exact ev_str) | (with_reducible exact ev_ty)
  | ((with_reducible apply ev_var); rfl)
  | ((with_reducible apply ev_lenOw); rfl)
  | ((with_reducible apply ev_op) <;> first | walk_at "ev" | walk_at "rv")
  | ((with_reducible apply ev_un) <;> first | walk_at "ev" | walk_at "rv")
  | ((with_reducible apply ev_cb) <;> first | walk_at "ev" | walk_at "rc")
  | ((with_reducible apply ev_call) <;> first | walk_at "ev" | walk_at "pr")
  | ((with_reducible apply ev_tup) <;> first | walk_at "ev" | (simp; done))
  | (with_reducible exact ea_nil)
  | ((with_reducible apply ea_cons) <;> walk_at "ev")
  | ((with_reducible apply et_test); walk_at "ev")
  | ((with_reducible apply et_B); walk_at "ev")
  | ((with_reducible apply et_not); walk_at "ev")
  | ((with_reducible apply et_or); (walk_at "ev"); intro _; walk_at "ev")
  | ((with_reducible apply et_and); (walk_at "ev"); intro _; walk_at "ev")
  | ((with_reducible apply ev_orV); (walk_at "ev"); intro _; walk_at "ev")
  | ((with_reducible apply ev_andV); (walk_at "ev"); intro _; walk_at "ev")
  | ((with_reducible apply ev_notV); walk_at "ev")
  | (with_reducible exact et_yes)
  | ((with_reducible apply evo_lst) <;> first | walk_at "ev" | (simp; done))
  | ((with_reducible apply ev_opO) <;> first | walk_at "ev" | ((with_reducible apply rvo_add); simp; omega))
  | ((with_reducible apply ev_cbO) <;> first | walk_at "ev" | walk_at "rc")
  | ((with_reducible apply ev_callO) <;> first | walk_at "ev" | walk_at "pr")
  | ((with_reducible apply ec_call) <;> first | walk_at "ev" | walk_at "pr")
  | ((with_reducible apply ec_tup) <;> first | walk_at "ev" | (simp; done))
  | ((with_reducible apply ec_lst) <;> first | walk_at "ev" | (simp; done))
  | (with_reducible exact eca_nil)
  | ((with_reducible apply eca_cons) <;> walk_at "ev")
  | ((with_reducible apply ec_sc); (walk_at "ev"); rfl)
  | ((with_reducible apply ec_ow); (walk_at "ev"); first | assumption | (intro d hd; simp at hd; done))
  | ((with_reducible apply ec_fz); walk_at "ev")
  | ((with_reducible apply ev_fz); walk_at "ev"))

local macro_rules | `(tactic| walk_at "im") => `(tactic| ((with_reducible apply wq_asg); walk_at "ev"; (try dsimp only [List.set, Int.reduceToNat])))
local macro_rules | `(tactic| walk_at "ow") => `(tactic| ((with_reducible apply wq_asgO); walk_at "ev"; (focus (first | decide | (simp; done))); (try dsimp only [List.set, Int.reduceToNat])))
local macro_rules | `(tactic| walk_at "cl") => `(tactic| ((with_reducible apply wq_asgC); walk_at "ev"; (focus (first | decide | (simp; done))); (try dsimp only [List.set, Int.reduceToNat])))
local macro_rules | `(tactic| walk_at "if") => `(tactic| ((first | (with_reducible apply wq_when) | (with_reducible apply wq_if) | (with_reducible apply ws_if)); walk_at "ev"; (try dsimp only [Int.reduceToNat])))
local macro_rules | `(tactic| walk_at "ret") => `(tactic| ((with_reducible apply ws_ret); walk_at "ev"))
local macro_rules | `(tactic| walk_at "go") => `(tactic| (try dsimp only [cxOf, L2.Cx.nox, L2.Cx.wish, L2.Cx.blk]))
local macro_rules | `(tactic| walk_at "ints") => `(tactic| (refine ev_fz (evo_lst ?_ (by decide)); repeat (first | exact ea_nil | refine ea_cons ev_int ?_)))

def everyN : Nat → List (List Nat)
  | 0 => [[]]
  | k + 1 => everyN k ++ (everyN k).map fun l => l ++ [k]
theorem every_len : ∀ n, (everyN n).length = 2 ^ n
  | 0 => rfl
  | n + 1 => by rw [everyN, List.length_append, List.length_map, every_len n, Nat.pow_succ]; omega
theorem every_lot : ∀ n, ∀ l ∈ everyN n, Lot n l
  | 0, l, h => by
    have h : l = [] := by simpa [everyN] using h
    subst h
    exact ⟨fun x hx => by simp at hx, List.Pairwise.nil⟩
  | n + 1, l, h => by
    rcases List.mem_append.mp h with h | h
    · have := every_lot n l h
      exact ⟨fun x hx => Nat.lt_succ_of_lt (this.lt x hx), this.asc⟩
    · obtain ⟨m, hm, rfl⟩ := List.mem_map.mp h
      have := every_lot n m hm
      refine ⟨fun x hx => ?_, ?_⟩
      · rcases List.mem_append.mp hx with hx | hx
        · exact Nat.lt_succ_of_lt (this.lt x hx)
        · rw [List.mem_singleton.mp hx]
          exact Nat.lt_succ_self n
      · rw [List.pairwise_append]
        refine ⟨this.asc, List.pairwise_singleton _ _, fun a ha b hb => ?_⟩
        rw [List.mem_singleton.mp hb]
        exact this.lt a ha
section
variable {P : Program} {w : World} {K : PySem.W.Frag} {mg : Str → Option Value} {base : Heap} {C_Book : Addr}
def P_every : PrD := fun ds R _ => ∃ n : Nat, ds = [.int (n : Int)] ∧ n ≤ 12 ∧ R (.im (.lst ((everyN n).map natsD)))
theorem ok_every (F : Df K mg "_law_every_lot" s_law_every_lot ["worlds"]) (gm : Gm K mg C_Book) : FnG P w K mg base CX0 1 "_law_every_lot" ["worlds"] (spD K P_every) := by
  refine F.ok (k := 0) sc_law_every_lot (fun ds R Z ⟨a, e, _⟩ => by rw [e] <;> rfl) (fun f cdv A outer s H E hr => ?_)
  refine ⟨_,
    (pss_cons (sv 1 sc_law_every_lot.nd (pe_lst (pa_cons (pe_lst pa_nil) pa_nil)))
    (pss_cons (ps_for PassesOwn.never rfl (pi_range1 (by rfl) gm.range (pa_cons (pv 0) pa_nil)) (gn 2 sc_law_every_lot.nd) (pss_one (sv 1 sc_law_every_lot.nd (pe_op (kAdd K) (pv 1) (pe_lc (own := [("lot", 3)]) rfl sc_law_every_lot.nd (pl K (pv 1)) (blkOk_by (N := N_law_every_lot) (sc := defScope s_law_every_lot) (by decide +kernel)) (fun _ _ _ _ _ => (gn 3 sc_law_every_lot.nd)) (fun _ _ _ _ _ => pts_nil) (fun _ _ _ _ _ => (pe_op (kAdd K) (pv 3) (pe_lst (pa_cons (pv 2) pa_nil)))))))))
    (pss_one (ps_ret (pv 1))))), fun ds R Z p => ?_⟩
  obtain ⟨n, rfl, hn, p⟩ := p
  refine ws_to (ρ' := [.im (.int (n : Int)), .no, .no, .no]) rfl ?_
  walk_at "go"
  refine wq_asg (d := .lst ((everyN 0).map natsD)) (ev_fz (evo_lst (ea_cons (ev_fz (evo_lst ea_nil (by simp))) ea_nil) (by show 1 ≤ 1000; decide))) ?_
  dsimp only [List.set]
  refine wq_for (src_rng1 (n := (n : Int)) (ea_cons (ev_var rfl) ea_nil) (by omega)) (fun i ρ' => ∃ s2 s3, ρ' = [.im (.int (n : Int)), .im (.lst ((everyN i).map natsD)), s2, s3] ∧ isOw (some s3) = false) ⟨_, _, rfl, rfl⟩ ?_ ?_
  · rintro i d ρ' hd ⟨s2, s3, rfl, h3⟩
    obtain ⟨hi, rfl⟩ := rng_get hd
    refine ⟨_, gd_name, ?_⟩
    dsimp only [setD, List.set]
    have hi : i < n := by omega
    have e00 : (0 : Int) + (i : Int) = ((i : Nat) : Int) := Int.zero_add _
    have hl := every_len i
    have hp : 2 ^ i ≤ 2 ^ 12 := Nat.pow_le_pow_right (by decide) (by omega)
    have h12 : 2 ^ 12 = 4096 := by decide
    refine ws_asg (d := .lst ((everyN (i + 1)).map natsD)) (ev_fz ((ev_opO (ev_var rfl) (ev_fz (evo_map (xs := everyN i) (enc := natsD) (fun l => natsD (l ++ [i])) (src_list (ev_var rfl)) ?_ (fun l hm => ⟨_, gd_name, by simp, ?_⟩) (by omega))) (rvo_add (by rw [List.length_map, List.length_map]; omega))).is ?_)) ⟨_, _, rfl, h3⟩
    · intro j hj
      have hj : j = 3 := by simpa using hj
      rw [hj]
      exact h3
    · dsimp only [setD, wipeD, List.set, List.map]
      have hll := asc_len (every_lot i l hm)
      refine (ev_fz (ev_opO (ev_var rfl) (ev_fz (evo_lst (ea_cons ((ev_var rfl).is (by rw [e00])) ea_nil) (by simp))) (rvo_add (l := l.map fun n : Nat => .int (n : Int)) (l' := [.int (i : Int)]) (by rw [List.length_map]; show _ + 1 ≤ _; omega)))).is ?_
      unfold natsD
      rw [List.map_append]
      rfl
    · rw [everyN, List.map_append, List.map_map]
      rfl
  · rintro ρ' ⟨s2, s3, rfl, h3⟩
    rw [rng_len, Int.toNat_natCast]
    exact ws_ret (ev_var rfl) p
theorem pr_every {n : Nat} (h : n ≤ 12) : P_every [.int (n : Int)] (fun s => s = .im (.lst ((everyN n).map natsD))) (fun _ => False) := ⟨n, rfl, h, rfl⟩
end

def szG : List Int := [8, 6, 6, 6, 6, 6, 6, 6]
def groupN (c : Int) (n : Nat) : List Nat := (List.range ((draws c szG).getD 0 0).toNat).map fun k => ((draws c szG).getD (1 + k) 0 % (n : Int)).toNat
section
variable {P : Program} {w : World} {K : PySem.W.Frag} {mg : Str → Option Value} {base : Heap} {C_Book : Addr}
theorem group_lt {c : Int} {n : Nat} (hn : 1 ≤ n) : ∀ q ∈ groupN c n, q < n := fun q hq => by
  obtain ⟨k, _, rfl⟩ := List.mem_map.mp hq
  have h0 := Int.emod_nonneg ((draws c szG).getD (1 + k) 0) (b := (n : Int)) (by omega)
  have h1 := Int.emod_lt_of_pos ((draws c szG).getD (1 + k) 0) (b := (n : Int)) (by omega)
  omega
def P_group : PrD := fun ds R _ => ∃ (c : Int) (n : Nat), ds = [.int c, .int (n : Int)] ∧ 1 ≤ n ∧ n ≤ 1000 ∧ R (.ow ((nats (groupN c n)).map .int))
theorem ok_group (F : Df K mg "_law_group" s_law_group ["cell", "people"]) (gm : Gm K mg C_Book) (G_law_draws : FnG P w K mg base CX0 1 "_law_draws" ["cell", "sizes"] (spD K P_draws)) : FnG P w K mg base CX0 2 "_law_group" ["cell", "people"] (spD K P_group) := by
  refine F.ok (k := 1) sc_law_group (fun ds R Z ⟨a, b, e, _⟩ => by rw [e] <;> rfl) (fun f cdv A outer s H E hr => ?_)
  refine ⟨_,
    (pss_cons (sv 2 sc_law_group.nd (pe_g G_law_draws hr.le pass0 (pa_cons (pv 0) (pa_cons (pe_lst (pa_cons pe_int (pa_cons pe_int (pa_cons pe_int (pa_cons pe_int (pa_cons pe_int (pa_cons pe_int (pa_cons pe_int (pa_cons pe_int pa_nil))))))))) pa_nil))))
    (pss_one (ps_ret (pe_lc (own := [("k", 3)]) rfl sc_law_group.nd (pi_range1 (by rfl) gm.range (pa_cons (ix K (pv 2) pe_int) pa_nil)) (blkOk_by (N := N_law_group) (sc := defScope s_law_group) (by decide +kernel)) (fun _ _ _ _ _ => (gn 3 sc_law_group.nd)) (fun _ _ _ _ _ => pts_nil) (fun _ _ _ _ _ => (pe_op opMod (ct cInt gm.int (pa_cons (ix K (pv 2) (pe_op (kAdd K) pe_int (pv 3))) pa_nil)) (pv 1))))))), fun ds R Z p => ?_⟩
  obtain ⟨c, n, rfl, h1, h2, p⟩ := p
  refine ws_to (ρ' := [.im (.int c), .im (.int (n : Int)), .no, .no]) rfl ?_
  walk_at "go"
  refine wq_asg (d := intsD (draws c szG)) (ec_fz (ec_call (ea_cons (ev_var rfl) (ea_cons (by walk_at "ints") ea_nil)) (pr_draws (sizes := szG) (by decide) (by decide)))) ?_
  dsimp only [List.set]
  have hl : (draws c szG).length = 8 := draws_len _ _
  have hb := draws_bd c szG 0 (by decide) (by decide)
  have e0 : szG.getD 0 0 = 8 := rfl
  rw [e0] at hb
  have hda : ∀ j : Nat, j < 8 → atI ((draws c szG).map D.int) (j : Int) = some (.int ((draws c szG).getD j 0)) := fun j hj => at_ints (by omega)
  refine ws_retO ((evo_map (xs := List.range ((draws c szG).getD 0 0).toNat) (enc := fun k : Nat => D.int (0 + (k : Int))) (fun k => D.int ((draws c szG).getD (1 + k) 0 % (n : Int))) (src_rng1 (n := (draws c szG).getD 0 0) (ea_cons (ev_op (ev_var rfl) ev_int (rv_ixxL (hda 0 (by decide)))) ea_nil) (by omega)) (by walk_at "hv") (fun k hk => ⟨_, gd_name, by simp, ?_⟩) (by rw [List.length_range]; omega)).is ?_) p
  · dsimp only [setD, wipeD, List.set, List.map]
    have hk := List.mem_range.mp hk
    have e1 : (1 : Int) + (0 + (k : Int)) = ((1 + k : Nat) : Int) := by omega
    exact ev_op (ev_cb (ea_cons (ev_op (ev_var rfl) (ev_op ev_int (ev_var rfl) rv_add) (rv_ixxL (by rw [e1]; exact hda _ (by omega)))) ea_nil) rc_toint) (ev_var rfl) (rv_mod (by omega))
  · unfold groupN nats
    rw [List.map_map, List.map_map]
    refine List.map_congr_left fun k _ => ?_
    have h0 := Int.emod_nonneg ((draws c szG).getD (1 + k) 0) (b := (n : Int)) (by omega)
    show D.int _ = D.int ((((draws c szG).getD (1 + k) 0 % (n : Int)).toNat : Nat) : Int)
    rw [Int.toNat_of_nonneg h0]
theorem pr_group {c : Int} {n : Nat} (h1 : 1 ≤ n) (h2 : n ≤ 1000) : P_group [.int c, .int (n : Int)] (fun s => s = .ow ((nats (groupN c n)).map .int)) (fun _ => False) := ⟨c, n, rfl, h1, h2, rfl⟩
end
end FS
set_option Elab.async false
set_option linter.all false
set_option maxRecDepth 100000
set_option maxHeartbeats 4000000
set_option exponentiation.threshold 20000
namespace FS
open PySem PySem.Spec PyProof.Rows L2

local macro_rules | `(tactic| walk_at "side") => `(tactic| first | assumption | omega | decide)
local macro_rules | `(tactic| walk_at "hv") => `(tactic| (intro i hi; simp at hi; first | (subst hi; rfl) | (rcases hi with rfl | rfl <;> rfl) | (rcases hi with rfl | rfl | rfl <;> rfl)))
local macro_rules | `(tactic| walk_at "pr") => `(tactic| fail "no promise")
local macro_rules | `(tactic| walk_at "rv") => `(tactic| first
  | (with_reducible exact rv_add) | (with_reducible exact rv_sub) | (with_reducible exact rv_lt) | (with_reducible exact rv_le) | (with_reducible exact rv_gt) | (with_reducible exact rv_ge) | (with_reducible exact rv_eq) | (with_reducible exact rv_ne)
  | (with_reducible exact rv_is) | (with_reducible exact rv_isnot)
  | ((with_reducible apply rv_div); first | assumption | exact cdiv_small (by omega) (by omega))
  | ((with_reducible apply rv_mod); first | assumption | omega)
  | ((with_reducible apply rv_mul); first | assumption | exact cmul_left (by omega) | exact cmul_right (by omega))
  | ((with_reducible apply rv_mulW); assumption)
  | (with_reducible exact rv_p8) | (with_reducible exact rv_p18) | (with_reducible exact rv_p40) | (with_reducible exact rv_p20) | (with_reducible exact rv_p6) | (with_reducible exact rv_p7) | (with_reducible exact rv_p12) | (with_reducible exact rv_p25) | (with_reducible exact rv_p30) | (with_reducible exact rv_p39) | (with_reducible exact rv_p60)
  | ((with_reducible apply rv_ixxL); first | assumption | exact at_getD (by omega) (by omega) | exact at_nat rfl)
  | ((with_reducible apply rv_ixxT); first | assumption | exact at_getD (by omega) (by omega) | exact at_nat rfl)
  | ((with_reducible apply rv_ixxC); first | assumption)
  | (with_reducible exact ru_neg))
local macro_rules | `(tactic| walk_at "isi") => `(tactic| first | (with_reducible exact isi_non_int) | (with_reducible exact isi_non_bool) | (with_reducible exact isi_non_str) | (with_reducible exact isi_non_tuple) | (with_reducible exact isi_non_list) | (with_reducible exact isi_bl_int) | (with_reducible exact isi_bl_bool) | (with_reducible exact isi_bl_str) | (with_reducible exact isi_bl_tuple) | (with_reducible exact isi_bl_list) | (with_reducible exact isi_int_int) | (with_reducible exact isi_int_bool) | (with_reducible exact isi_int_str) | (with_reducible exact isi_int_tuple) | (with_reducible exact isi_int_list) | (with_reducible exact isi_str_int) | (with_reducible exact isi_str_bool) | (with_reducible exact isi_str_str) | (with_reducible exact isi_str_tuple) | (with_reducible exact isi_str_list) | (with_reducible exact isi_tup_int) | (with_reducible exact isi_tup_bool) | (with_reducible exact isi_tup_str) | (with_reducible exact isi_tup_tuple) | (with_reducible exact isi_tup_list) | (with_reducible exact isi_lst_int) | (with_reducible exact isi_lst_bool) | (with_reducible exact isi_lst_str) | (with_reducible exact isi_lst_tuple) | (with_reducible exact isi_lst_list))
local macro_rules | `(tactic| walk_at "rc") => `(tactic| first
  | walk_at "isi"
  | (with_reducible exact rc_len) | (with_reducible exact rc_lent) | (with_reducible exact rc_lenc) | (with_reducible exact rc_toint) | (with_reducible exact rc_absv) | (with_reducible exact rc_gcd)
  | ((with_reducible apply rc_lcm); assumption)
  | ((with_reducible apply rc_isi); (focus rfl); assumption)
  | (with_reducible exact rco_list) | (with_reducible exact rco_listT))
local macro_rules | `(tactic| walk_at "ev") => `(tactic| first
  | (with_reducible exact ev_int) | (with_reducible exact ev_bl) | (with_reducible exact ev_non) | (with_reducible exact ev_str) | (with_reducible exact ev_ty)
  | ((with_reducible apply ev_var); rfl)
  | ((with_reducible apply ev_lenOw); rfl)
  | ((with_reducible apply ev_op) <;> first | walk_at "ev" | walk_at "rv")
  | ((with_reducible apply ev_un) <;> first | walk_at "ev" | walk_at "rv")
  | ((with_reducible apply ev_cb) <;> first | walk_at "ev" | walk_at "rc")
  | ((with_reducible apply ev_call) <;> first | walk_at "ev" | walk_at "pr")
  | ((with_reducible apply ev_tup) <;> first | walk_at "ev" | (simp; done))
  | (with_reducible exact ea_nil)
  | ((with_reducible apply ea_cons) <;> walk_at "ev")
  | ((with_reducible apply et_test); walk_at "ev")
  | ((with_reducible apply et_B); walk_at "ev")
  | ((with_reducible apply et_not); walk_at "ev")
  | ((with_reducible apply et_or); (walk_at "ev"); intro _; walk_at "ev")
  | ((with_reducible apply et_and); (walk_at "ev"); intro _; walk_at "ev")
  | ((with_reducible apply ev_orV); (walk_at "ev"); intro _; walk_at "ev")
  | ((with_reducible apply ev_andV); (walk_at "ev"); intro _; walk_at "ev")
  | ((with_reducible apply ev_notV); walk_at "ev")
  | (with_reducible exact et_yes)
  | ((with_reducible apply evo_lst) <;> first | walk_at "ev" | (simp; done))
  | ((with_reducible apply ev_opO) <;> first | walk_at "ev" | ((with_reducible apply rvo_add); simp; omega))
  | ((with_reducible apply ev_cbO) <;> first | walk_at "ev" | walk_at "rc")
  | ((with_reducible apply ev_callO) <;> first | walk_at "ev" | walk_at "pr")
  | ((with_reducible apply ec_call) <;> first | walk_at "ev" | walk_at "pr")
  | ((with_reducible apply ec_tup) <;> first | walk_at "ev" | (simp; done))
  | ((with_reducible apply ec_lst) <;> first | walk_at "ev" | (simp; done))
  | (with_reducible exact eca_nil)
  | ((with_reducible apply eca_cons) <;> walk_at "ev")
  | ((with_reducible apply ec_sc); (walk_at "ev"); rfl)
  | ((with_reducible apply ec_ow); (walk_at "ev"); first | assumption | (intro d hd; simp at hd; done))
  | ((with_reducible apply ec_fz); walk_at "ev")
  | ((with_reducible apply ev_fz); walk_at "ev"))

local macro_rules | `(tactic| walk_at "im") => `(tactic| ((with_reducible apply wq_asg); walk_at "ev"; (try dsimp only [List.set, Int.reduceToNat])))
local macro_rules | `(tactic| walk_at "ow") => `(tactic| ((with_reducible apply wq_asgO); walk_at "ev"; (focus (first | decide | (simp; done))); (try dsimp only [List.set, Int.reduceToNat])))
local macro_rules | `(tactic| walk_at "cl") => `(tactic| ((with_reducible apply wq_asgC); walk_at "ev"; (focus (first | decide | (simp; done))); (try dsimp only [List.set, Int.reduceToNat])))
local macro_rules | `(tactic| walk_at "if") => `(tactic| ((first | (with_reducible apply wq_when) | (with_reducible apply wq_if) | (with_reducible apply ws_if)); walk_at "ev"; (try dsimp only [Int.reduceToNat])))
local macro_rules | `(tactic| walk_at "ret") => `(tactic| ((with_reducible apply ws_ret); walk_at "ev"))
local macro_rules | `(tactic| walk_at "go") => `(tactic| (try dsimp only [cxOf, L2.Cx.nox, L2.Cx.wish, L2.Cx.blk]))
local macro_rules | `(tactic| walk_at "ints") => `(tactic| (refine ev_fz (evo_lst ?_ (by decide)); repeat (first | exact ea_nil | refine ea_cons ev_int ?_)))

def szC : List Int := [10, 6, 12, 9, 9]
def chD (c : Int) (i : Nat) : Int := (draws c szC).getD i 0
def chRow (c : Int) (rows : List (List Int)) : List Int := rows.getD (chD c 1 % (rows.length : Int)).toNat []
def chWs (c : Int) (rows odds : List (List Int)) : List Int := odds.getD (chD c 1 % (rows.length : Int)).toNat []
def chIn (c : Int) (rows : List (List Int)) : List Nat := insideN (chRow c rows) (chRow c rows).length (chD c 2 % ((chRow c rows).length : Int)).toNat
def chanceN (c : Int) (sights odds : List (List Int)) (lot : List Nat) : Num :=
  if chD c 0 < 4 then mk (heldC (chWs c sights odds) lot (chIn c sights) * 10 ^ 60 + [0, 0, 1, -1].getD (chD c 0).toNat 0 * totC (chWs c sights odds) (chIn c sights)) (totC (chWs c sights odds) (chIn c sights) * 10 ^ 60)
  else if chD c 0 < 8 then [(0, 1), (1, 1), (3, 2), (-1, 2)].getD (chD c 0 - 4).toNat (0, 1)
  else mk (chD c 3) (chD c 4 + 1)
theorem chD_bd (c : Int) (i : Nat) (h : i < 5) : 0 ≤ chD c i ∧ chD c i < szC.getD i 0 := draws_bd c szC i (by decide) h
theorem held_bd {ws : List Int} {c lot : List Nat} (hw : ∀ v ∈ c, 0 ≤ ws.getD v 0 ∧ ws.getD v 0 ≤ 10 ^ 40) (hl : c.length ≤ 12) : 0 ≤ heldC ws lot c ∧ (heldC ws lot c).natAbs < 2 ^ 150 := by
  have h12 := List.length_filter_le (fun w => decide (w ∈ lot)) c
  exact tot_bd (c := c.filter fun w => decide (w ∈ lot)) (fun v hv => hw v (List.mem_filter.mp hv).1) (by omega)
section
variable {P : Program} {w : World} {K : PySem.W.Frag} {mg : Str → Option Value} {base : Heap} {C_Book : Addr}
/-- tables of drawn books: every cell bears something -/
structure TabOk (n : Nat) (sights odds : List (List Int)) : Prop where
  g : GT n sights odds
  pos : ∀ q, q < sights.length → ∀ v, v < n → 0 < totC (odds.getD q []) (insideN (sights.getD q []) n v)
theorem tab_per {n : Nat} {sights odds : List (List Int)} (h : TabOk n sights odds) {q : Nat} (hq : q < sights.length) : PerT sights odds q (sights.getD q []) (odds.getD q []) ∧ (sights.getD q []).length = n := by
  have hs : sights[q]? = some (sights.getD q []) := by rw [List.getD_eq_getElem?_getD, List.getElem?_eq_getElem hq] <;> rfl
  have hoq : q < odds.length := by rw [h.g.len]; exact hq
  have ho : odds[q]? = some (odds.getD q []) := by rw [List.getD_eq_getElem?_getD, List.getElem?_eq_getElem hoq] <;> rfl
  have e1 := h.g.row _ (List.mem_of_getElem? hs)
  have e2 := h.g.orow _ (List.mem_of_getElem? ho)
  have n1 := h.g.n1
  have n2 := h.g.n2
  exact ⟨⟨hs, ho, by omega, by omega, by omega, h.g.wt _ (List.mem_of_getElem? ho)⟩, e1⟩
theorem p60' : (10 : Int) ^ 60 = 1000000000000000000000000000000000000000000000000000000000000 := by decide
theorem chance_facts {n : Nat} {sights odds : List (List Int)} (h : TabOk n sights odds) (c : Int) (lot : List Nat) : (chD c 1 % (sights.length : Int)).toNat < sights.length ∧ (chRow c sights).length = n ∧ (chD c 2 % ((chRow c sights).length : Int)).toNat < n ∧ PerT sights odds (chD c 1 % (sights.length : Int)).toNat (chRow c sights) (chWs c sights odds) ∧
    (∀ v ∈ chIn c sights, v < n) ∧ (chIn c sights).length ≤ 12 ∧ 0 < totC (chWs c sights odds) (chIn c sights) ∧ (totC (chWs c sights odds) (chIn c sights)).natAbs < 2 ^ 150 ∧ 0 ≤ heldC (chWs c sights odds) lot (chIn c sights) ∧ (heldC (chWs c sights odds) lot (chIn c sights)).natAbs < 2 ^ 150 := by
  have p1 := h.g.p1
  have n1 := h.g.n1
  have n2 := h.g.n2
  have hq : (chD c 1 % (sights.length : Int)).toNat < sights.length := by
    have h0 := Int.emod_nonneg (chD c 1) (b := (sights.length : Int)) (by omega)
    have h1 := Int.emod_lt_of_pos (chD c 1) (b := (sights.length : Int)) (by omega)
    omega
  obtain ⟨hp, hl⟩ := tab_per h hq
  have hl' : (chRow c sights).length = n := hl
  have hv : (chD c 2 % ((chRow c sights).length : Int)).toNat < n := by
    rw [hl']
    have h0 := Int.emod_nonneg (chD c 2) (b := (n : Int)) (by omega)
    have h1 := Int.emod_lt_of_pos (chD c 2) (b := (n : Int)) (by omega)
    omega
  have hin : ∀ v ∈ chIn c sights, v < n := fun v hv => by rw [← hl']; exact inside_lt hv
  have hil : (chIn c sights).length ≤ 12 := by
    have := inside_len (chRow c sights) (chRow c sights).length (chD c 2 % ((chRow c sights).length : Int)).toNat
    have e : (chIn c sights).length = (insideN (chRow c sights) (chRow c sights).length (chD c 2 % ((chRow c sights).length : Int)).toNat).length := rfl
    omega
  have hwt : ∀ v ∈ chIn c sights, 0 ≤ (chWs c sights odds).getD v 0 ∧ (chWs c sights odds).getD v 0 ≤ 10 ^ 40 := fun v hv => by
    have hvn := hin v hv
    have hwl : (chWs c sights odds).length = n := hp.l.symm.trans hl
    rw [List.getD_eq_getElem?_getD, List.getElem?_eq_getElem (by omega)]
    exact hp.wb _ (List.getElem_mem _)
  have hpos := h.pos _ hq _ hv
  refine ⟨hq, hl', hv, hp, hin, hil, ?_, (tot_bd hwt hil).2, (held_bd hwt hil).1, (held_bd hwt hil).2⟩
  have e : chIn c sights = insideN (sights.getD (chD c 1 % (sights.length : Int)).toNat []) n (chD c 2 % ((chRow c sights).length : Int)).toNat := by
    unfold chIn
    rw [hl']
    rfl
  rw [e]
  exact hpos
theorem chance_ok {n : Nat} {sights odds : List (List Int)} (h : TabOk n sights odds) (c : Int) (lot : List Nat) : ChOk (chanceN c sights odds lot) := by
  obtain ⟨_, _, _, _, _, _, t0, t1, h0, h1⟩ := chance_facts h c lot
  have d3 := chD_bd c 3 (by decide)
  have d4 := chD_bd c 4 (by decide)
  have e3 : szC.getD 3 0 = 9 := rfl
  have e4 : szC.getD 4 0 = 9 := rfl
  rw [e3] at d3
  rw [e4] at d4
  have h150 : (2 : Nat) ^ 150 = 1427247692705959881058285969449495136382746624 := by decide
  have h400 : (2 : Nat) ^ 400 = 2582249878086908589655919172003011874329705792829223512830659356540647622016841194629645353280137831435903171972747493376 := by decide
  have h400i : (2 : Int) ^ 400 = 2582249878086908589655919172003011874329705792829223512830659356540647622016841194629645353280137831435903171972747493376 := by decide
  unfold chanceN
  rw [p60']
  rw [h150] at t1 h1
  split
  · have hc : ∀ z : Int, 0 ≤ z → z < 4 → [0, 0, 1, -1].getD z.toNat 0 = (0 : Int) ∨ [0, 0, 1, -1].getD z.toNat 0 = (1 : Int) ∨ [0, 0, 1, -1].getD z.toNat 0 = (-1 : Int) := fun z a b => by
      have : z = 0 ∨ z = 1 ∨ z = 2 ∨ z = 3 := by omega
      rcases this with rfl | rfl | rfl | rfl <;> simp
    have d0 := chD_bd c 0 (by decide)
    have := hc (chD c 0) d0.1 (by assumption)
    have hg := mk_good (k := 400) (n := heldC (chWs c sights odds) lot (chIn c sights) * 1000000000000000000000000000000000000000000000000000000000000 + [0, 0, 1, -1].getD (chD c 0).toNat 0 * totC (chWs c sights odds) (chIn c sights)) (d := totC (chWs c sights odds) (chIn c sights) * 1000000000000000000000000000000000000000000000000000000000000) (by omega) (by rw [h400]; rcases this with e | e | e <;> rw [e] <;> omega) (by rw [h400i]; omega)
    exact ⟨hg.up, hg.pos, hg.dn⟩
  · split
    · have d0 := chD_bd c 0 (by decide)
      have : ∀ z : Int, 0 ≤ z → z < 4 → ChOk ([(0, 1), (1, 1), (3, 2), (-1, 2)].getD z.toNat (0, 1)) := fun z a b => by
        have : z = 0 ∨ z = 1 ∨ z = 2 ∨ z = 3 := by omega
        rcases this with rfl | rfl | rfl | rfl <;> exact ⟨by decide, by decide, by decide⟩
      exact this _ (by omega) (by omega)
    · have hg := mk_good (k := 400) (n := chD c 3) (d := chD c 4 + 1) (by omega) (by rw [h400]; omega) (by rw [h400i]; omega)
      exact ⟨hg.up, hg.pos, hg.dn⟩
def P_chance : PrD := fun ds R _ => ∃ (c : Int) (n : Nat) (sights odds : List (List Int)) (lot : List Nat), ds = [.int c, tabD sights odds, natsD lot] ∧ TabOk n sights odds ∧ R (.im (numD (chanceN c sights odds lot)))
theorem ok_chance (F : Df K mg "_law_chance" s_law_chance ["cell", "tables", "lot"]) (gm : Gm K mg C_Book) (G_law_draws : FnG P w K mg base CX0 1 "_law_draws" ["cell", "sizes"] (spD K P_draws)) (G_law_ratio : FnG P w K mg base CX0 2 "_law_ratio" ["n", "d"] (spD K (P_ratio 1999))) : FnG P w K mg base CX0 3 "_law_chance" ["cell", "tables", "lot"] (spD K P_chance) := by
  refine F.ok (k := 2) sc_law_chance (fun ds R Z ⟨a, b, c, d, e, f, _⟩ => by rw [f] <;> rfl) (fun f cdv A outer s H E hr => ?_)
  refine ⟨_,
    (pss_cons (sv 3 sc_law_chance.nd (pe_g G_law_draws hr.le pass0 (pa_cons (pv 0) (pa_cons (pe_lst (pa_cons pe_int (pa_cons pe_int (pa_cons pe_int (pa_cons pe_int (pa_cons pe_int pa_nil)))))) pa_nil))))
    (pss_cons (sv 4 sc_law_chance.nd (pe_op opMod (ct cInt gm.int (pa_cons (ix K (pv 3) pe_int) pa_nil)) (cb (kLen K) gm.len (pa_cons (ix K (pv 1) pe_int) pa_nil))))
    (pss_cons (sv 5 sc_law_chance.nd (ix K (ix K (pv 1) pe_int) (pv 4)))
    (pss_cons (sv 6 sc_law_chance.nd (pe_op opMod (ct cInt gm.int (pa_cons (ix K (pv 3) pe_int) pa_nil)) (cb (kLen K) gm.len (pa_cons (pv 5) pa_nil))))
    (pss_cons (ps_setLc (i := 7) (own := [("w", 8)]) rfl sc_law_chance.nd rfl rfl (sw_true rfl rfl rfl (by decide +kernel)) (pi_range1 (by rfl) gm.range (pa_cons (cb (kLen K) gm.len (pa_cons (pv 5) pa_nil)) pa_nil)) (blkOk_by (N := N_law_chance) (sc := defScope s_law_chance) (by decide +kernel)) (fun _ _ _ _ _ => (gn 8 sc_law_chance.nd)) (fun _ _ _ _ _ => (pts_one (pt_cmpR (kEq K hr.units) (ix K (pv 5) (pv 8)) (ix K (pv 5) (pv 6)) (nomark _)))) (fun _ _ _ _ _ => (pv 8)))
    (pss_cons (sv 9 sc_law_chance.nd (cb (kSum K rfl) gm.sum (pa_cons (pe_lc (own := [("w", 8)]) rfl sc_law_chance.nd (pl K (pv 7)) (blkOk_by (N := N_law_chance) (sc := defScope s_law_chance) (by decide +kernel)) (fun _ _ _ _ _ => (gn 8 sc_law_chance.nd)) (fun _ _ _ _ _ => pts_nil) (fun _ _ _ _ _ => (ix K (ix K (ix K (pv 1) pe_int) (pv 4)) (pv 8)))) pa_nil)))
    (pss_cons (sv 10 sc_law_chance.nd (cb (kSum K rfl) gm.sum (pa_cons (pe_lc (own := [("w", 8)]) rfl sc_law_chance.nd (pl K (pv 7)) (blkOk_by (N := N_law_chance) (sc := defScope s_law_chance) (by decide +kernel)) (fun _ _ _ _ _ => (gn 8 sc_law_chance.nd)) (fun _ _ _ _ _ => (pts_one (pt_cmpR (kIn K) (pv 8) (pv 2) (by rfl)))) (fun _ _ _ _ _ => (ix K (ix K (ix K (pv 1) pe_int) (pv 4)) (pv 8)))) pa_nil)))
    (pss_cons (ps_if (pt_cmpR opLt (ix K (pv 3) pe_int) pe_int (nomark _)) (pss_one (ps_ret (pe_g G_law_ratio hr.le pass0 (pa_cons (pe_op (kAdd K) (pe_op opMul (pv 10) (pe_op opPow pe_int pe_int)) (pe_op opMul (ix K (pe_lst (pa_cons pe_int (pa_cons pe_int (pa_cons pe_int (pa_cons (pe_un unNeg pe_int) pa_nil))))) (ix K (pv 3) pe_int)) (pv 9))) (pa_cons (pe_op opMul (pv 9) (pe_op opPow pe_int pe_int)) pa_nil))))) pss_nil)
    (pss_cons (ps_if (pt_cmpR opLt (ix K (pv 3) pe_int) pe_int (nomark _)) (pss_one (ps_ret (ix K (pe_lst (pa_cons (pe_tup (pa_cons pe_int (pa_cons pe_int pa_nil))) (pa_cons (pe_tup (pa_cons pe_int (pa_cons pe_int pa_nil))) (pa_cons (pe_tup (pa_cons pe_int (pa_cons pe_int pa_nil))) (pa_cons (pe_tup (pa_cons (pe_un unNeg pe_int) (pa_cons pe_int pa_nil))) pa_nil))))) (pe_op opSub (ix K (pv 3) pe_int) pe_int)))) pss_nil)
    (pss_one (ps_ret (pe_g G_law_ratio hr.le pass0 (pa_cons (ix K (pv 3) pe_int) (pa_cons (pe_op (kAdd K) (ix K (pv 3) pe_int) pe_int) pa_nil)))))))))))))), fun ds R Z p => ?_⟩
  obtain ⟨c, n, sights, odds, lot, rfl, ht, p⟩ := p
  refine ws_to (ρ' := [.im (.int c), .im (tabD sights odds), .im (natsD lot), .no, .no, .no, .no, .no, .no, .no, .no]) rfl ?_
  walk_at "go"
  obtain ⟨hq, hl, hv, hper, hin, hil, t0, t1, h0, h1⟩ := chance_facts ht c lot
  have p1 := ht.g.p1
  have n1 := ht.g.n1
  have n2 := ht.g.n2
  refine wq_asg (d := intsD (draws c szC)) (ec_fz (ec_call (ea_cons (ev_var rfl) (ea_cons (by walk_at "ints") ea_nil)) (pr_draws (sizes := szC) (by decide) (by decide)))) ?_
  dsimp only [List.set]
  have hdl : (draws c szC).length = 5 := draws_len _ _
  have hda : ∀ j : Nat, j < 5 → atI ((draws c szC).map D.int) (j : Int) = some (.int (chD c j)) := fun j hj => at_ints (by omega)
  have eq0 : chD c 1 % (sights.length : Int) = (((chD c 1 % (sights.length : Int)).toNat : Nat) : Int) := by
    have h0 := Int.emod_nonneg (chD c 1) (b := (sights.length : Int)) (by omega)
    omega
  refine wq_asg (d := .int (((chD c 1 % (sights.length : Int)).toNat : Nat) : Int)) ((ev_op (ev_cb (ea_cons (ev_op (ev_var rfl) ev_int (rv_ixxL (hda 1 (by decide)))) ea_nil) rc_toint) (ev_cb (ea_cons (ev_op (ev_var rfl) ev_int (rv_ixxL (at_nat (j := 0) rfl))) ea_nil) rc_len) (rv_mod (by rw [List.length_map]; omega))).is (by rw [List.length_map, ← eq0])) ?_
  dsimp only [List.set]
  have hsi := hper.s
  have hoi := hper.o
  generalize hQ : (chD c 1 % (sights.length : Int)).toNat = q at hsi hoi
  refine wq_asg (d := intsD (chRow c sights)) (ev_op (ev_op (ev_var rfl) ev_int (rv_ixxL (at_nat (j := 0) rfl))) (ev_var rfl) (rv_ixxL (at_map hsi))) ?_
  dsimp only [List.set]
  have ev0 : chD c 2 % ((chRow c sights).length : Int) = (((chD c 2 % ((chRow c sights).length : Int)).toNat : Nat) : Int) := by
    have h0 := Int.emod_nonneg (chD c 2) (b := ((chRow c sights).length : Int)) (by omega)
    omega
  have hrl : (((chRow c sights).map D.int).length : Int) = ((chRow c sights).length : Int) := by rw [List.length_map]
  refine wq_asg (d := .int (((chD c 2 % ((chRow c sights).length : Int)).toNat : Nat) : Int)) ((ev_op (ev_cb (ea_cons (ev_op (ev_var rfl) ev_int (rv_ixxL (hda 2 (by decide)))) ea_nil) rc_toint) (ev_cb (ea_cons (ev_var rfl) ea_nil) rc_len) (rv_mod (by rw [List.length_map]; omega))).is (by rw [hrl, ← ev0])) ?_
  dsimp only [List.set]
  have hwl := hper.l
  have hra : ∀ v, v < n → atI ((chRow c sights).map D.int) (v : Int) = some (.int ((chRow c sights).getD v 0)) := fun v hv => at_ints (by omega)
  have hwa : ∀ v, v < n → atI ((chWs c sights odds).map D.int) (v : Int) = some (.int ((chWs c sights odds).getD v 0)) := fun v hv => at_ints (by omega)
  have hci : chIn c sights = insideN (chRow c sights) (chRow c sights).length (chD c 2 % ((chRow c sights).length : Int)).toNat := rfl
  generalize (chD c 2 % ((chRow c sights).length : Int)).toNat = v0 at hv hci
  refine wq_asg (d := natsD (chIn c sights)) ((ev_fz (evo_lc (xs := List.range (chRow c sights).length) (enc := fun k : Nat => D.int (0 + (k : Int))) (fun u => decide ((chRow c sights).getD u 0 = (chRow c sights).getD v0 0)) (fun u => D.int (0 + (u : Int))) (src_rng1 (n := ((chRow c sights).length : Int)) (ea_cons ((ev_cb (ea_cons (ev_var rfl) ea_nil) rc_len).is (by rw [hrl])) ea_nil) (by omega)) (by walk_at "hv") (fun u hu => ⟨_, gd_name, by simp, ?_, fun _ => ?_⟩) (by rw [List.length_range]; omega))).is ?_) ?_
  · dsimp only [setD, wipeD, List.set, List.map]
    have hu := List.mem_range.mp hu
    have e1 : (0 : Int) + (u : Int) = ((u : Nat) : Int) := Int.zero_add _
    exact et_test (ev_op (ev_op (ev_var rfl) (ev_var rfl) (rv_ixxL (by rw [e1]; exact hra u (by omega)))) (ev_op (ev_var rfl) (ev_var rfl) (rv_ixxL (hra v0 hv))) rv_eq)
  · dsimp only [setD, wipeD, List.set, List.map]
    exact ev_var rfl
  · show D.lst _ = D.lst _
    rw [hci]
    unfold insideN
    congr 1
    refine List.map_congr_left fun u _ => ?_
    rw [Int.zero_add]
  dsimp only [List.set]
  have hws : ∀ (ρ : Rho) (v : Nat), v < n → ρ[1]? = some (.im (tabD sights odds)) → ρ[4]? = some (.im (.int (q : Int))) → ρ[8]? = some (.im (.int (v : Int))) → EvD K (tOp (rIx K) (tOp (rIx K) (tOp (rIx K) (tVar 1) (tC (.int 1))) (tVar 4)) (tVar 8)) ρ (.int ((chWs c sights odds).getD v 0)) := fun ρ v hv e1 e4 e8 =>
    ev_op (ev_op (ev_op (ev_var e1) ev_int (rv_ixxL (at_nat (j := 1) rfl))) (ev_var e4) (rv_ixxL (at_map hoi))) (ev_var e8) (rv_ixxL (hwa v hv))
  have hlotD : ∀ ρ : Rho, ρ[2]? = some (.im (natsD lot)) → EvD K (tVar 2) ρ (.lst ((nats lot).map .int)) := fun ρ e => ev_var (by rw [e, natsD_eq] <;> rfl)
  have hchance : chanceN c sights odds lot = if chD c 0 < 4 then mk (heldC (chWs c sights odds) lot (chIn c sights) * 10 ^ 60 + [0, 0, 1, -1].getD (chD c 0).toNat 0 * totC (chWs c sights odds) (chIn c sights)) (totC (chWs c sights odds) (chIn c sights) * 10 ^ 60)
    else if chD c 0 < 8 then [(0, 1), (1, 1), (3, 2), (-1, 2)].getD (chD c 0 - 4).toNat (0, 1) else mk (chD c 3) (chD c 4 + 1) := rfl
  rw [hchance, p60'] at p
  generalize chIn c sights = cl at hin hil t0 t1 h0 h1 p
  generalize hW : chWs c sights odds = ws at hws t0 t1 h0 h1 p
  refine wq_asg (d := .int (totC ws cl)) (ev_cb (ea_cons ((ev_fz (evo_map (xs := cl) (enc := fun n : Nat => .int (n : Int)) (fun v => D.int (ws.getD v 0)) (src_list (ev_var rfl)) (by walk_at "hv") (fun v hv => ⟨_, gd_name, by simp, ?_⟩) (by omega))).is ?_) ea_nil) (rc_sum (ns := cl.map fun v => ws.getD v 0))) ?_
  · dsimp only [setD, wipeD, List.set, List.map]
    exact hws _ v (hin v hv) rfl rfl rfl
  · rw [List.map_map]
    rfl
  dsimp only [List.set]
  refine wq_asg (d := .int (heldC ws lot cl)) (ev_cb (ea_cons ((ev_fz (evo_lc (xs := cl) (enc := fun n : Nat => .int (n : Int)) (fun v => decide (v ∈ lot)) (fun v => D.int (ws.getD v 0)) (src_list (ev_var rfl)) (by walk_at "hv") (fun v hv => ⟨_, gd_name, by simp, ?_, fun _ => ?_⟩) (by omega))).is ?_) ea_nil) (rc_sum (ns := (cl.filter fun w => decide (w ∈ lot)).map fun v => ws.getD v 0))) ?_
  · dsimp only [setD, wipeD, List.set, List.map]
    exact (et_test (ev_op (ev_var rfl) (hlotD _ rfl) rv_in)).is (decide_eq_decide.mpr mem_nats)
  · dsimp only [setD, wipeD, List.set, List.map]
    exact hws _ v (hin v hv) rfl rfl rfl
  · rw [List.map_map]
    rfl
  dsimp only [List.set]
  have d0 := chD_bd c 0 (by decide)
  have d4 := chD_bd c 4 (by decide)
  have h150 : (2 : Nat) ^ 150 = 1427247692705959881058285969449495136382746624 := by decide
  have m1 : CMulW (heldC ws lot cl) 1000000000000000000000000000000000000000000000000000000000000 := wide_mul (a := 150) (b := 200) h1 (by decide) (by decide) (by decide) (by decide)
  have m2 : CMulW (totC ws cl) 1000000000000000000000000000000000000000000000000000000000000 := wide_mul (a := 150) (b := 200) t1 (by decide) (by decide) (by decide) (by decide)
  refine wq_when (et_test (ev_op (ev_op (ev_var rfl) ev_int (rv_ixxL (hda 0 (by decide)))) ev_int rv_lt)) (fun hb => ?_) (fun hb => ?_)
  · have hb : chD c 0 < 4 := of_decide_eq_true hb
    rw [if_pos hb] at p
    have hat : atI [D.int 0, .int 0, .int 1, .int (-1)] (chD c 0) = some (.int ([0, 0, 1, -1].getD (chD c 0).toNat 0)) := at_getD (ns := [0, 0, 1, -1]) d0.1 (by show chD c 0 < 4; exact hb)
    have hcs : [0, 0, 1, -1].getD (chD c 0).toNat 0 = (0 : Int) ∨ [0, 0, 1, -1].getD (chD c 0).toNat 0 = (1 : Int) ∨ [0, 0, 1, -1].getD (chD c 0).toNat 0 = (-1 : Int) := by
      have : chD c 0 = 0 ∨ chD c 0 = 1 ∨ chD c 0 = 2 ∨ chD c 0 = 3 := by omega
      rcases this with e | e | e | e <;> rw [e] <;> simp
    have hd : totC ws cl * 1000000000000000000000000000000000000000000000000000000000000 < 2 ^ 1999 := by
      have : totC ws cl < 2 ^ 150 := by
        have h150i : (2 : Int) ^ 150 = 1427247692705959881058285969449495136382746624 := by decide
        rw [h150i]
        rw [h150] at t1
        omega
      refine Int.lt_trans (b := 2 ^ 400) ?_ (by exact_mod_cast (Nat.pow_lt_pow_right (by decide) (by decide) : 2 ^ 400 < 2 ^ 1999))
      have h150i : (2 : Int) ^ 150 = 1427247692705959881058285969449495136382746624 := by decide
      have h400i : (2 : Int) ^ 400 = 2582249878086908589655919172003011874329705792829223512830659356540647622016841194629645353280137831435903171972747493376 := by decide
      rw [h150i] at this
      rw [h400i]
      omega
    refine ws_ret (ec_fz (ec_call (ea_cons (ev_op (ev_op (ev_var rfl) (ev_op ev_int ev_int rv_p60) (rv_mulW m1)) (ev_op (ev_op (ev_fz (evo_lst (ea_cons ev_int (ea_cons ev_int (ea_cons ev_int (ea_cons (ev_un ev_int ru_neg) ea_nil)))) (by simp))) (ev_op (ev_var rfl) ev_int (rv_ixxL (hda 0 (by decide)))) (rv_ixxL hat)) (ev_var rfl) (rv_mul (cmul_left (by rcases hcs with e | e | e <;> rw [e] <;> decide)))) rv_add) (ea_cons (ev_op (ev_var rfl) (ev_op ev_int ev_int rv_p60) (rv_mulW m2)) ea_nil)) (pr_ratio (by omega) hd))) p
  · have hb : ¬ chD c 0 < 4 := of_decide_eq_false hb
    rw [if_neg hb] at p
    refine wq_when (et_test (ev_op (ev_op (ev_var rfl) ev_int (rv_ixxL (hda 0 (by decide)))) ev_int rv_lt)) (fun hb2 => ?_) (fun hb2 => ?_)
    · have hb2 : chD c 0 < 8 := of_decide_eq_true hb2
      rw [if_pos hb2] at p
      have hat : atI [numD (0, 1), numD (1, 1), numD (3, 2), numD (-1, 2)] (chD c 0 - 4) = some (numD ([(0, 1), (1, 1), (3, 2), (-1, 2)].getD (chD c 0 - 4).toNat (0, 1))) := by
        have : chD c 0 = 4 ∨ chD c 0 = 5 ∨ chD c 0 = 6 ∨ chD c 0 = 7 := by omega
        rcases this with e | e | e | e <;> rw [e] <;> rfl
      refine ws_ret (ev_op (ev_fz (evo_lst (ea_cons (ev_tup (ea_cons ev_int (ea_cons ev_int ea_nil)) (by simp)) (ea_cons (ev_tup (ea_cons ev_int (ea_cons ev_int ea_nil)) (by simp)) (ea_cons (ev_tup (ea_cons ev_int (ea_cons ev_int ea_nil)) (by simp)) (ea_cons (ev_tup (ea_cons (ev_un ev_int ru_neg) (ea_cons ev_int ea_nil)) (by simp)) ea_nil)))) (by simp))) (ev_op (ev_op (ev_var rfl) ev_int (rv_ixxL (hda 0 (by decide)))) ev_int rv_sub) (rv_ixxL hat)) p
    · have hb2 : ¬ chD c 0 < 8 := of_decide_eq_false hb2
      rw [if_neg hb2] at p
      have e4 : szC.getD 4 0 = 9 := rfl
      rw [e4] at d4
      have h10 : (2 : Int) ^ 10 = 1024 := by decide
      have hd4 : chD c 4 + 1 < 2 ^ 1999 := Int.lt_trans (b := 2 ^ 10) (by omega) (by exact_mod_cast (Nat.pow_lt_pow_right (by decide) (by decide) : 2 ^ 10 < 2 ^ 1999))
      exact ws_ret (ec_fz (ec_call (ea_cons (ev_op (ev_var rfl) ev_int (rv_ixxL (hda 3 (by decide)))) (ea_cons (ev_op (ev_op (ev_var rfl) ev_int (rv_ixxL (hda 4 (by decide)))) ev_int rv_add) ea_nil)) (pr_ratio (by omega) hd4))) p
theorem pr_chance {c : Int} {n : Nat} {sights odds : List (List Int)} {lot : List Nat} (h : TabOk n sights odds) : P_chance [.int c, tabD sights odds, natsD lot] (fun s => s = .im (numD (chanceN c sights odds lot))) (fun _ => False) := ⟨c, n, sights, odds, lot, rfl, h, rfl⟩
end
end FS
set_option Elab.async false
set_option linter.all false
set_option maxRecDepth 100000
set_option maxHeartbeats 4000000
set_option exponentiation.threshold 20000
namespace FS
open PySem PySem.Spec PyProof.Rows L2

local macro_rules | `(tactic| walk_at "side") => `(tactic| first | assumption | omega | decide)
local macro_rules | `(tactic| walk_at "hv") => `(tactic| (intro i hi; simp at hi; first | (subst hi; rfl) | (rcases hi with rfl | rfl <;> rfl) | (rcases hi with rfl | rfl | rfl <;> rfl)))
local macro_rules | `(tactic| walk_at "pr") => `(tactic| fail "no promise")
local macro_rules | `(tactic| walk_at "rv") => `(tactic| first
  | (with_reducible exact rv_add) | (with_reducible exact rv_sub) | (with_reducible exact rv_lt) | (with_reducible exact rv_le) | (with_reducible exact rv_gt) | (with_reducible exact rv_ge) | (with_reducible exact rv_eq) | (with_reducible exact rv_ne)
  | (with_reducible exact rv_is) | (with_reducible exact rv_isnot)
  | ((with_reducible apply rv_div); first | assumption | exact cdiv_small (by omega) (by omega))
  | ((with_reducible apply rv_mod); first | assumption | omega)
  | ((with_reducible apply rv_mul); first | assumption | exact cmul_left (by omega) | exact cmul_right (by omega))
  | ((with_reducible apply rv_mulW); assumption)
  | (with_reducible exact rv_p8) | (with_reducible exact rv_p18) | (with_reducible exact rv_p40) | (with_reducible exact rv_p20) | (with_reducible exact rv_p6) | (with_reducible exact rv_p7) | (with_reducible exact rv_p12) | (with_reducible exact rv_p25) | (with_reducible exact rv_p30) | (with_reducible exact rv_p39) | (with_reducible exact rv_p60)
  | ((with_reducible apply rv_ixxL); first | assumption | exact at_getD (by omega) (by omega) | exact at_nat rfl)
  | ((with_reducible apply rv_ixxT); first | assumption | exact at_getD (by omega) (by omega) | exact at_nat rfl)
  | ((with_reducible apply rv_ixxC); first | assumption)
  | (with_reducible exact ru_neg))
local macro_rules | `(tactic| walk_at "isi") => `(tactic| first | (with_reducible exact isi_non_int) | (with_reducible exact isi_non_bool) | (with_reducible exact isi_non_str) | (with_reducible exact isi_non_tuple) | (with_reducible exact isi_non_list) | (with_reducible exact isi_bl_int) | (with_reducible exact isi_bl_bool) | (with_reducible exact isi_bl_str) | (with_reducible exact isi_bl_tuple) | (with_reducible exact isi_bl_list) | (with_reducible exact isi_int_int) | (with_reducible exact isi_int_bool) | (with_reducible exact isi_int_str) | (with_reducible exact isi_int_tuple) | (with_reducible exact isi_int_list) | (with_reducible exact isi_str_int) | (with_reducible exact isi_str_bool) | (with_reducible exact isi_str_str) | (with_reducible exact isi_str_tuple) | (with_reducible exact isi_str_list) | (with_reducible exact isi_tup_int) | (with_reducible exact isi_tup_bool) | (with_reducible exact isi_tup_str) | (with_reducible exact isi_tup_tuple) | (with_reducible exact isi_tup_list) | (with_reducible exact isi_lst_int) | (with_reducible exact isi_lst_bool) | (with_reducible exact isi_lst_str) | (with_reducible exact isi_lst_tuple) | (with_reducible exact isi_lst_list))
local macro_rules | `(tactic| walk_at "rc") => `(tactic| first
  | walk_at "isi"
  | (with_reducible exact rc_len) | (with_reducible exact rc_lent) | (with_reducible exact rc_lenc) | (with_reducible exact rc_toint) | (with_reducible exact rc_absv) | (with_reducible exact rc_gcd)
  | ((with_reducible apply rc_lcm); assumption)
  | ((with_reducible apply rc_isi); (focus rfl); assumption)
  | (with_reducible exact rco_list) | (with_reducible exact rco_listT))
local macro_rules | `(tactic| walk_at "ev") => `(tactic| first
  | (with_reducible exact ev_int) | (with_reducible exact ev_bl) | (with_reducible exact ev_non) | (with_reducible exact ev_str) | (with_reducible exact ev_ty)
  | ((with_reducible apply ev_var); rfl)
  | ((with_reducible apply ev_lenOw); rfl)
  | ((with_reducible apply ev_op) <;> first | walk_at "ev" | walk_at "rv")
  | ((with_reducible apply ev_un) <;> first | walk_at "ev" | walk_at "rv")
  | ((with_reducible apply ev_cb) <;> first | walk_at "ev" | walk_at "rc")
  | ((with_reducible apply ev_call) <;> first | walk_at "ev" | walk_at "pr")
  | ((with_reducible apply ev_tup) <;> first | walk_at "ev" | (simp; done))
  | (with_reducible exact ea_nil)
  | ((with_reducible apply ea_cons) <;> walk_at "ev")
  | ((with_reducible apply et_test); walk_at "ev")
  | ((with_reducible apply et_B); walk_at "ev")
  | ((with_reducible apply et_not); walk_at "ev")
  | ((with_reducible apply et_or); (walk_at "ev"); intro _; walk_at "ev")
  | ((with_reducible apply et_and); (walk_at "ev"); intro _; walk_at "ev")
  | ((with_reducible apply ev_orV); (walk_at "ev"); intro _; walk_at "ev")
  | ((with_reducible apply ev_andV); (walk_at "ev"); intro _; walk_at "ev")
  | ((with_reducible apply ev_notV); walk_at "ev")
  | (with_reducible exact et_yes)
  | ((with_reducible apply evo_lst) <;> first | walk_at "ev" | (simp; done))
  | ((with_reducible apply ev_opO) <;> first | walk_at "ev" | ((with_reducible apply rvo_add); simp; omega))
  | ((with_reducible apply ev_cbO) <;> first | walk_at "ev" | walk_at "rc")
  | ((with_reducible apply ev_callO) <;> first | walk_at "ev" | walk_at "pr")
  | ((with_reducible apply ec_call) <;> first | walk_at "ev" | walk_at "pr")
  | ((with_reducible apply ec_tup) <;> first | walk_at "ev" | (simp; done))
  | ((with_reducible apply ec_lst) <;> first | walk_at "ev" | (simp; done))
  | (with_reducible exact eca_nil)
  | ((with_reducible apply eca_cons) <;> walk_at "ev")
  | ((with_reducible apply ec_sc); (walk_at "ev"); rfl)
  | ((with_reducible apply ec_ow); (walk_at "ev"); first | assumption | (intro d hd; simp at hd; done))
  | ((with_reducible apply ec_fz); walk_at "ev")
  | ((with_reducible apply ev_fz); walk_at "ev"))

local macro_rules | `(tactic| walk_at "im") => `(tactic| ((with_reducible apply wq_asg); walk_at "ev"; (try dsimp only [List.set, Int.reduceToNat])))
local macro_rules | `(tactic| walk_at "ow") => `(tactic| ((with_reducible apply wq_asgO); walk_at "ev"; (focus (first | decide | (simp; done))); (try dsimp only [List.set, Int.reduceToNat])))
local macro_rules | `(tactic| walk_at "cl") => `(tactic| ((with_reducible apply wq_asgC); walk_at "ev"; (focus (first | decide | (simp; done))); (try dsimp only [List.set, Int.reduceToNat])))
local macro_rules | `(tactic| walk_at "if") => `(tactic| ((first | (with_reducible apply wq_when) | (with_reducible apply wq_if) | (with_reducible apply ws_if)); walk_at "ev"; (try dsimp only [Int.reduceToNat])))
local macro_rules | `(tactic| walk_at "ret") => `(tactic| ((with_reducible apply ws_ret); walk_at "ev"))
local macro_rules | `(tactic| walk_at "go") => `(tactic| (try dsimp only [cxOf, L2.Cx.nox, L2.Cx.wish, L2.Cx.blk]))
local macro_rules | `(tactic| walk_at "ints") => `(tactic| (refine ev_fz (evo_lst ?_ (by decide)); repeat (first | exact ea_nil | refine ea_cons ev_int ?_)))

theorem RcD.is' {K : PySem.W.Frag} {r : List V → Hp → VK → Prop} {ds : List D} {x y : D} (h : RcD K r ds x) (e : x = y) : RcD K r ds y := e ▸ h

/-! ### no lot that fits holds more -/
def misfit (B : Nat → List Nat → List Nat) (lot other : List Nat) (q : Nat) : Nat := (other.filter fun v => (!decide (v ∈ B q other)) || !decide (v ∈ B q lot)).length
def fitsB (B : Nat → List Nat → List Nat) (lot other : List Nat) (qs : List Nat) : Bool := qs.all fun q => decide (misfit B lot other q = 0)
section
variable {P : Program} {w : World} {K : PySem.W.Frag} {mg : Str → Option Value} {base : Heap} {C_Book : Addr}
def P_greatest : PrD := fun ds R _ => ∃ (n : Nat) (sights odds : List (List Int)) (grp lot actual : List Nat) (ch : Num) (B : Nat → List Nat → List Nat), ds = [tabD sights odds, natsD grp, natsD lot, numD ch, natsD actual] ∧ TabOk n sights odds ∧ ChOk ch ∧
  (∀ q t, believedN (sights.getD q []) (odds.getD q []) t ch = B q t) ∧
  fitsB B lot actual ((List.range sights.length).filter fun q => decide (q ∈ grp)) = true ∧ (∀ o ∈ everyN n, fitsB B lot o ((List.range sights.length).filter fun q => decide (q ∈ grp)) = true → ∀ v ∈ o, v ∈ actual) ∧ R (.im (.bl true))
theorem ok_greatest (F : Df K mg "_law_is_greatest" s_law_is_greatest ["tables", "group", "lot", "chance", "actual"]) (gm : Gm K mg C_Book) (G_law_believed : FnG P w K mg base CX0 1 "_law_believed" ["tables", "person", "lot", "chance"] (spD K P_believed)) (G_law_every_lot : FnG P w K mg base CX0 1 "_law_every_lot" ["worlds"] (spD K P_every)) : FnG P w K mg base CX0 2 "_law_is_greatest" ["tables", "group", "lot", "chance", "actual"] (spD K P_greatest) := by
  refine F.ok (k := 1) sc_law_is_greatest (fun ds R Z ⟨a, b, c, d, e, f, g, h, i, _⟩ => by rw [i] <;> rfl) (fun f cdv A outer s H E hr => ?_)
  refine ⟨_,
    (pss_cons (ps_setLc (i := 5) (own := [("person", 6)]) rfl sc_law_is_greatest.nd rfl rfl (sw_true rfl rfl rfl (by decide +kernel)) (pi_range1 (by rfl) gm.range (pa_cons (cb (kLen K) gm.len (pa_cons (ix K (pv 0) pe_int) pa_nil)) pa_nil)) (blkOk_by (N := N_law_is_greatest) (sc := defScope s_law_is_greatest) (by decide +kernel)) (fun _ _ _ _ _ => (gn 6 sc_law_is_greatest.nd)) (fun _ _ _ _ _ => (pts_one (pt_cmpR (kIn K) (pv 6) (pv 1) (by rfl)))) (fun _ _ _ _ _ => (pv 6)))
    (pss_cons (sv 7 sc_law_is_greatest.nd (pe_lc (own := [("person", 6)]) rfl sc_law_is_greatest.nd (pl K (pv 5)) (blkOk_by (N := N_law_is_greatest) (sc := defScope s_law_is_greatest) (by decide +kernel)) (fun _ _ _ _ _ => (gn 6 sc_law_is_greatest.nd)) (fun _ _ _ _ _ => pts_nil) (fun _ _ _ _ _ => (pe_g G_law_believed hr.le pass0 (pa_cons (pv 0) (pa_cons (pv 6) (pa_cons (pv 2) (pa_cons (pv 3) pa_nil))))))))
    (pss_cons (ps_for PassesOwn.never rfl (pl K (pe_g G_law_every_lot hr.le pass0 (pa_cons (cb (kLen K) gm.len (pa_cons (ix K (ix K (pv 0) pe_int) pe_int) pa_nil)) pa_nil))) (gn 8 sc_law_is_greatest.nd) (pss_cons (sv 9 sc_law_is_greatest.nd pe_bl) (pss_cons (ps_for PassesOwn.never rfl (pi_range1 (by rfl) gm.range (pa_cons (cb (kLen K) gm.len (pa_cons (pv 5) pa_nil)) pa_nil)) (gn 10 sc_law_is_greatest.nd) (pss_cons (sv 11 sc_law_is_greatest.nd (pe_g G_law_believed hr.le pass0 (pa_cons (pv 0) (pa_cons (ix K (pv 5) (pv 10)) (pa_cons (pv 8) (pa_cons (pv 3) pa_nil)))))) (pss_one (ps_if (pt_cmpR opGt (cb (kLen K) gm.len (pa_cons (pe_lc (own := [("w", 12)]) rfl sc_law_is_greatest.nd (pl K (pv 8)) (blkOk_by (N := N_law_is_greatest) (sc := defScope s_law_is_greatest) (by decide +kernel)) (fun _ _ _ _ _ => (gn 12 sc_law_is_greatest.nd)) (fun _ _ _ _ _ => (pts_one (PW.pt (pw_or (pt_cmpR (kNotIn K) (pv 12) (pv 11) (by rfl)) (pw_or1 (pt_cmpR (kNotIn K) (pv 12) (ix K (pv 7) (pv 10)) (by rfl))))))) (fun _ _ _ _ _ => (pv 12))) pa_nil)) pe_int (nomark _)) (pss_one (sv 9 sc_law_is_greatest.nd pe_bl)) pss_nil)))) (pss_cons (ps_if (PW.pt (pw_and (pt_cmpR (kEq K hr.units) (pv 8) (pv 4) (nomark _)) (pw_and1 (pt_not (pt_val (pv 9)))))) (pss_one (ps_ret pe_bl)) pss_nil) (pss_one (ps_if (PW.pt (pw_and (pt_val (pv 9)) (pw_and1 (pt_cmpR opGt (cb (kLen K) gm.len (pa_cons (pe_lc (own := [("w", 12)]) rfl sc_law_is_greatest.nd (pl K (pv 8)) (blkOk_by (N := N_law_is_greatest) (sc := defScope s_law_is_greatest) (by decide +kernel)) (fun _ _ _ _ _ => (gn 12 sc_law_is_greatest.nd)) (fun _ _ _ _ _ => (pts_one (pt_cmpR (kNotIn K) (pv 12) (pv 4) (by rfl)))) (fun _ _ _ _ _ => (pv 12))) pa_nil)) pe_int (nomark _))))) (pss_one (ps_ret pe_bl)) pss_nil))))))
    (pss_one (ps_ret pe_bl))))), fun ds R Z p => ?_⟩
  obtain ⟨n, sights, odds, grp, lot, actual, ch, B, rfl, ht, hch, hB, hfit, hmax, p⟩ := p
  refine ws_to (ρ' := [.im (tabD sights odds), .im (natsD grp), .im (natsD lot), .im (numD ch), .im (natsD actual), .no, .no, .no, .no, .no, .no, .no, .no]) rfl ?_
  walk_at "go"
  have p1 := ht.g.p1
  have p2 := ht.g.p2
  have n2 := ht.g.n2
  have hnat : ∀ (ρ : Rho) (i : Nat) (l : List Nat), ρ[i]? = some (.im (natsD l)) → EvD K (tVar i) ρ (.lst ((nats l).map .int)) := fun ρ i l e => ev_var (by rw [e, natsD_eq] <;> rfl)
  have hqs : ∀ q ∈ (List.range sights.length).filter fun q => decide (q ∈ grp), q < sights.length := fun q hq => List.mem_range.mp (List.mem_filter.mp hq).1
  have hqsl : ((List.range sights.length).filter fun q => decide (q ∈ grp)).length ≤ 6 := by
    have := List.length_filter_le (fun q => decide (q ∈ grp)) (List.range sights.length)
    rw [List.length_range] at this
    omega
  refine wq_asg (d := natsD ((List.range sights.length).filter fun q => decide (q ∈ grp))) ((ev_fz (evo_lc (xs := List.range sights.length) (enc := fun k : Nat => D.int (0 + (k : Int))) (fun q => decide (q ∈ grp)) (fun q => D.int (0 + (q : Int))) (src_rng1 (n := (sights.length : Int)) (ea_cons ((ev_cb (ea_cons (ev_op (ev_var rfl) ev_int (rv_ixxL (at_nat (j := 0) rfl))) ea_nil) rc_len).is (by rw [List.length_map])) ea_nil) (by omega)) (by walk_at "hv") (fun q hq => ⟨_, gd_name, by simp, ?_, fun _ => ?_⟩) (by rw [List.length_range]; omega))).is ?_) ?_
  · dsimp only [setD, wipeD, List.set, List.map]
    refine (et_test (ev_op (ev_var rfl) (hnat _ 1 grp rfl) rv_in)).is ?_
    rw [Int.zero_add]
    exact decide_eq_decide.mpr mem_nats
  · dsimp only [setD, wipeD, List.set, List.map]
    exact ev_var rfl
  · show D.lst _ = D.lst _
    congr 1
    refine List.map_congr_left fun u _ => ?_
    rw [Int.zero_add]
  dsimp only [List.set]
  generalize ((List.range sights.length).filter fun q => decide (q ∈ grp)) = qs at hfit hmax hqs hqsl
  have hbel : ∀ (ρ : Rho) (i j : Nat) (q : Nat) (t : List Nat), q < sights.length → ρ[0]? = some (.im (tabD sights odds)) → EvD K (tVar i) ρ (.int (q : Int)) → EvD K (tVar j) ρ (natsD t) → ρ[3]? = some (.im (numD ch)) → True := fun _ _ _ _ _ _ _ _ _ _ => trivial
  refine wq_asg (d := .lst (qs.map fun q => natsD (B q lot))) (ev_fz (evo_map (xs := qs) (enc := fun n : Nat => .int (n : Int)) (fun q => natsD (B q lot)) (src_list (ev_var rfl)) (by walk_at "hv") (fun q hq => ⟨_, gd_name, by simp, ?_⟩) (by omega))) ?_
  · dsimp only [setD, wipeD, List.set, List.map]
    refine (ev_fz (ev_callO (ea_cons (ev_var rfl) (ea_cons (ev_var rfl) (ea_cons (ev_var rfl) (ea_cons (ev_var rfl) ea_nil)))) (pr_believed (tab_per ht (hqs q hq)).1 hch))).is ?_
    rw [hB, natsD_eq]
    rfl
  dsimp only [List.set]
  have hs0 : sights[0]? = some sights[0] := List.getElem?_eq_getElem (by omega)
  have hrow0 := ht.g.row _ (List.mem_of_getElem? hs0)
  refine wq_for (src_list (l := (everyN n).map natsD) (ev_call (ea_cons ((ev_cb (ea_cons (ev_op (ev_op (ev_var rfl) ev_int (rv_ixxL (at_nat (j := 0) rfl))) ev_int (rv_ixxL (at_map (k := 0) hs0))) ea_nil) rc_len).is (by rw [List.length_map, hrow0])) ea_nil) (pr_every n2)))
    (fun i ρ' => ∃ s8 s9 s10 s11 s12, ρ' = [.im (tabD sights odds), .im (natsD grp), .im (natsD lot), .im (numD ch), .im (natsD actual), .im (natsD qs), .no, .im (.lst (qs.map fun q => natsD (B q lot))), s8, s9, s10, s11, s12] ∧ isOw (some s12) = false) ⟨_, _, _, _, _, rfl, rfl⟩ ?_ ?_
  · rintro i d ρ' hd ⟨s8, s9, s10, s11, s12, rfl, h12⟩
    obtain ⟨o, ho, rfl⟩ := map_get hd
    have hom := List.mem_of_getElem? ho
    have hol := asc_len (every_lot n o hom)
    have hmx := hmax o hom
    refine ⟨_, gd_name, ?_⟩
    dsimp only [setD, List.set]
    refine wq_asg (d := .bl (fitsB B lot o (qs.take 0))) ev_bl ?_
    dsimp only [List.set]
    refine wq_for (src_rng1 (n := (qs.length : Int)) (ea_cons ((ev_cb (ea_cons (ev_var rfl) ea_nil) rc_len).is (by rw [List.length_map])) ea_nil) (by omega))
      (fun k ρ' => ∃ s10 s11 s12, ρ' = [.im (tabD sights odds), .im (natsD grp), .im (natsD lot), .im (numD ch), .im (natsD actual), .im (natsD qs), .no, .im (.lst (qs.map fun q => natsD (B q lot))), .im (natsD o), .im (.bl (fitsB B lot o (qs.take k))), s10, s11, s12] ∧ isOw (some s12) = false) ⟨_, _, _, rfl, h12⟩ ?_ ?_
    · rintro k d ρ' hd ⟨s10, s11, s12, rfl, h12⟩
      obtain ⟨hk, rfl⟩ := rng_get hd
      refine ⟨_, gd_name, ?_⟩
      dsimp only [setD, List.set]
      have hk : k < qs.length := by omega
      have hq : qs[k]? = some qs[k] := List.getElem?_eq_getElem hk
      have hqlt := hqs _ (List.mem_of_getElem? hq)
      generalize qs[k] = q at hq hqlt
      have e00 : (0 : Int) + (k : Int) = ((k : Nat) : Int) := Int.zero_add _
      refine wq_asg (d := intsD (nats (B q o))) (ev_fz ((ev_callO (ea_cons (ev_var rfl) (ea_cons (ev_op (ev_var rfl) (ev_var rfl) (rv_ixxL (by rw [e00]; exact at_nats hq))) (ea_cons (ev_var rfl) (ea_cons (ev_var rfl) ea_nil)))) (pr_believed (tab_per ht hqlt).1 hch)).is (by rw [hB]))) ?_
      dsimp only [List.set]
      have ef : fitsB B lot o (qs.take (k + 1)) = (fitsB B lot o (qs.take k) && decide (misfit B lot o q = 0)) := by
        unfold fitsB
        rw [List.take_add_one, hq, List.all_append]
        simp
      rw [ef]
      refine ws_if (b := decide (0 < misfit B lot o q)) ((et_test (ev_op (x := .int ((misfit B lot o q : Nat) : Int)) (ev_cb (ea_cons (ev_fz (evo_lc (xs := o) (enc := fun n : Nat => .int (n : Int)) (fun v => (!decide (v ∈ B q o)) || !decide (v ∈ B q lot)) (fun v => D.int (v : Int)) (src_list (ev_var rfl)) ?_ (fun v hv => ⟨_, gd_name, by simp, ?_, fun _ => ?_⟩) (by omega))) ea_nil) (rc_len.is' (by rw [List.length_map] <;> rfl))) ev_int rv_gt)).is (decide_eq_decide.mpr (by omega))) (fun hb => ?_) (fun hb => ?_)
      · intro j hj
        have hj : j = 12 := by simpa using hj
        rw [hj]
        exact h12
      · dsimp only [setD, wipeD, List.set, List.map]
        refine (et_or (et_test (ev_op (ev_var rfl) (ev_var (d := .lst ((nats (B q o)).map .int)) rfl) rv_notin)) (fun _ => et_test (ev_op (ev_var rfl) ((ev_op (ev_var rfl) (ev_var rfl) (rv_ixxL (by rw [e00]; exact at_map (f := fun q => natsD (B q lot)) hq))).is (natsD_eq _)) rv_notin))).is ?_
        rw [decide_eq_decide.mpr (mem_nats (l := B q o) (x := v)), decide_eq_decide.mpr (mem_nats (l := B q lot) (x := v))]
      · dsimp only [setD, wipeD, List.set, List.map]
        exact ev_var rfl
      · have hb : 0 < misfit B lot o q := of_decide_eq_true hb
        refine ws_asg (d := .bl (fitsB B lot o (qs.take k) && decide (misfit B lot o q = 0))) (ev_bl.is ?_) ⟨_, _, _, rfl, h12⟩
        rw [decide_eq_false (by omega), Bool.and_false]
      · have hb : ¬ 0 < misfit B lot o q := of_decide_eq_false hb
        refine ws_next ⟨.im (.int (0 + (k : Int))), .im (intsD (nats (B q o))), s12, ?_, h12⟩
        rw [decide_eq_true (show misfit B lot o q = 0 by omega), Bool.and_true]
    · rintro ρ' ⟨s10, s11, s12, rfl, h12⟩
      rw [rng_len, Int.toNat_natCast, List.take_length]
      refine wq_noif (b := decide (nats o = nats actual) && !fitsB B lot o qs) (et_and (et_test (ev_op ((ev_var rfl).is (natsD_eq o)) ((ev_var rfl).is (natsD_eq actual)) rv_eqInts)) fun _ => et_not (et_B (ev_var rfl))) ?_ ?_
      · by_cases h : o = actual
        · rw [h, hfit] <;> simp
        · rw [decide_eq_false (fun z => h (nats_inj.mp z))] <;> rfl
      · cases hf : fitsB B lot o qs with
        | false => exact ws_ifF (b := false && false) (et_and (a := false) (b := false) (et_B (ev_var rfl)) (fun z => by cases z)) rfl (ws_next ⟨_, _, _, _, _, rfl, h12⟩)
        | true =>
          have hall := hmx hf
          have hnone : (o.filter fun v => !decide (v ∈ actual)) = [] := List.filter_eq_nil_iff.mpr fun v hv => by simp [hall v hv]
          refine ws_ifF (b := true && decide ((0 : Int) < 0)) (et_and (et_B (ev_var rfl)) fun _ => et_test (ev_op (x := .int 0) (ev_cb (ea_cons ((ev_fz (evo_lc (xs := o) (enc := fun n : Nat => .int (n : Int)) (fun v => !decide (v ∈ actual)) (fun v => D.int (v : Int)) (src_list (ev_var rfl)) ?_ (fun v hv => ⟨_, gd_name, by simp, ?_, fun _ => ?_⟩) (by omega))).is (y := .lst []) (by rw [hnone] <;> rfl)) ea_nil) rc_len) ev_int rv_gt)) (by decide) (ws_next ⟨_, _, _, _, _, rfl, h12⟩)
          · intro j hj
            have hj : j = 12 := by simpa using hj
            rw [hj]
            exact h12
          · dsimp only [setD, wipeD, List.set, List.map]
            refine (et_test (ev_op (ev_var rfl) (hnat _ 4 actual rfl) rv_notin)).is ?_
            rw [decide_eq_decide.mpr (mem_nats (l := actual) (x := v))]
          · dsimp only [setD, wipeD, List.set, List.map]
            exact ev_var rfl
  · rintro ρ' ⟨s8, s9, s10, s11, s12, rfl, h12⟩
    exact ws_ret ev_bl p
end
end FS
set_option Elab.async false
set_option linter.all false
set_option maxRecDepth 100000
set_option maxHeartbeats 4000000
set_option exponentiation.threshold 20000
namespace FS
open PySem PySem.Spec PyProof.Rows L2

local macro_rules | `(tactic| walk_at "side") => `(tactic| first | assumption | omega | decide)
local macro_rules | `(tactic| walk_at "hv") => `(tactic| (intro i hi; simp at hi; first | (subst hi; rfl) | (rcases hi with rfl | rfl <;> rfl) | (rcases hi with rfl | rfl | rfl <;> rfl)))
local macro_rules | `(tactic| walk_at "pr") => `(tactic| fail "no promise")
local macro_rules | `(tactic| walk_at "rv") => `(tactic| first
  | (with_reducible exact rv_add) | (with_reducible exact rv_sub) | (with_reducible exact rv_lt) | (with_reducible exact rv_le) | (with_reducible exact rv_gt) | (with_reducible exact rv_ge) | (with_reducible exact rv_eq) | (with_reducible exact rv_ne)
  | (with_reducible exact rv_is) | (with_reducible exact rv_isnot)
  | ((with_reducible apply rv_div); first | assumption | exact cdiv_small (by omega) (by omega))
  | ((with_reducible apply rv_mod); first | assumption | omega)
  | ((with_reducible apply rv_mul); first | assumption | exact cmul_left (by omega) | exact cmul_right (by omega))
  | ((with_reducible apply rv_mulW); assumption)
  | (with_reducible exact rv_p8) | (with_reducible exact rv_p18) | (with_reducible exact rv_p40) | (with_reducible exact rv_p20) | (with_reducible exact rv_p6) | (with_reducible exact rv_p7) | (with_reducible exact rv_p12) | (with_reducible exact rv_p25) | (with_reducible exact rv_p30) | (with_reducible exact rv_p39) | (with_reducible exact rv_p60)
  | ((with_reducible apply rv_ixxL); first | assumption | exact at_getD (by omega) (by omega) | exact at_nat rfl)
  | ((with_reducible apply rv_ixxT); first | assumption | exact at_getD (by omega) (by omega) | exact at_nat rfl)
  | ((with_reducible apply rv_ixxC); first | assumption)
  | (with_reducible exact ru_neg))
local macro_rules | `(tactic| walk_at "isi") => `(tactic| first | (with_reducible exact isi_non_int) | (with_reducible exact isi_non_bool) | (with_reducible exact isi_non_str) | (with_reducible exact isi_non_tuple) | (with_reducible exact isi_non_list) | (with_reducible exact isi_bl_int) | (with_reducible exact isi_bl_bool) | (with_reducible exact isi_bl_str) | (with_reducible exact isi_bl_tuple) | (with_reducible exact isi_bl_list) | (with_reducible exact isi_int_int) | (with_reducible exact isi_int_bool) | (with_reducible exact isi_int_str) | (with_reducible exact isi_int_tuple) | (with_reducible exact isi_int_list) | (with_reducible exact isi_str_int) | (with_reducible exact isi_str_bool) | (with_reducible exact isi_str_str) | (with_reducible exact isi_str_tuple) | (with_reducible exact isi_str_list) | (with_reducible exact isi_tup_int) | (with_reducible exact isi_tup_bool) | (with_reducible exact isi_tup_str) | (with_reducible exact isi_tup_tuple) | (with_reducible exact isi_tup_list) | (with_reducible exact isi_lst_int) | (with_reducible exact isi_lst_bool) | (with_reducible exact isi_lst_str) | (with_reducible exact isi_lst_tuple) | (with_reducible exact isi_lst_list))
local macro_rules | `(tactic| walk_at "rc") => `(tactic| first
  | walk_at "isi"
  | (with_reducible exact rc_len) | (with_reducible exact rc_lent) | (with_reducible exact rc_lenc) | (with_reducible exact rc_toint) | (with_reducible exact rc_absv) | (with_reducible exact rc_gcd)
  | ((with_reducible apply rc_lcm); assumption)
  | ((with_reducible apply rc_isi); (focus rfl); assumption)
  | (with_reducible exact rco_list) | (with_reducible exact rco_listT))
local macro_rules | `(tactic| walk_at "ev") => `(tactic| first
  | (with_reducible exact ev_int) | (with_reducible exact ev_bl) | (with_reducible exact ev_non) | (with_reducible exact ev_str) | (with_reducible exact ev_ty)
  | ((with_reducible apply ev_var); rfl)
  | ((with_reducible apply ev_lenOw); rfl)
  | ((with_reducible apply ev_op) <;> first | walk_at "ev" | walk_at "rv")
  | ((with_reducible apply ev_un) <;> first | walk_at "ev" | walk_at "rv")
  | ((with_reducible apply ev_cb) <;> first | walk_at "ev" | walk_at "rc")
  | ((with_reducible apply ev_call) <;> first | walk_at "ev" | walk_at "pr")
  | ((with_reducible apply ev_tup) <;> first | walk_at "ev" | (simp; done))
  | (with_reducible exact ea_nil)
  | ((with_reducible apply ea_cons) <;> walk_at "ev")
  | ((with_reducible apply et_test); walk_at "ev")
  | ((with_reducible apply et_B); walk_at "ev")
  | ((with_reducible apply et_not); walk_at "ev")
  | ((with_reducible apply et_or); (walk_at "ev"); intro _; walk_at "ev")
  | ((with_reducible apply et_and); (walk_at "ev"); intro _; walk_at "ev")
  | ((with_reducible apply ev_orV); (walk_at "ev"); intro _; walk_at "ev")
  | ((with_reducible apply ev_andV); (walk_at "ev"); intro _; walk_at "ev")
  | ((with_reducible apply ev_notV); walk_at "ev")
  | (with_reducible exact et_yes)
  | ((with_reducible apply evo_lst) <;> first | walk_at "ev" | (simp; done))
  | ((with_reducible apply ev_opO) <;> first | walk_at "ev" | ((with_reducible apply rvo_add); simp; omega))
  | ((with_reducible apply ev_cbO) <;> first | walk_at "ev" | walk_at "rc")
  | ((with_reducible apply ev_callO) <;> first | walk_at "ev" | walk_at "pr")
  | ((with_reducible apply ec_call) <;> first | walk_at "ev" | walk_at "pr")
  | ((with_reducible apply ec_tup) <;> first | walk_at "ev" | (simp; done))
  | ((with_reducible apply ec_lst) <;> first | walk_at "ev" | (simp; done))
  | (with_reducible exact eca_nil)
  | ((with_reducible apply eca_cons) <;> walk_at "ev")
  | ((with_reducible apply ec_sc); (walk_at "ev"); rfl)
  | ((with_reducible apply ec_ow); (walk_at "ev"); first | assumption | (intro d hd; simp at hd; done))
  | ((with_reducible apply ec_fz); walk_at "ev")
  | ((with_reducible apply ev_fz); walk_at "ev"))

local macro_rules | `(tactic| walk_at "im") => `(tactic| ((with_reducible apply wq_asg); walk_at "ev"; (try dsimp only [List.set, Int.reduceToNat])))
local macro_rules | `(tactic| walk_at "ow") => `(tactic| ((with_reducible apply wq_asgO); walk_at "ev"; (focus (first | decide | (simp; done))); (try dsimp only [List.set, Int.reduceToNat])))
local macro_rules | `(tactic| walk_at "cl") => `(tactic| ((with_reducible apply wq_asgC); walk_at "ev"; (focus (first | decide | (simp; done))); (try dsimp only [List.set, Int.reduceToNat])))
local macro_rules | `(tactic| walk_at "if") => `(tactic| ((first | (with_reducible apply wq_when) | (with_reducible apply wq_if) | (with_reducible apply ws_if)); walk_at "ev"; (try dsimp only [Int.reduceToNat])))
local macro_rules | `(tactic| walk_at "ret") => `(tactic| ((with_reducible apply ws_ret); walk_at "ev"))
local macro_rules | `(tactic| walk_at "go") => `(tactic| (try dsimp only [cxOf, L2.Cx.nox, L2.Cx.wish, L2.Cx.blk]))
local macro_rules | `(tactic| walk_at "ints") => `(tactic| (refine ev_fz (evo_lst ?_ (by decide)); repeat (first | exact ea_nil | refine ea_cons ev_int ?_)))

section
variable {K : PySem.W.Frag} {E : L2.WX} {ρ : Rho} {P : Pst} {to : TE} {tz : TS} {d : D} {l : List D} {i : Nat} {π : List Nat}
/-- xs.clear(), xs an open list -/
theorem ws_clr (e : ρ[i]? = some (.ow l)) (h : P.nx (ρ.set i (.ow []))) : Ws K E (tDrop (tBM0 K "list" rClear (tVar i))) ρ P := fun M T0 H T σ Dn en k => by
  obtain ⟨p, vs, h1, h2, h4, h5, _⟩ := en.own e
  exact ⟨.ref p, h1, .inl ⟨rfl, vs, .inl (.inl h2)⟩, p, vs, rfl, rfl, h2, k.nx _ _ _ _ h (Same.refl _) (h5 [] [] rfl)⟩
/-- PATH.clear() -/
theorem ws_clrP (e : ρ[i]? = some (.cl d)) (hp : EvL K to ρ i π) (hd : D.at π d = some (.lst l)) (h : P.nx (ρ.set i (.cl (D.put π d (.lst []))))) : Ws K E (tDrop (tBM0 K "list" rClear to)) ρ P := fun M T0 H T σ Dn en k =>
  hp M T0 H T σ [] _ en fun u H1 T1 s1 t1 e1 ⟨v, n1, n2⟩ => by
    obtain ⟨v', u', Ls, L0, h1, ⟨a, vs, Lt, eu, eL, hl⟩, h3, h4, h5⟩ := e1.spot e hd
    rw [n1] at h1
    cases h1
    have eu' := Nav.eq n2 h3
    subst eu'
    subst eu
    subst eL
    have hT : T1 a = some (.lst vs) := h4.here rfl (a, .lst vs) List.mem_cons_self
    refine ⟨.inl ⟨rfl, vs, .inl (.inl hT)⟩, a, vs, rfl, rfl, hT, k.nx _ σ H1 _ h s1 ?_⟩
    refine h5 H1 _ [] (.lst []) [(a, .lst [])] (Same.refl _) ?_ ⟨a, [], [], rfl, rfl, rfl, rfl⟩
    have g6 := EnX.write (o' := .lst []) h4
    refine g6.sub ?_
    refine List.Sublist.cons_cons _ ?_
    exact List.sublist_append_right _ _
theorem wq_clr (e : ρ[i]? = some (.ow l)) (h : Ws K E tz (ρ.set i (.ow [])) P) : Ws K E (tSeq (tDrop (tBM0 K "list" rClear (tVar i))) tz) ρ P := ws_seq (ws_clr e h)
theorem wq_clrP (e : ρ[i]? = some (.cl d)) (hp : EvL K to ρ i π) (hd : D.at π d = some (.lst l)) (h : Ws K E tz (ρ.set i (.cl (D.put π d (.lst [])))) P) : Ws K E (tSeq (tDrop (tBM0 K "list" rClear to)) tz) ρ P := ws_seq (ws_clrP e hp hd h)
end
theorem pl_nats {k : Nat} {l : List Nat} (h : l.length ≤ 100000) : D.pl (k + 1) (natsD l) = true := by
  unfold natsD
  rw [D.pl, D.plL_of (fun d hd => by
    obtain ⟨x, _, rfl⟩ := List.mem_map.mp hd
    exact D.pl_int), List.length_map, decide_eq_true h] <;> rfl

section
variable {P : Program} {w : World} {K : PySem.W.Frag} {mg : Str → Option Value} {base : Heap} {C_Book : Addr}
def P_bright (C : Addr) : PrD := fun ds R _ => ∃ (b : BookM) (sights odds : List (List Int)) (q : Nat) (lot : List Nat) (ch : Num) (lab : List Nat) (wl row ws : List Int), ds = [bookD C b, tabD sights odds, .int (q : Int), natsD lot, numD ch] ∧ Per b q lab wl ∧ PerT sights odds q row ws ∧ Lot b.worlds lot ∧ ChOk ch ∧ believesN lab wl lot ch = believedN row ws lot ch ∧ R (.im (.bl true))
theorem ok_bright (F : Df K mg "_law_believes_right" s_law_believes_right ["book", "tables", "person", "lot", "chance"]) (gm : Gm K mg C_Book) (G_law_believed : FnG P w K mg base CX0 1 "_law_believed" ["tables", "person", "lot", "chance"] (spD K P_believed)) (G_believes : FnG P w K mg base CX0 3 "believes" ["book", "person", "lot", "chance"] (spD K (P_believes C_Book))) (G_law_same : FnG P w K mg base CX0 3 "_law_same" ["actual", "due"] (spD K (P_same 2))) : FnG P w K mg base CX0 4 "_law_believes_right" ["book", "tables", "person", "lot", "chance"] (spD K (P_bright C_Book)) := by
  refine F.ok (k := 3) sc_law_believes_right (fun ds R Z ⟨a, b, c, d, e, f, g, h, i, j, k, _⟩ => by rw [k] <;> rfl) (fun f cdv A outer s H E hr => ?_)
  refine ⟨_,
    (pss_cons (sv 5 sc_law_believes_right.nd (pe_g G_law_believed hr.le pass0 (pa_cons (pv 1) (pa_cons (pv 2) (pa_cons (pv 3) (pa_cons (pv 4) pa_nil))))))
    (pss_cons (sv 6 sc_law_believes_right.nd (ct (kList K) gm.list (pa_cons (pv 3) pa_nil)))
    (pss_cons (sv 7 sc_law_believes_right.nd (pe_g G_believes hr.le pass0 (pa_cons (pv 0) (pa_cons (pv 2) (pa_cons (pv 6) (pa_cons (pv 4) pa_nil))))))
    (pss_cons (ps_if (PW.pt (pw_or (pt_cmpR (kNe K hr.units) (pv 6) (pv 3) (nomark _)) (pw_or1 (pt_not (pt_val (pe_g G_law_same hr.le pass0 (pa_cons (pv 7) (pa_cons (pv 5) pa_nil)))))))) (pss_one (ps_ret pe_bl)) pss_nil)
    (pss_cons (ps_expr (pe_bm0 PySem.F.plainAttrs_list PySem.F.slot_list_clear PySem.F.type_list_clear mt_clear (pv 6)))
    (pss_cons (ps_expr (ml_append K (pv 7) (pa_cons pe_int pa_nil)))
    (pss_one (ps_ret (pe_g G_law_same hr.le pass0 (pa_cons (pe_g G_believes hr.le pass0 (pa_cons (pv 0) (pa_cons (pv 2) (pa_cons (ct (kList K) gm.list (pa_cons (pv 3) pa_nil)) (pa_cons (pv 4) pa_nil))))) (pa_cons (pv 5) pa_nil))))))))))), fun ds R Z p => ?_⟩
  obtain ⟨b, sights, odds, q, lot, ch, lab, wl, row, ws, rfl, hp, ht, hlot, hch, heq, p⟩ := p
  refine ws_to (ρ' := [.im (bookD C_Book b), .im (tabD sights odds), .im (.int (q : Int)), .im (natsD lot), .im (numD ch), .no, .no, .no]) rfl ?_
  walk_at "go"
  have hll := asc_len hlot
  have n2 := hp.n2
  have elot : (lot.map fun n : Nat => D.int (n : Int)) = (nats lot).map .int := by rw [nats, List.map_map] <;> rfl
  refine wq_asg (d := natsD (believedN row ws lot ch)) ((ev_fz (ev_callO (ea_cons (ev_var rfl) (ea_cons (ev_var rfl) (ea_cons (ev_var rfl) (ea_cons (ev_var rfl) ea_nil)))) (pr_believed ht hch))).is (natsD_eq _).symm) ?_
  dsimp only [List.set]
  have hbl : (believedN row ws lot ch).length ≤ 12 := by
    have := List.length_filter_le (fun v => believeC ws lot ch (insideN row row.length v)) (List.range row.length)
    rw [List.length_range] at this
    have := ht.n2
    unfold believedN
    omega
  have hpl : D.pl 2 (natsD (believedN row ws lot ch)) = true := pl_nats (by omega)
  have hpb := pr_believes (C := C_Book) hp hlot hch
  rw [heq] at hpb
  generalize believedN row ws lot ch = due at hbl hpl hpb
  refine wq_asgO (l := (nats lot).map .int) ((ev_cbO (ea_cons (ev_var rfl) ea_nil) rco_list).is elot) (by simp) ?_
  dsimp only [List.set]
  refine wq_asgC (ec_callN (ena_cons (en_d (ev_var rfl)) (ena_cons (en_d (ev_var rfl)) (ena_cons (en_ow (i := 6) rfl) (ena_cons (en_d (ev_var rfl)) ena_nil)))) (by rw [← elot]; exact hpb) (by rw [natsD_eq]; exact kf_ints _)) (by simp) ?_
  dsimp only [List.set]
  refine wq_noif (et_or (et_test (ev_now (en_op (en_ow (i := 6) rfl) (en_d ((ev_var rfl).is (natsD_eq lot))) rv_neInts) rfl)) fun _ => et_not (et_B (ev_callN (ena_cons (en_cl rfl) (ena_cons (en_d (ev_var rfl)) ena_nil)) (pr_same hpl) rfl))) (by simp) ?_
  refine wq_clr (i := 6) rfl ?_
  dsimp only [List.set]
  refine ws_seq (ws_appP (i := 7) (π := []) (l := due.map fun n : Nat => .int (n : Int)) rfl (el_var rfl) rfl (ec_sc ev_int rfl) (by rw [List.length_map]; omega) ?_)
  dsimp only [List.set]
  refine ws_ret (ev_call (ea_cons (ec_fz (ec_call (ea_cons (ev_var rfl) (ea_cons (ev_var rfl) (ea_cons (ev_fz (ev_cbO (ea_cons (ev_var rfl) ea_nil) rco_list)) (ea_cons (ev_var rfl) ea_nil)))) hpb)) (ea_cons (ev_var rfl) ea_nil)) (pr_same hpl)) p
theorem pr_bright {C : Addr} {b : BookM} {sights odds : List (List Int)} {q : Nat} {lot : List Nat} {ch : Num} {lab : List Nat} {wl row ws : List Int} (h1 : Per b q lab wl) (h2 : PerT sights odds q row ws) (h3 : Lot b.worlds lot) (h4 : ChOk ch) (h5 : believesN lab wl lot ch = believedN row ws lot ch) :
    P_bright C [bookD C b, tabD sights odds, .int (q : Int), natsD lot, numD ch] (fun s => s = .im (.bl true)) (fun _ => False) := ⟨b, sights, odds, q, lot, ch, lab, wl, row, ws, rfl, h1, h2, h3, h4, h5, rfl⟩
end
end FS
set_option Elab.async false
set_option linter.all false
set_option maxRecDepth 100000
set_option maxHeartbeats 4000000
set_option exponentiation.threshold 20000
namespace FS
open PySem PySem.Spec PyProof.Rows L2

local macro_rules | `(tactic| walk_at "side") => `(tactic| first | assumption | omega | decide)
local macro_rules | `(tactic| walk_at "hv") => `(tactic| (intro i hi; simp at hi; first | (subst hi; rfl) | (rcases hi with rfl | rfl <;> rfl) | (rcases hi with rfl | rfl | rfl <;> rfl)))
local macro_rules | `(tactic| walk_at "pr") => `(tactic| fail "no promise")
local macro_rules | `(tactic| walk_at "rv") => `(tactic| first
  | (with_reducible exact rv_add) | (with_reducible exact rv_sub) | (with_reducible exact rv_lt) | (with_reducible exact rv_le) | (with_reducible exact rv_gt) | (with_reducible exact rv_ge) | (with_reducible exact rv_eq) | (with_reducible exact rv_ne)
  | (with_reducible exact rv_is) | (with_reducible exact rv_isnot)
  | ((with_reducible apply rv_div); first | assumption | exact cdiv_small (by omega) (by omega))
  | ((with_reducible apply rv_mod); first | assumption | omega)
  | ((with_reducible apply rv_mul); first | assumption | exact cmul_left (by omega) | exact cmul_right (by omega))
  | ((with_reducible apply rv_mulW); assumption)
  | (with_reducible exact rv_p8) | (with_reducible exact rv_p18) | (with_reducible exact rv_p40) | (with_reducible exact rv_p20) | (with_reducible exact rv_p6) | (with_reducible exact rv_p7) | (with_reducible exact rv_p12) | (with_reducible exact rv_p25) | (with_reducible exact rv_p30) | (with_reducible exact rv_p39) | (with_reducible exact rv_p60)
  | ((with_reducible apply rv_ixxL); first | assumption | exact at_getD (by omega) (by omega) | exact at_nat rfl)
  | ((with_reducible apply rv_ixxT); first | assumption | exact at_getD (by omega) (by omega) | exact at_nat rfl)
  | ((with_reducible apply rv_ixxC); first | assumption)
  | (with_reducible exact ru_neg))
local macro_rules | `(tactic| walk_at "isi") => `(tactic| first | (with_reducible exact isi_non_int) | (with_reducible exact isi_non_bool) | (with_reducible exact isi_non_str) | (with_reducible exact isi_non_tuple) | (with_reducible exact isi_non_list) | (with_reducible exact isi_bl_int) | (with_reducible exact isi_bl_bool) | (with_reducible exact isi_bl_str) | (with_reducible exact isi_bl_tuple) | (with_reducible exact isi_bl_list) | (with_reducible exact isi_int_int) | (with_reducible exact isi_int_bool) | (with_reducible exact isi_int_str) | (with_reducible exact isi_int_tuple) | (with_reducible exact isi_int_list) | (with_reducible exact isi_str_int) | (with_reducible exact isi_str_bool) | (with_reducible exact isi_str_str) | (with_reducible exact isi_str_tuple) | (with_reducible exact isi_str_list) | (with_reducible exact isi_tup_int) | (with_reducible exact isi_tup_bool) | (with_reducible exact isi_tup_str) | (with_reducible exact isi_tup_tuple) | (with_reducible exact isi_tup_list) | (with_reducible exact isi_lst_int) | (with_reducible exact isi_lst_bool) | (with_reducible exact isi_lst_str) | (with_reducible exact isi_lst_tuple) | (with_reducible exact isi_lst_list))
local macro_rules | `(tactic| walk_at "rc") => `(tactic| first
  | walk_at "isi"
  | (with_reducible exact rc_len) | (with_reducible exact rc_lent) | (with_reducible exact rc_lenc) | (with_reducible exact rc_toint) | (with_reducible exact rc_absv) | (with_reducible exact rc_gcd)
  | ((with_reducible apply rc_lcm); assumption)
  | ((with_reducible apply rc_isi); (focus rfl); assumption)
  | (with_reducible exact rco_list) | (with_reducible exact rco_listT))
local macro_rules | `(tactic| walk_at "ev") => `(tactic| first
  | (with_reducible exact ev_int) | (with_reducible exact ev_bl) | (with_reducible exact ev_non) | (with_reducible exact ev_str) | (with_reducible exact ev_ty)
  | ((with_reducible apply ev_var); rfl)
  | ((with_reducible apply ev_lenOw); rfl)
  | ((with_reducible apply ev_op) <;> first | walk_at "ev" | walk_at "rv")
  | ((with_reducible apply ev_un) <;> first | walk_at "ev" | walk_at "rv")
  | ((with_reducible apply ev_cb) <;> first | walk_at "ev" | walk_at "rc")
  | ((with_reducible apply ev_call) <;> first | walk_at "ev" | walk_at "pr")
  | ((with_reducible apply ev_tup) <;> first | walk_at "ev" | (simp; done))
  | (with_reducible exact ea_nil)
  | ((with_reducible apply ea_cons) <;> walk_at "ev")
  | ((with_reducible apply et_test); walk_at "ev")
  | ((with_reducible apply et_B); walk_at "ev")
  | ((with_reducible apply et_not); walk_at "ev")
  | ((with_reducible apply et_or); (walk_at "ev"); intro _; walk_at "ev")
  | ((with_reducible apply et_and); (walk_at "ev"); intro _; walk_at "ev")
  | ((with_reducible apply ev_orV); (walk_at "ev"); intro _; walk_at "ev")
  | ((with_reducible apply ev_andV); (walk_at "ev"); intro _; walk_at "ev")
  | ((with_reducible apply ev_notV); walk_at "ev")
  | (with_reducible exact et_yes)
  | ((with_reducible apply evo_lst) <;> first | walk_at "ev" | (simp; done))
  | ((with_reducible apply ev_opO) <;> first | walk_at "ev" | ((with_reducible apply rvo_add); simp; omega))
  | ((with_reducible apply ev_cbO) <;> first | walk_at "ev" | walk_at "rc")
  | ((with_reducible apply ev_callO) <;> first | walk_at "ev" | walk_at "pr")
  | ((with_reducible apply ec_call) <;> first | walk_at "ev" | walk_at "pr")
  | ((with_reducible apply ec_tup) <;> first | walk_at "ev" | (simp; done))
  | ((with_reducible apply ec_lst) <;> first | walk_at "ev" | (simp; done))
  | (with_reducible exact eca_nil)
  | ((with_reducible apply eca_cons) <;> walk_at "ev")
  | ((with_reducible apply ec_sc); (walk_at "ev"); rfl)
  | ((with_reducible apply ec_ow); (walk_at "ev"); first | assumption | (intro d hd; simp at hd; done))
  | ((with_reducible apply ec_fz); walk_at "ev")
  | ((with_reducible apply ev_fz); walk_at "ev"))

local macro_rules | `(tactic| walk_at "im") => `(tactic| ((with_reducible apply wq_asg); walk_at "ev"; (try dsimp only [List.set, Int.reduceToNat])))
local macro_rules | `(tactic| walk_at "ow") => `(tactic| ((with_reducible apply wq_asgO); walk_at "ev"; (focus (first | decide | (simp; done))); (try dsimp only [List.set, Int.reduceToNat])))
local macro_rules | `(tactic| walk_at "cl") => `(tactic| ((with_reducible apply wq_asgC); walk_at "ev"; (focus (first | decide | (simp; done))); (try dsimp only [List.set, Int.reduceToNat])))
local macro_rules | `(tactic| walk_at "if") => `(tactic| ((first | (with_reducible apply wq_when) | (with_reducible apply wq_if) | (with_reducible apply ws_if)); walk_at "ev"; (try dsimp only [Int.reduceToNat])))
local macro_rules | `(tactic| walk_at "ret") => `(tactic| ((with_reducible apply ws_ret); walk_at "ev"))
local macro_rules | `(tactic| walk_at "go") => `(tactic| (try dsimp only [cxOf, L2.Cx.nox, L2.Cx.wish, L2.Cx.blk]))
local macro_rules | `(tactic| walk_at "ints") => `(tactic| (refine ev_fz (evo_lst ?_ (by decide)); repeat (first | exact ea_nil | refine ea_cons ev_int ?_)))

theorem stepF_congr {B B' : Nat → List Nat → List Nat} : ∀ (grp t : List Nat), (∀ q ∈ grp, ∀ t, B q t = B' q t) → stepF B grp t = stepF B' grp t
  | [], t, _ => rfl
  | q :: grp, t, h => by
    unfold stepF
    rw [List.foldl_cons, List.foldl_cons, h q List.mem_cons_self]
    exact stepF_congr grp _ fun q hq => h q (List.mem_cons_of_mem _ hq)
theorem firstF_congr {B B' : Nat → List Nat → List Nat} (lot : List Nat) : ∀ (grp t : List Nat), (∀ q ∈ grp, ∀ t, B q t = B' q t) → firstF B grp lot t = firstF B' grp lot t
  | [], t, _ => rfl
  | q :: grp, t, h => by
    unfold firstF
    rw [List.foldl_cons, List.foldl_cons, h q List.mem_cons_self]
    exact firstF_congr lot grp _ fun q hq => h q (List.mem_cons_of_mem _ hq)
theorem loopF_congr {B B' : Nat → List Nat → List Nat} {grp : List Nat} (h : ∀ q ∈ grp, ∀ t, B q t = B' q t) : ∀ (k : Nat) (t : List Nat), loopF B grp k t = loopF B' grp k t
  | 0, t => rfl
  | k + 1, t => by rw [loopF, loopF, stepF_congr grp t h, loopF_congr h k]
theorem commonN_congr {B B' : Nat → List Nat → List Nat} {grp : List Nat} (h : ∀ q ∈ grp, ∀ t, B q t = B' q t) (n : Nat) (lot : List Nat) : commonN B n grp lot = commonN B' n grp lot := by
  unfold commonN
  rw [firstF_congr lot grp _ h, loopF_congr h]
theorem loop_sub {B : Nat → List Nat → List Nat} {grp : List Nat} : ∀ (k : Nat) (t : List Nat), (loopF B grp k t).Sublist t
  | 0, t => List.Sublist.refl _
  | k + 1, t => by
    rw [loopF]
    split
    · exact (loop_sub k _).trans (step_sub B grp t)
    · exact step_sub B grp t
theorem common_lot (B : Nat → List Nat → List Nat) (n : Nat) (grp lot : List Nat) : Lot n (commonN B n grp lot) := lot_sub (lot_range n) ((loop_sub _ _).trans (first_sub B lot grp _))
section
variable {P : Program} {w : World} {K : PySem.W.Frag} {mg : Str → Option Value} {base : Heap} {C_Book : Addr}
structure CmOk (C : Addr) (b : BookM) (n : Nat) (sights odds : List (List Int)) (grp lot : List Nat) (ch : Num) (lab : Nat → List Nat) (wl : Nat → List Int) : Prop where
  t : TabOk n sights odds
  w : b.worlds = n
  g : ∀ q ∈ grp, q < sights.length
  gl : grp.length ≤ 1000
  per : ∀ q, q < sights.length → Per b q (lab q) (wl q)
  eq : ∀ q, q < sights.length → ∀ t, believesN (lab q) (wl q) t ch = believedN (sights.getD q []) (odds.getD q []) t ch
  l : Lot n lot
  c : ChOk ch
  fit : fitsB (fun q t => believedN (sights.getD q []) (odds.getD q []) t ch) lot (commonN (fun q t => believedN (sights.getD q []) (odds.getD q []) t ch) n grp lot) ((List.range sights.length).filter fun q => decide (q ∈ grp)) = true
  max : ∀ o ∈ everyN n, fitsB (fun q t => believedN (sights.getD q []) (odds.getD q []) t ch) lot o ((List.range sights.length).filter fun q => decide (q ∈ grp)) = true → ∀ v ∈ o, v ∈ commonN (fun q t => believedN (sights.getD q []) (odds.getD q []) t ch) n grp lot
def P_cright (C : Addr) : PrD := fun ds R _ => ∃ (b : BookM) (n : Nat) (sights odds : List (List Int)) (grp lot : List Nat) (ch : Num) (lab : Nat → List Nat) (wl : Nat → List Int), ds = [bookD C b, tabD sights odds, natsD grp, natsD lot, numD ch] ∧ CmOk C b n sights odds grp lot ch lab wl ∧ R (.im (.bl true))
theorem ok_cright (F : Df K mg "_law_common_right" s_law_common_right ["book", "tables", "group", "lot", "chance"]) (gm : Gm K mg C_Book) (G_law_left : FnG P w K mg base CX0 2 "_law_left" ["tables", "group", "lot", "chance"] (spD K P_left)) (G_common_belief : FnG P w K mg base CX0 4 "common_belief" ["book", "group", "lot", "chance"] (spD K (P_common C_Book)))
    (G_law_same : FnG P w K mg base CX0 3 "_law_same" ["actual", "due"] (spD K (P_same 2))) (G_law_is_greatest : FnG P w K mg base CX0 2 "_law_is_greatest" ["tables", "group", "lot", "chance", "actual"] (spD K P_greatest)) : FnG P w K mg base CX0 5 "_law_common_right" ["book", "tables", "group", "lot", "chance"] (spD K (P_cright C_Book)) := by
  refine F.ok (k := 4) sc_law_common_right (fun ds R Z ⟨a, b, c, d, e, f, g, h, i, j, _⟩ => by rw [j] <;> rfl) (fun f cdv A outer s H E hr => ?_)
  refine ⟨_,
    (pss_cons (sv 5 sc_law_common_right.nd (pe_g G_law_left hr.le pass0 (pa_cons (pv 1) (pa_cons (pv 2) (pa_cons (pv 3) (pa_cons (pv 4) pa_nil))))))
    (pss_cons (sv 6 sc_law_common_right.nd (pe_lst (pa_cons (ct (kList K) gm.list (pa_cons (pv 2) pa_nil)) (pa_cons (ct (kList K) gm.list (pa_cons (pv 3) pa_nil)) pa_nil))))
    (pss_cons (sv 7 sc_law_common_right.nd (pe_g G_common_belief hr.le pass0 (pa_cons (pv 0) (pa_cons (ix K (pv 6) pe_int) (pa_cons (ix K (pv 6) pe_int) (pa_cons (pv 4) pa_nil))))))
    (pss_cons (ps_if (PW.pt (pw_or (pt_cmpR (kNe K hr.units) (pv 6) (pe_lst (pa_cons (pv 2) (pa_cons (pv 3) pa_nil))) (nomark _)) (pw_or1 (pt_not (pt_val (pe_g G_law_same hr.le pass0 (pa_cons (pv 7) (pa_cons (pv 5) pa_nil)))))))) (pss_one (ps_ret pe_bl)) pss_nil)
    (pss_cons (ps_if (PW.pt (pw_and (pt_cmpR opLe (cb (kLen K) gm.len (pa_cons (ix K (ix K (pv 1) pe_int) pe_int) pa_nil)) pe_int (nomark _)) (pw_and1 (pt_not (pt_val (pe_g G_law_is_greatest hr.le pass0 (pa_cons (pv 1) (pa_cons (pv 2) (pa_cons (pv 3) (pa_cons (pv 4) (pa_cons (pv 7) pa_nil))))))))))) (pss_one (ps_ret pe_bl)) pss_nil)
    (pss_cons (ps_expr (pe_bm0 PySem.F.plainAttrs_list PySem.F.slot_list_clear PySem.F.type_list_clear mt_clear (ix K (pv 6) pe_int)))
    (pss_cons (ps_expr (ml_append K (pv 7) (pa_cons pe_int pa_nil)))
    (pss_one (ps_ret (pe_g G_law_same hr.le pass0 (pa_cons (pe_g G_common_belief hr.le pass0 (pa_cons (pv 0) (pa_cons (ct (kList K) gm.list (pa_cons (pv 2) pa_nil)) (pa_cons (ct (kList K) gm.list (pa_cons (pv 3) pa_nil)) (pa_cons (pv 4) pa_nil))))) (pa_cons (pv 5) pa_nil)))))))))))), fun ds R Z p => ?_⟩
  obtain ⟨b, n, sights, odds, grp, lot, ch, lab, wl, rfl, hok, p⟩ := p
  refine ws_to (ρ' := [.im (bookD C_Book b), .im (tabD sights odds), .im (natsD grp), .im (natsD lot), .im (numD ch), .no, .no, .no]) rfl ?_
  walk_at "go"
  have ht := hok.t
  have p1 := ht.g.p1
  have n1 := ht.g.n1
  have n2 := ht.g.n2
  have hgl := hok.gl
  have hs0 : sights[0]? = some sights[0] := List.getElem?_eq_getElem (by omega)
  have hrow0 := ht.g.row _ (List.mem_of_getElem? hs0)
  have hlot := hok.l
  have hll := asc_len hlot
  have e2 : ∀ l : List Nat, (l.map fun n : Nat => D.int (n : Int)) = (nats l).map .int := fun l => by rw [nats, List.map_map] <;> rfl
  have hpl := pr_left (sights := sights) (odds := odds) (n := n) (grp := grp) (lot := lot) (ch := ch) (row := fun q => sights.getD q []) (ws := fun q => odds.getD q []) ⟨_, hs0, hrow0⟩ n2 (fun q hq => tab_per ht (hok.g q hq)) hok.c
  have hpc := pr_common (C := C_Book) (b := b) (grp := grp) (lot := lot) (ch := ch) (lab := lab) (ws := wl) (fun q hq => hok.per q (hok.g q hq)) (by rw [hok.w]; exact hlot) hok.c (by rw [hok.w]; exact n1) (by rw [hok.w]; exact n2)
  have hcc : commonN (fun q t => believesN (lab q) (wl q) t ch) b.worlds grp lot = commonN (fun q t => believedN (sights.getD q []) (odds.getD q []) t ch) n grp lot := by
    rw [hok.w]
    exact commonN_congr (fun q hq t => hok.eq q (hok.g q hq) t) n lot
  rw [hcc] at hpc
  have hcl := asc_len (common_lot (fun q t => believedN (sights.getD q []) (odds.getD q []) t ch) n grp lot)
  have hgr : ∀ z, z = commonN (fun q t => believedN (sights.getD q []) (odds.getD q []) t ch) n grp lot → P_greatest [tabD sights odds, natsD grp, natsD lot, numD ch, natsD z] (fun s => s = .im (.bl true)) (fun _ => False) := fun z hz => by
    subst hz
    exact ⟨n, sights, odds, grp, lot, _, ch, _, rfl, ht, hok.c, fun _ _ => rfl, hok.fit, hok.max, rfl⟩
  have hgr := hgr _ rfl
  generalize commonN (fun q t => believedN (sights.getD q []) (odds.getD q []) t ch) n grp lot = due at hpl hpc hcl hgr
  have hpl2 : D.pl 2 (natsD due) = true := pl_nats (by omega)
  refine wq_asg (d := natsD due) ((ev_fz (ev_callO (ea_cons (ev_var rfl) (ea_cons (ev_var rfl) (ea_cons (ev_var rfl) (ea_cons (ev_var rfl) ea_nil)))) hpl)).is (natsD_eq _).symm) ?_
  dsimp only [List.set]
  have hsc : ∀ l : List Nat, ∀ d ∈ l.map (fun n : Nat => D.int (n : Int)), d.sc = true := fun l d hd => by
    obtain ⟨x, _, rfl⟩ := List.mem_map.mp hd
    rfl
  refine wq_asgC (d := .lst [natsD grp, natsD lot]) (ec_lst (eca_cons (ec_ow (ev_cbO (ea_cons (ev_var rfl) ea_nil) rco_list) (hsc grp)) (eca_cons (ec_ow (ev_cbO (ea_cons (ev_var rfl) ea_nil) rco_list) (hsc lot)) eca_nil)) (by simp)) (by simp) ?_
  dsimp only [List.set]
  have hsp0 : ∀ ρ : Rho, ρ[6]? = some (.cl (.lst [natsD grp, natsD lot])) → EvN K (tOp (rIx K) (tVar 6) (tC (.int 0))) ρ (natsD grp) := fun ρ e => en_spot (i := 6) (π := [0]) e (el_ix e (el_var e) rfl ev_int rfl) rfl
  have hsp1 : ∀ ρ : Rho, ρ[6]? = some (.cl (.lst [natsD grp, natsD lot])) → EvN K (tOp (rIx K) (tVar 6) (tC (.int 1))) ρ (natsD lot) := fun ρ e => en_spot (i := 6) (π := [1]) e (el_ix e (el_var e) rfl ev_int rfl) rfl
  refine wq_asgO (l := (nats due).map .int) (ev_callOn (ena_cons (en_d (ev_var rfl)) (ena_cons (hsp0 _ rfl) (ena_cons (hsp1 _ rfl) (ena_cons (en_d (ev_var rfl)) ena_nil)))) hpc (scal_ints _)) (by simp) ?_
  dsimp only [List.set]
  have hfl : D.flat 2 (.lst [natsD grp, natsD lot]) = true := by
    rw [D.flat, flatL_iff]
    intro d hd
    have hd : d = natsD grp ∨ d = natsD lot := by simpa using hd
    rcases hd with rfl | rfl <;> (rw [natsD_eq]; exact flat_intsD _)
  have hsame : P_same 2 [.lst ((nats due).map .int), natsD due] (fun s => s = .im (.bl true)) (fun _ => False) := by
    have := pr_same hpl2
    rw [natsD_eq] at this ⊢
    exact this
  refine wq_noif (et_or (et_test (ev_now (en_op (en_cl (i := 6) rfl) (en_d (ev_fz (evo_lst (ea_cons (ev_var rfl) (ea_cons (ev_var rfl) ea_nil)) (by simp)))) (rv_neDD hfl (by decide))) rfl)) fun _ => et_not (et_B (ev_callN (ena_cons (en_ow (i := 7) rfl) (ena_cons (en_d (ev_var rfl)) ena_nil)) hsame rfl))) (by rfl) ?_
  have hgr2 : P_greatest [tabD sights odds, natsD grp, natsD lot, numD ch, .lst ((nats due).map .int)] (fun s => s = .im (.bl true)) (fun _ => False) := by
    have := hgr
    rw [natsD_eq due] at this
    exact this
  refine wq_noif (b := decide ((n : Int) ≤ 6) && false) (et_and (b := false) (et_test (ev_op ((ev_cb (ea_cons (ev_op (ev_op (ev_var rfl) ev_int (rv_ixxL (at_nat (j := 0) rfl))) ev_int (rv_ixxL (at_map (k := 0) hs0))) ea_nil) rc_len).is (by rw [List.length_map, hrow0])) ev_int rv_le)) fun _ => et_not (a := true) (et_B (ev_callN (ena_cons (en_d (ev_var rfl)) (ena_cons (en_d (ev_var rfl)) (ena_cons (en_d (ev_var rfl)) (ena_cons (en_d (ev_var rfl)) (ena_cons (en_ow (i := 7) rfl) ena_nil))))) hgr2 rfl))) (by rw [Bool.and_false]) ?_
  refine wq_clrP (i := 6) (π := [1]) (l := lot.map fun n : Nat => .int (n : Int)) rfl (el_ix rfl (el_var rfl) rfl ev_int rfl) rfl ?_
  dsimp only [List.set]
  refine wq_app (i := 7) rfl ev_int (by rw [nats, List.length_map, List.length_map]; omega) ?_
  dsimp only [List.set]
  have hpc2 : P_common C_Book [bookD C_Book b, .lst (grp.map fun n : Nat => .int (n : Int)), .lst (lot.map fun n : Nat => .int (n : Int)), numD ch] (fun s => s = .ow ((nats due).map .int)) (fun _ => False) := hpc
  refine ws_ret (ev_call (ea_cons (ev_fz (ev_callO (ea_cons (ev_var rfl) (ea_cons (ev_fz (ev_cbO (ea_cons (ev_var rfl) ea_nil) rco_list)) (ea_cons (ev_fz (ev_cbO (ea_cons (ev_var rfl) ea_nil) rco_list)) (ea_cons (ev_var rfl) ea_nil)))) hpc2)) (ea_cons (ev_var rfl) ea_nil)) hsame) p
theorem pr_cright {C : Addr} {b : BookM} {n : Nat} {sights odds : List (List Int)} {grp lot : List Nat} {ch : Num} {lab : Nat → List Nat} {wl : Nat → List Int} (h : CmOk C b n sights odds grp lot ch lab wl) : P_cright C [bookD C b, tabD sights odds, natsD grp, natsD lot, numD ch] (fun s => s = .im (.bl true)) (fun _ => False) := ⟨b, n, sights, odds, grp, lot, ch, lab, wl, rfl, h, rfl⟩
end
end FS
set_option Elab.async false
set_option linter.all false
set_option maxRecDepth 100000
set_option maxHeartbeats 4000000
set_option exponentiation.threshold 20000
namespace FS
open PySem PySem.Spec PyProof.Rows L2

local macro_rules | `(tactic| walk_at "side") => `(tactic| first | assumption | omega | decide)
local macro_rules | `(tactic| walk_at "hv") => `(tactic| (intro i hi; simp at hi; first | (subst hi; rfl) | (rcases hi with rfl | rfl <;> rfl) | (rcases hi with rfl | rfl | rfl <;> rfl)))
local macro_rules | `(tactic| walk_at "pr") => `(tactic| fail "no promise")
local macro_rules | `(tactic| walk_at "rv") => `(tactic| first
  | (with_reducible exact rv_add) | (with_reducible exact rv_sub) | (with_reducible exact rv_lt) | (with_reducible exact rv_le) | (with_reducible exact rv_gt) | (with_reducible exact rv_ge) | (with_reducible exact rv_eq) | (with_reducible exact rv_ne)
  | (with_reducible exact rv_is) | (with_reducible exact rv_isnot)
  | ((with_reducible apply rv_div); first | assumption | exact cdiv_small (by omega) (by omega))
  | ((with_reducible apply rv_mod); first | assumption | omega)
  | ((with_reducible apply rv_mul); first | assumption | exact cmul_left (by omega) | exact cmul_right (by omega))
  | ((with_reducible apply rv_mulW); assumption)
  | (with_reducible exact rv_p8) | (with_reducible exact rv_p18) | (with_reducible exact rv_p40) | (with_reducible exact rv_p20) | (with_reducible exact rv_p6) | (with_reducible exact rv_p7) | (with_reducible exact rv_p12) | (with_reducible exact rv_p25) | (with_reducible exact rv_p30) | (with_reducible exact rv_p39) | (with_reducible exact rv_p60)
  | ((with_reducible apply rv_ixxL); first | assumption | exact at_getD (by omega) (by omega) | exact at_nat rfl)
  | ((with_reducible apply rv_ixxT); first | assumption | exact at_getD (by omega) (by omega) | exact at_nat rfl)
  | ((with_reducible apply rv_ixxC); first | assumption)
  | (with_reducible exact ru_neg))
local macro_rules | `(tactic| walk_at "isi") => `(tactic| first | (with_reducible exact isi_non_int) | (with_reducible exact isi_non_bool) | (with_reducible exact isi_non_str) | (with_reducible exact isi_non_tuple) | (with_reducible exact isi_non_list) | (with_reducible exact isi_bl_int) | (with_reducible exact isi_bl_bool) | (with_reducible exact isi_bl_str) | (with_reducible exact isi_bl_tuple) | (with_reducible exact isi_bl_list) | (with_reducible exact isi_int_int) | (with_reducible exact isi_int_bool) | (with_reducible exact isi_int_str) | (with_reducible exact isi_int_tuple) | (with_reducible exact isi_int_list) | (with_reducible exact isi_str_int) | (with_reducible exact isi_str_bool) | (with_reducible exact isi_str_str) | (with_reducible exact isi_str_tuple) | (with_reducible exact isi_str_list) | (with_reducible exact isi_tup_int) | (with_reducible exact isi_tup_bool) | (with_reducible exact isi_tup_str) | (with_reducible exact isi_tup_tuple) | (with_reducible exact isi_tup_list) | (with_reducible exact isi_lst_int) | (with_reducible exact isi_lst_bool) | (with_reducible exact isi_lst_str) | (with_reducible exact isi_lst_tuple) | (with_reducible exact isi_lst_list))
local macro_rules | `(tactic| walk_at "rc") => `(tactic| first
  | walk_at "isi"
  | (with_reducible exact rc_len) | (with_reducible exact rc_lent) | (with_reducible exact rc_lenc) | (with_reducible exact rc_toint) | (with_reducible exact rc_absv) | (with_reducible exact rc_gcd)
  | ((with_reducible apply rc_lcm); assumption)
  | ((with_reducible apply rc_isi); (focus rfl); assumption)
  | (with_reducible exact rco_list) | (with_reducible exact rco_listT))
local macro_rules | `(tactic| walk_at "ev") => `(tactic| first
  | (with_reducible exact ev_int) | (with_reducible exact ev_bl) | (with_reducible exact ev_non) | (with_reducible exact ev_str) | (with_reducible exact ev_ty)
  | ((with_reducible apply ev_var); rfl)
  | ((with_reducible apply ev_lenOw); rfl)
  | ((with_reducible apply ev_op) <;> first | walk_at "ev" | walk_at "rv")
  | ((with_reducible apply ev_un) <;> first | walk_at "ev" | walk_at "rv")
  | ((with_reducible apply ev_cb) <;> first | walk_at "ev" | walk_at "rc")
  | ((with_reducible apply ev_call) <;> first | walk_at "ev" | walk_at "pr")
  | ((with_reducible apply ev_tup) <;> first | walk_at "ev" | (simp; done))
  | (with_reducible exact ea_nil)
  | ((with_reducible apply ea_cons) <;> walk_at "ev")
  | ((with_reducible apply et_test); walk_at "ev")
  | ((with_reducible apply et_B); walk_at "ev")
  | ((with_reducible apply et_not); walk_at "ev")
  | ((with_reducible apply et_or); (walk_at "ev"); intro _; walk_at "ev")
  | ((with_reducible apply et_and); (walk_at "ev"); intro _; walk_at "ev")
  | ((with_reducible apply ev_orV); (walk_at "ev"); intro _; walk_at "ev")
  | ((with_reducible apply ev_andV); (walk_at "ev"); intro _; walk_at "ev")
  | ((with_reducible apply ev_notV); walk_at "ev")
  | (with_reducible exact et_yes)
  | ((with_reducible apply evo_lst) <;> first | walk_at "ev" | (simp; done))
  | ((with_reducible apply ev_opO) <;> first | walk_at "ev" | ((with_reducible apply rvo_add); simp; omega))
  | ((with_reducible apply ev_cbO) <;> first | walk_at "ev" | walk_at "rc")
  | ((with_reducible apply ev_callO) <;> first | walk_at "ev" | walk_at "pr")
  | ((with_reducible apply ec_call) <;> first | walk_at "ev" | walk_at "pr")
  | ((with_reducible apply ec_tup) <;> first | walk_at "ev" | (simp; done))
  | ((with_reducible apply ec_lst) <;> first | walk_at "ev" | (simp; done))
  | (with_reducible exact eca_nil)
  | ((with_reducible apply eca_cons) <;> walk_at "ev")
  | ((with_reducible apply ec_sc); (walk_at "ev"); rfl)
  | ((with_reducible apply ec_ow); (walk_at "ev"); first | assumption | (intro d hd; simp at hd; done))
  | ((with_reducible apply ec_fz); walk_at "ev")
  | ((with_reducible apply ev_fz); walk_at "ev"))

local macro_rules | `(tactic| walk_at "im") => `(tactic| ((with_reducible apply wq_asg); walk_at "ev"; (try dsimp only [List.set, Int.reduceToNat])))
local macro_rules | `(tactic| walk_at "ow") => `(tactic| ((with_reducible apply wq_asgO); walk_at "ev"; (focus (first | decide | (simp; done))); (try dsimp only [List.set, Int.reduceToNat])))
local macro_rules | `(tactic| walk_at "cl") => `(tactic| ((with_reducible apply wq_asgC); walk_at "ev"; (focus (first | decide | (simp; done))); (try dsimp only [List.set, Int.reduceToNat])))
local macro_rules | `(tactic| walk_at "if") => `(tactic| ((first | (with_reducible apply wq_when) | (with_reducible apply wq_if) | (with_reducible apply ws_if)); walk_at "ev"; (try dsimp only [Int.reduceToNat])))
local macro_rules | `(tactic| walk_at "ret") => `(tactic| ((with_reducible apply ws_ret); walk_at "ev"))
local macro_rules | `(tactic| walk_at "go") => `(tactic| (try dsimp only [cxOf, L2.Cx.nox, L2.Cx.wish, L2.Cx.blk]))
local macro_rules | `(tactic| walk_at "ints") => `(tactic| (refine ev_fz (evo_lst ?_ (by decide)); repeat (first | exact ea_nil | refine ea_cons ev_int ?_)))

/-! ### drawn tables are sound -/
theorem tot_cons (ws : List Int) (v : Nat) (c : List Nat) : totC ws (v :: c) = ws.getD v 0 + totC ws c := by
  unfold totC
  rw [List.map_cons, List.sum_cons]
theorem tot_nonneg {ws : List Int} : ∀ {c : List Nat}, (∀ v ∈ c, 0 ≤ ws.getD v 0) → 0 ≤ totC ws c
  | [], _ => Int.le_refl _
  | v :: c, h => by
    rw [tot_cons]
    have := h v List.mem_cons_self
    have := tot_nonneg (c := c) fun u hu => h u (List.mem_cons_of_mem _ hu)
    omega
theorem tot_mono {a b : List Int} : ∀ {c : List Nat}, (∀ v ∈ c, a.getD v 0 ≤ b.getD v 0) → totC a c ≤ totC b c
  | [], _ => Int.le_refl _
  | v :: c, h => by
    rw [tot_cons, tot_cons]
    have := h v List.mem_cons_self
    have := tot_mono (c := c) fun u hu => h u (List.mem_cons_of_mem _ hu)
    omega
theorem tot_ge {ws : List Int} : ∀ {c : List Nat} {v : Nat}, (∀ v ∈ c, 0 ≤ ws.getD v 0) → v ∈ c → ws.getD v 0 ≤ totC ws c
  | [], _, _, h => by simp at h
  | u :: c, v, h, hv => by
    rw [tot_cons]
    have h1 := tot_nonneg (c := c) fun u hu => h u (List.mem_cons_of_mem _ hu)
    have h2 := h u List.mem_cons_self
    rcases List.mem_cons.mp hv with rfl | hv
    · omega
    · have := tot_ge (c := c) (fun u hu => h u (List.mem_cons_of_mem _ hu)) hv
      omega
theorem getD_set {r : List Int} {k v : Nat} {x : Int} : (r.set k x).getD v 0 = if k = v ∧ k < r.length then x else r.getD v 0 := by
  rw [List.getD_eq_getElem?_getD, List.getD_eq_getElem?_getD, List.getElem?_set]
  by_cases h : k = v
  · subst h
    by_cases h2 : k < r.length
    · simp [h2]
    · simp [h2]
  · simp [h]
theorem mem_inside {row : List Int} {n v : Nat} (h : v < n) : v ∈ insideN row n v := List.mem_filter.mpr ⟨List.mem_range.mpr h, by simp⟩
theorem nonneg_getD {r : List Int} (h : ∀ x ∈ r, 0 ≤ x) (v : Nat) : 0 ≤ r.getD v 0 := by
  rw [List.getD_eq_getElem?_getD]
  by_cases hv : v < r.length
  · rw [List.getElem?_eq_getElem hv]
    exact h _ (List.getElem_mem _)
  · rw [List.getElem?_eq_none (by omega)]
    exact Int.le_refl _
theorem fixR_pos (labels : List Int) (n : Nat) : ∀ (k : Nat) (r : List Int), k ≤ n → r.length = n → (∀ x ∈ r, 0 ≤ x ∧ x ≤ 10 ^ 40) → ∀ v, v < k → 0 < totC (fixR labels n k r) (insideN labels n v)
  | 0, _, _, _, _, v, h => by omega
  | k + 1, r, hk, hl, hb, v, hv => by
    have ih := fixR_pos labels n k r (by omega) hl hb
    have hn : ∀ u, 0 ≤ (fixR labels n k r).getD u 0 := nonneg_getD fun x hx => (fixR_bd labels n k r hb x hx).1
    have hfl := fixR_len labels n k r
    have es : sumAt labels (fixR labels n k r) n k = totC (fixR labels n k r) (insideN labels n k) := rfl
    rw [fixR, es]
    generalize fixR labels n k r = r' at ih hn hfl
    by_cases h0 : totC r' (insideN labels n k) = 0
    · rw [if_pos h0]
      have hk0 : r'.getD k 0 = 0 := by
        have := tot_ge (ws := r') (c := insideN labels n k) (fun u _ => hn u) (mem_inside (by omega))
        have := hn k
        omega
      have hge : ∀ u, r'.getD u 0 ≤ (r'.set k 1).getD u 0 := fun u => by
        rw [getD_set]
        split
        · rename_i h
          rw [← h.1, hk0]
          decide
        · exact Int.le_refl _
      by_cases e : v = k
      · subst e
        have h1 : (r'.set v 1).getD v 0 = 1 := by rw [getD_set, if_pos ⟨rfl, by omega⟩]
        have := tot_ge (ws := r'.set v 1) (c := insideN labels n v) (fun u _ => Int.le_trans (hn u) (hge u)) (mem_inside (by omega))
        omega
      · have := ih v (by omega)
        have := tot_mono (c := insideN labels n v) fun u _ => hge u
        omega
    · rw [if_neg h0]
      by_cases e : v = k
      · subst e
        have := tot_nonneg (ws := r') (c := insideN labels n v) fun u _ => hn u
        omega
      · exact ih v (by omega)
theorem tables_ok (ns : List Int) : TabOk (wT ns) (sightsT ns) (oddsT ns) := by
  obtain ⟨w1, w2, p1, p2, _⟩ := wp_ok ns
  have hle : (if 0 < shT ns 5 then (1 : Int) else 0) = 0 ∨ (if 0 < shT ns 5 then (1 : Int) else 0) = 1 := by split <;> simp
  have hr0 : ∀ q, (rowT0 ns q).length = wT ns ∧ ∀ x ∈ rowT0 ns q, 0 ≤ x ∧ x ≤ 10 ^ 40 := fun q => weights_ok hle
  have hsl : (sightsT ns).length = pT ns := by rw [sightsT, List.length_map, List.length_range]
  have hgs : ∀ q, q < pT ns → (sightsT ns).getD q [] = labT ns q := fun q hq => by
    rw [sightsT, List.getD_eq_getElem?_getD, List.getElem?_map, List.getElem?_range hq]
    rfl
  have hgo : ∀ q, q < pT ns → (oddsT ns).getD q [] = rowT ns q := fun q hq => by
    rw [oddsT, List.getD_eq_getElem?_getD, List.getElem?_map, List.getElem?_range hq]
    rfl
  refine ⟨⟨w1, w2, by omega, by omega, ?_, ?_, by rw [hsl, oddsT, List.length_map, List.length_range], ?_, ?_⟩, ?_⟩
  · intro r hr
    obtain ⟨q, _, rfl⟩ := List.mem_map.mp hr
    exact labT_len ns q
  · intro r hr x hx
    obtain ⟨q, _, rfl⟩ := List.mem_map.mp hr
    exact labT_bd hx
  · intro r hr
    obtain ⟨q, _, rfl⟩ := List.mem_map.mp hr
    rw [rowT, fixR_len, (hr0 q).1]
  · intro r hr x hx
    obtain ⟨q, _, rfl⟩ := List.mem_map.mp hr
    exact fixR_bd _ _ _ _ (hr0 q).2 x hx
  · intro q hq v hv
    rw [hsl] at hq
    rw [hgs q hq, hgo q hq]
    exact fixR_pos (labT ns q) (wT ns) (wT ns) (rowT0 ns q) (Nat.le_refl _) (hr0 q).1 (hr0 q).2 v hv
end FS
set_option Elab.async false
set_option linter.all false
set_option maxRecDepth 100000
set_option maxHeartbeats 4000000
set_option exponentiation.threshold 20000
namespace FS
open PySem PySem.Spec PyProof.Rows L2

local macro_rules | `(tactic| walk_at "side") => `(tactic| first | assumption | omega | decide)
local macro_rules | `(tactic| walk_at "hv") => `(tactic| (intro i hi; simp at hi; first | (subst hi; rfl) | (rcases hi with rfl | rfl <;> rfl) | (rcases hi with rfl | rfl | rfl <;> rfl)))
local macro_rules | `(tactic| walk_at "pr") => `(tactic| fail "no promise")
local macro_rules | `(tactic| walk_at "rv") => `(tactic| first
  | (with_reducible exact rv_add) | (with_reducible exact rv_sub) | (with_reducible exact rv_lt) | (with_reducible exact rv_le) | (with_reducible exact rv_gt) | (with_reducible exact rv_ge) | (with_reducible exact rv_eq) | (with_reducible exact rv_ne)
  | (with_reducible exact rv_is) | (with_reducible exact rv_isnot)
  | ((with_reducible apply rv_div); first | assumption | exact cdiv_small (by omega) (by omega))
  | ((with_reducible apply rv_mod); first | assumption | omega)
  | ((with_reducible apply rv_mul); first | assumption | exact cmul_left (by omega) | exact cmul_right (by omega))
  | ((with_reducible apply rv_mulW); assumption)
  | (with_reducible exact rv_p8) | (with_reducible exact rv_p18) | (with_reducible exact rv_p40) | (with_reducible exact rv_p20) | (with_reducible exact rv_p6) | (with_reducible exact rv_p7) | (with_reducible exact rv_p12) | (with_reducible exact rv_p25) | (with_reducible exact rv_p30) | (with_reducible exact rv_p39) | (with_reducible exact rv_p60)
  | ((with_reducible apply rv_ixxL); first | assumption | exact at_getD (by omega) (by omega) | exact at_nat rfl)
  | ((with_reducible apply rv_ixxT); first | assumption | exact at_getD (by omega) (by omega) | exact at_nat rfl)
  | ((with_reducible apply rv_ixxC); first | assumption)
  | (with_reducible exact ru_neg))
local macro_rules | `(tactic| walk_at "isi") => `(tactic| first | (with_reducible exact isi_non_int) | (with_reducible exact isi_non_bool) | (with_reducible exact isi_non_str) | (with_reducible exact isi_non_tuple) | (with_reducible exact isi_non_list) | (with_reducible exact isi_bl_int) | (with_reducible exact isi_bl_bool) | (with_reducible exact isi_bl_str) | (with_reducible exact isi_bl_tuple) | (with_reducible exact isi_bl_list) | (with_reducible exact isi_int_int) | (with_reducible exact isi_int_bool) | (with_reducible exact isi_int_str) | (with_reducible exact isi_int_tuple) | (with_reducible exact isi_int_list) | (with_reducible exact isi_str_int) | (with_reducible exact isi_str_bool) | (with_reducible exact isi_str_str) | (with_reducible exact isi_str_tuple) | (with_reducible exact isi_str_list) | (with_reducible exact isi_tup_int) | (with_reducible exact isi_tup_bool) | (with_reducible exact isi_tup_str) | (with_reducible exact isi_tup_tuple) | (with_reducible exact isi_tup_list) | (with_reducible exact isi_lst_int) | (with_reducible exact isi_lst_bool) | (with_reducible exact isi_lst_str) | (with_reducible exact isi_lst_tuple) | (with_reducible exact isi_lst_list))
local macro_rules | `(tactic| walk_at "rc") => `(tactic| first
  | walk_at "isi"
  | (with_reducible exact rc_len) | (with_reducible exact rc_lent) | (with_reducible exact rc_lenc) | (with_reducible exact rc_toint) | (with_reducible exact rc_absv) | (with_reducible exact rc_gcd)
  | ((with_reducible apply rc_lcm); assumption)
  | ((with_reducible apply rc_isi); (focus rfl); assumption)
  | (with_reducible exact rco_list) | (with_reducible exact rco_listT))
local macro_rules | `(tactic| walk_at "ev") => `(tactic| first
  | (with_reducible exact ev_int) | (with_reducible exact ev_bl) | (with_reducible exact ev_non) | (with_reducible exact ev_str) | (with_reducible exact ev_ty)
  | ((with_reducible apply ev_var); rfl)
  | ((with_reducible apply ev_lenOw); rfl)
  | ((with_reducible apply ev_op) <;> first | walk_at "ev" | walk_at "rv")
  | ((with_reducible apply ev_un) <;> first | walk_at "ev" | walk_at "rv")
  | ((with_reducible apply ev_cb) <;> first | walk_at "ev" | walk_at "rc")
  | ((with_reducible apply ev_call) <;> first | walk_at "ev" | walk_at "pr")
  | ((with_reducible apply ev_tup) <;> first | walk_at "ev" | (simp; done))
  | (with_reducible exact ea_nil)
  | ((with_reducible apply ea_cons) <;> walk_at "ev")
  | ((with_reducible apply et_test); walk_at "ev")
  | ((with_reducible apply et_B); walk_at "ev")
  | ((with_reducible apply et_not); walk_at "ev")
  | ((with_reducible apply et_or); (walk_at "ev"); intro _; walk_at "ev")
  | ((with_reducible apply et_and); (walk_at "ev"); intro _; walk_at "ev")
  | ((with_reducible apply ev_orV); (walk_at "ev"); intro _; walk_at "ev")
  | ((with_reducible apply ev_andV); (walk_at "ev"); intro _; walk_at "ev")
  | ((with_reducible apply ev_notV); walk_at "ev")
  | (with_reducible exact et_yes)
  | ((with_reducible apply evo_lst) <;> first | walk_at "ev" | (simp; done))
  | ((with_reducible apply ev_opO) <;> first | walk_at "ev" | ((with_reducible apply rvo_add); simp; omega))
  | ((with_reducible apply ev_cbO) <;> first | walk_at "ev" | walk_at "rc")
  | ((with_reducible apply ev_callO) <;> first | walk_at "ev" | walk_at "pr")
  | ((with_reducible apply ec_call) <;> first | walk_at "ev" | walk_at "pr")
  | ((with_reducible apply ec_tup) <;> first | walk_at "ev" | (simp; done))
  | ((with_reducible apply ec_lst) <;> first | walk_at "ev" | (simp; done))
  | (with_reducible exact eca_nil)
  | ((with_reducible apply eca_cons) <;> walk_at "ev")
  | ((with_reducible apply ec_sc); (walk_at "ev"); rfl)
  | ((with_reducible apply ec_ow); (walk_at "ev"); first | assumption | (intro d hd; simp at hd; done))
  | ((with_reducible apply ec_fz); walk_at "ev")
  | ((with_reducible apply ev_fz); walk_at "ev"))

local macro_rules | `(tactic| walk_at "im") => `(tactic| ((with_reducible apply wq_asg); walk_at "ev"; (try dsimp only [List.set, Int.reduceToNat])))
local macro_rules | `(tactic| walk_at "ow") => `(tactic| ((with_reducible apply wq_asgO); walk_at "ev"; (focus (first | decide | (simp; done))); (try dsimp only [List.set, Int.reduceToNat])))
local macro_rules | `(tactic| walk_at "cl") => `(tactic| ((with_reducible apply wq_asgC); walk_at "ev"; (focus (first | decide | (simp; done))); (try dsimp only [List.set, Int.reduceToNat])))
local macro_rules | `(tactic| walk_at "if") => `(tactic| ((first | (with_reducible apply wq_when) | (with_reducible apply wq_if) | (with_reducible apply ws_if)); walk_at "ev"; (try dsimp only [Int.reduceToNat])))
local macro_rules | `(tactic| walk_at "ret") => `(tactic| ((with_reducible apply ws_ret); walk_at "ev"))
local macro_rules | `(tactic| walk_at "go") => `(tactic| (try dsimp only [cxOf, L2.Cx.nox, L2.Cx.wish, L2.Cx.blk]))
local macro_rules | `(tactic| walk_at "ints") => `(tactic| (refine ev_fz (evo_lst ?_ (by decide)); repeat (first | exact ea_nil | refine ea_cons ev_int ?_)))

/-! ### a row's cells -/
theorem firsts_sub : ∀ (row s : List Int), s.Nodup → ((row.foldl (fun s x => if x ∈ s then s else s ++ [x]) s).Nodup ∧ ∀ x ∈ row.foldl (fun s x => if x ∈ s then s else s ++ [x]) s, x ∈ s ∨ x ∈ row)
  | [], s, h => ⟨h, fun x hx => .inl hx⟩
  | y :: row, s, h => by
    rw [List.foldl_cons]
    by_cases hy : y ∈ s
    · rw [if_pos hy]
      obtain ⟨a, b⟩ := firsts_sub row s h
      exact ⟨a, fun x hx => (b x hx).imp id (List.mem_cons_of_mem _)⟩
    · rw [if_neg hy]
      have hn : (s ++ [y]).Nodup := by
        rw [List.nodup_append]
        exact ⟨h, by simp, fun a ha b hb z => hy (by rw [List.mem_singleton.mp hb] at z; exact z ▸ ha)⟩
      obtain ⟨a, b⟩ := firsts_sub row (s ++ [y]) hn
      refine ⟨a, fun x hx => ?_⟩
      rcases b x hx with h | h
      · rcases List.mem_append.mp h with h | h
        · exact .inl h
        · exact .inr (by rw [List.mem_singleton.mp h]; exact List.mem_cons_self)
      · exact .inr (List.mem_cons_of_mem _ h)
theorem firsts_nodup (row : List Int) : (firsts row).Nodup := (firsts_sub row [] List.nodup_nil).1
theorem firsts_mem {row : List Int} {x : Int} (h : x ∈ firsts row) : x ∈ row := by
  rcases (firsts_sub row [] List.nodup_nil).2 x h with h | h
  · simp at h
  · exact h
theorem numb_get {row : List Int} {v : Nat} (h : v < row.length) : (numbN row).getD v 0 = (firsts row).findIdx (· == row.getD v 0) := by
  rw [numbN, List.getD_eq_getElem?_getD, List.getElem?_map, List.getD_eq_getElem?_getD, List.getElem?_eq_getElem h]
  rfl
theorem idx_at {row : List Int} {x : Int} (h : x ∈ row) : (firsts row).findIdx (· == x) < (firsts row).length ∧ (firsts row)[(firsts row).findIdx (· == x)]? = some x := by
  have hlt : (firsts row).findIdx (· == x) < (firsts row).length := List.findIdx_lt_length_of_exists ⟨x, mem_firsts h, by simp⟩
  refine ⟨hlt, ?_⟩
  rw [List.getElem?_eq_getElem hlt]
  have := List.findIdx_getElem (xs := firsts row) (p := (· == x)) (w := hlt)
  congr 1
  simpa using this
theorem getD_mem {row : List Int} {v : Nat} (h : v < row.length) : row.getD v 0 ∈ row := by
  rw [List.getD_eq_getElem?_getD, List.getElem?_eq_getElem h]
  exact List.getElem_mem _
theorem numb_eq {row : List Int} {u v : Nat} (hu : u < row.length) (hv : v < row.length) : (numbN row).getD u 0 = (numbN row).getD v 0 ↔ row.getD u 0 = row.getD v 0 := by
  rw [numb_get hu, numb_get hv]
  refine ⟨fun h => ?_, fun h => by rw [h]⟩
  have a := (idx_at (getD_mem hu)).2
  have b := (idx_at (getD_mem hv)).2
  rw [h, b] at a
  exact (Option.some.inj a).symm
theorem numb_len (row : List Int) : (numbN row).length = row.length := by rw [numbN, List.length_map]
theorem cell_inside {row : List Int} {v : Nat} (hv : v < row.length) : cellN (numbN row) (numbN row).length ((numbN row).getD v 0) = insideN row row.length v := by
  unfold cellN insideN
  rw [numb_len]
  refine List.filter_congr fun u hu => ?_
  exact decide_eq_decide.mpr (numb_eq (List.mem_range.mp hu) hv)
theorem idx_nodup : ∀ {l : List Int} {k : Nat} {x : Int}, l.Nodup → l[k]? = some x → l.findIdx (· == x) = k
  | [], _, _, _, h => by simp at h
  | y :: l, 0, x, _, h => by
    have : y = x := Option.some.inj h
    subst this
    simp [List.findIdx_cons]
  | y :: l, k + 1, x, hn, h => by
    have h' : l[k]? = some x := by simpa using h
    have hy : y ≠ x := fun e => (List.nodup_cons.mp hn).1 (e ▸ List.mem_of_getElem? h')
    have ih := idx_nodup (List.nodup_cons.mp hn).2 h'
    rw [List.findIdx_cons]
    have : (y == x) = false := by simpa using hy
    rw [this, ih]
    rfl
theorem cells_of_row {row : List Int} (hr : 1 ≤ row.length) {c : List Nat} (hc : c ∈ bkCells row) : ∃ v, v < row.length ∧ c = insideN row row.length v := by
  obtain ⟨k, hk, rfl⟩ := List.mem_map.mp hc
  have hk := List.mem_range.mp hk
  have hne : numbN row ≠ [] := fun e => by
    have := numb_len row
    rw [e] at this
    have : (0 : Nat) = row.length := this
    omega
  have hmm := mx_mem hne
  generalize mxN (numbN row) = M at hmm hk
  obtain ⟨y, hy, e⟩ := List.mem_map.mp hmm
  have h1 := (idx_at hy).1
  have hkf : k < (firsts row).length := by omega
  have hx : (firsts row)[k]? = some (firsts row)[k] := List.getElem?_eq_getElem hkf
  obtain ⟨v, hv, ev⟩ := List.getElem_of_mem (firsts_mem (List.mem_of_getElem? hx))
  refine ⟨v, hv, ?_⟩
  rw [← cell_inside hv]
  congr 1
  have e2 : row.getD v 0 = (firsts row)[k] := by rw [List.getD_eq_getElem?_getD, List.getElem?_eq_getElem hv, ← ev] <;> rfl
  rw [numb_get hv, e2, idx_nodup (firsts_nodup row) hx]
theorem inside_cell {row : List Int} {v : Nat} (hv : v < row.length) : insideN row row.length v ∈ bkCells row := by
  rw [← cell_inside hv]
  refine List.mem_map.mpr ⟨_, List.mem_range.mpr ?_, rfl⟩
  have hm : (numbN row).getD v 0 ∈ numbN row := by
    rw [List.getD_eq_getElem?_getD, List.getElem?_eq_getElem (by rw [numb_len]; exact hv)]
    exact List.getElem_mem _
  have := mx_le hm
  omega
/-! ### weights over their cell's divisor -/
theorem gcd_zero {ws : List Int} : ∀ {c : List Nat}, gcdC ws c = 0 → ∀ v ∈ c, (ws.getD v 0).natAbs = 0 := by
  intro c h v hv
  have hd : ∀ (c : List Nat) (a : Nat), (c.foldl (fun g w => Nat.gcd g (ws.getD w 0).natAbs) a ∣ a) ∧ ∀ w ∈ c, c.foldl (fun g w => Nat.gcd g (ws.getD w 0).natAbs) a ∣ (ws.getD w 0).natAbs := by
    intro c
    induction c with
    | nil => exact fun a => ⟨Nat.dvd_refl _, fun w h => by simp at h⟩
    | cons y c ih =>
      intro a
      rw [List.foldl_cons]
      obtain ⟨h1, h2⟩ := ih (Nat.gcd a (ws.getD y 0).natAbs)
      refine ⟨Nat.dvd_trans h1 (Nat.gcd_dvd_left _ _), fun w hw => ?_⟩
      rcases List.mem_cons.mp hw with rfl | hw
      · exact Nat.dvd_trans h1 (Nat.gcd_dvd_right _ _)
      · exact h2 w hw
  have := (hd c 0).2 v hv
  have e : c.foldl (fun g w => Nat.gcd g (ws.getD w 0).natAbs) 0 = 0 := h
  rw [e] at this
  exact Nat.eq_zero_of_zero_dvd this
theorem tot_zero {ws : List Int} : ∀ {c : List Nat}, (∀ v ∈ c, (ws.getD v 0).natAbs = 0) → totC ws c = 0
  | [], _ => rfl
  | v :: c, h => by
    rw [tot_cons, tot_zero fun u hu => h u (List.mem_cons_of_mem _ hu)]
    have := h v List.mem_cons_self
    omega
theorem low_ok {row ws : List Int} (hr : 1 ≤ row.length) (hl : row.length = ws.length) (h12 : row.length ≤ 12) (hb : ∀ x ∈ ws, 0 ≤ x ∧ x ≤ 10 ^ 40) (hp : ∀ v, v < row.length → 0 < totC ws (insideN row row.length v)) : LowOk (bkCells row) ws := by
  refine ⟨fun c hc w hw => ?_, fun c hc => ?_, hb, by omega⟩
  · obtain ⟨v, hv, rfl⟩ := cells_of_row hr hc
    have := inside_lt hw
    omega
  · obtain ⟨v, hv, rfl⟩ := cells_of_row hr hc
    rcases Nat.eq_zero_or_pos (gcdC ws (insideN row row.length v)) with h | h
    · have := tot_zero (gcd_zero h)
      have := hp v hv
      omega
    · exact h
end FS
set_option Elab.async false
set_option linter.all false
set_option maxRecDepth 100000
set_option maxHeartbeats 4000000
set_option exponentiation.threshold 20000
namespace FS
open PySem PySem.Spec PyProof.Rows L2

local macro_rules | `(tactic| walk_at "side") => `(tactic| first | assumption | omega | decide)
local macro_rules | `(tactic| walk_at "hv") => `(tactic| (intro i hi; simp at hi; first | (subst hi; rfl) | (rcases hi with rfl | rfl <;> rfl) | (rcases hi with rfl | rfl | rfl <;> rfl)))
local macro_rules | `(tactic| walk_at "pr") => `(tactic| fail "no promise")
local macro_rules | `(tactic| walk_at "rv") => `(tactic| first
  | (with_reducible exact rv_add) | (with_reducible exact rv_sub) | (with_reducible exact rv_lt) | (with_reducible exact rv_le) | (with_reducible exact rv_gt) | (with_reducible exact rv_ge) | (with_reducible exact rv_eq) | (with_reducible exact rv_ne)
  | (with_reducible exact rv_is) | (with_reducible exact rv_isnot)
  | ((with_reducible apply rv_div); first | assumption | exact cdiv_small (by omega) (by omega))
  | ((with_reducible apply rv_mod); first | assumption | omega)
  | ((with_reducible apply rv_mul); first | assumption | exact cmul_left (by omega) | exact cmul_right (by omega))
  | ((with_reducible apply rv_mulW); assumption)
  | (with_reducible exact rv_p8) | (with_reducible exact rv_p18) | (with_reducible exact rv_p40) | (with_reducible exact rv_p20) | (with_reducible exact rv_p6) | (with_reducible exact rv_p7) | (with_reducible exact rv_p12) | (with_reducible exact rv_p25) | (with_reducible exact rv_p30) | (with_reducible exact rv_p39) | (with_reducible exact rv_p60)
  | ((with_reducible apply rv_ixxL); first | assumption | exact at_getD (by omega) (by omega) | exact at_nat rfl)
  | ((with_reducible apply rv_ixxT); first | assumption | exact at_getD (by omega) (by omega) | exact at_nat rfl)
  | ((with_reducible apply rv_ixxC); first | assumption)
  | (with_reducible exact ru_neg))
local macro_rules | `(tactic| walk_at "isi") => `(tactic| first | (with_reducible exact isi_non_int) | (with_reducible exact isi_non_bool) | (with_reducible exact isi_non_str) | (with_reducible exact isi_non_tuple) | (with_reducible exact isi_non_list) | (with_reducible exact isi_bl_int) | (with_reducible exact isi_bl_bool) | (with_reducible exact isi_bl_str) | (with_reducible exact isi_bl_tuple) | (with_reducible exact isi_bl_list) | (with_reducible exact isi_int_int) | (with_reducible exact isi_int_bool) | (with_reducible exact isi_int_str) | (with_reducible exact isi_int_tuple) | (with_reducible exact isi_int_list) | (with_reducible exact isi_str_int) | (with_reducible exact isi_str_bool) | (with_reducible exact isi_str_str) | (with_reducible exact isi_str_tuple) | (with_reducible exact isi_str_list) | (with_reducible exact isi_tup_int) | (with_reducible exact isi_tup_bool) | (with_reducible exact isi_tup_str) | (with_reducible exact isi_tup_tuple) | (with_reducible exact isi_tup_list) | (with_reducible exact isi_lst_int) | (with_reducible exact isi_lst_bool) | (with_reducible exact isi_lst_str) | (with_reducible exact isi_lst_tuple) | (with_reducible exact isi_lst_list))
local macro_rules | `(tactic| walk_at "rc") => `(tactic| first
  | walk_at "isi"
  | (with_reducible exact rc_len) | (with_reducible exact rc_lent) | (with_reducible exact rc_lenc) | (with_reducible exact rc_toint) | (with_reducible exact rc_absv) | (with_reducible exact rc_gcd)
  | ((with_reducible apply rc_lcm); assumption)
  | ((with_reducible apply rc_isi); (focus rfl); assumption)
  | (with_reducible exact rco_list) | (with_reducible exact rco_listT))
local macro_rules | `(tactic| walk_at "ev") => `(tactic| first
  | (with_reducible exact ev_int) | (with_reducible exact ev_bl) | (with_reducible exact ev_non) | (with_reducible exact ev_str) | (with_reducible exact ev_ty)
  | ((with_reducible apply ev_var); rfl)
  | ((with_reducible apply ev_lenOw); rfl)
  | ((with_reducible apply ev_op) <;> first | walk_at "ev" | walk_at "rv")
  | ((with_reducible apply ev_un) <;> first | walk_at "ev" | walk_at "rv")
  | ((with_reducible apply ev_cb) <;> first | walk_at "ev" | walk_at "rc")
  | ((with_reducible apply ev_call) <;> first | walk_at "ev" | walk_at "pr")
  | ((with_reducible apply ev_tup) <;> first | walk_at "ev" | (simp; done))
  | (with_reducible exact ea_nil)
  | ((with_reducible apply ea_cons) <;> walk_at "ev")
  | ((with_reducible apply et_test); walk_at "ev")
  | ((with_reducible apply et_B); walk_at "ev")
  | ((with_reducible apply et_not); walk_at "ev")
  | ((with_reducible apply et_or); (walk_at "ev"); intro _; walk_at "ev")
  | ((with_reducible apply et_and); (walk_at "ev"); intro _; walk_at "ev")
  | ((with_reducible apply ev_orV); (walk_at "ev"); intro _; walk_at "ev")
  | ((with_reducible apply ev_andV); (walk_at "ev"); intro _; walk_at "ev")
  | ((with_reducible apply ev_notV); walk_at "ev")
  | (with_reducible exact et_yes)
  | ((with_reducible apply evo_lst) <;> first | walk_at "ev" | (simp; done))
  | ((with_reducible apply ev_opO) <;> first | walk_at "ev" | ((with_reducible apply rvo_add); simp; omega))
  | ((with_reducible apply ev_cbO) <;> first | walk_at "ev" | walk_at "rc")
  | ((with_reducible apply ev_callO) <;> first | walk_at "ev" | walk_at "pr")
  | ((with_reducible apply ec_call) <;> first | walk_at "ev" | walk_at "pr")
  | ((with_reducible apply ec_tup) <;> first | walk_at "ev" | (simp; done))
  | ((with_reducible apply ec_lst) <;> first | walk_at "ev" | (simp; done))
  | (with_reducible exact eca_nil)
  | ((with_reducible apply eca_cons) <;> walk_at "ev")
  | ((with_reducible apply ec_sc); (walk_at "ev"); rfl)
  | ((with_reducible apply ec_ow); (walk_at "ev"); first | assumption | (intro d hd; simp at hd; done))
  | ((with_reducible apply ec_fz); walk_at "ev")
  | ((with_reducible apply ev_fz); walk_at "ev"))

local macro_rules | `(tactic| walk_at "im") => `(tactic| ((with_reducible apply wq_asg); walk_at "ev"; (try dsimp only [List.set, Int.reduceToNat])))
local macro_rules | `(tactic| walk_at "ow") => `(tactic| ((with_reducible apply wq_asgO); walk_at "ev"; (focus (first | decide | (simp; done))); (try dsimp only [List.set, Int.reduceToNat])))
local macro_rules | `(tactic| walk_at "cl") => `(tactic| ((with_reducible apply wq_asgC); walk_at "ev"; (focus (first | decide | (simp; done))); (try dsimp only [List.set, Int.reduceToNat])))
local macro_rules | `(tactic| walk_at "if") => `(tactic| ((first | (with_reducible apply wq_when) | (with_reducible apply wq_if) | (with_reducible apply ws_if)); walk_at "ev"; (try dsimp only [Int.reduceToNat])))
local macro_rules | `(tactic| walk_at "ret") => `(tactic| ((with_reducible apply ws_ret); walk_at "ev"))
local macro_rules | `(tactic| walk_at "go") => `(tactic| (try dsimp only [cxOf, L2.Cx.nox, L2.Cx.wish, L2.Cx.blk]))
local macro_rules | `(tactic| walk_at "ints") => `(tactic| (refine ev_fz (evo_lst ?_ (by decide)); repeat (first | exact ea_nil | refine ea_cons ev_int ?_)))

theorem lowC_get (ws : List Int) (g : Int) (v : Nat) : ∀ (c : List Nat) (t : List Int), v < t.length → (c.foldl (fun t w => t.set w (ws.getD w 0 / g)) t).getD v 0 = if v ∈ c then ws.getD v 0 / g else t.getD v 0
  | [], t, _ => by simp
  | w :: c, t, h => by
    rw [List.foldl_cons, lowC_get ws g v c _ (by rw [List.length_set]; exact h)]
    by_cases hc : v ∈ c
    · rw [if_pos hc, if_pos (List.mem_cons_of_mem _ hc)]
    · rw [if_neg hc, getD_set]
      by_cases e : w = v
      · subst e
        rw [if_pos ⟨rfl, h⟩, if_pos List.mem_cons_self]
      · rw [if_neg (fun z => e z.1), if_neg (fun z => (List.mem_cons.mp z).elim (fun q => e q.symm) hc)]
theorem lowN_get (ws : List Int) (g : Nat) (v : Nat) : ∀ (cells : List (List Nat)) (t : List Int), v < t.length → (∀ c ∈ cells, v ∈ c → gcdC ws c = g) → ((∃ c ∈ cells, v ∈ c) ∨ t.getD v 0 = ws.getD v 0 / (g : Int)) → (cells.foldl (fun t cell => lowC ws cell t) t).getD v 0 = ws.getD v 0 / (g : Int)
  | [], t, _, _, h => by
    rcases h with ⟨c, hc, _⟩ | h
    · simp at hc
    · exact h
  | c :: cells, t, hv, hg, h => by
    rw [List.foldl_cons]
    have hl : (lowC ws c t).length = t.length := lowC_len _ _ _ _
    refine lowN_get ws g v cells _ (by omega) (fun c' hc' => hg c' (List.mem_cons_of_mem _ hc')) ?_
    have e := lowC_get ws (gcdC ws c : Int) v c t hv
    by_cases hvc : v ∈ c
    · refine .inr ?_
      show (c.foldl (fun t w => t.set w (ws.getD w 0 / (gcdC ws c : Int))) t).getD v 0 = _
      rw [e, if_pos hvc, hg c List.mem_cons_self hvc]
    · rcases h with ⟨c', hc', hm⟩ | h
      · rcases List.mem_cons.mp hc' with rfl | hc'
        · exact absurd hm hvc
        · exact .inl ⟨c', hc', hm⟩
      · refine .inr ?_
        show (c.foldl (fun t w => t.set w (ws.getD w 0 / (gcdC ws c : Int))) t).getD v 0 = _
        rw [e, if_neg hvc, h]
theorem inside_same {row : List Int} {n u v : Nat} (h : u ∈ insideN row n v) : insideN row n u = insideN row n v := by
  have he : row.getD u 0 = row.getD v 0 := of_decide_eq_true (List.mem_filter.mp h).2
  unfold insideN
  rw [he]
theorem bkW_get {row ws : List Int} (hr : 1 ≤ row.length) (hl : row.length = ws.length) {v : Nat} (hv : v < row.length) : (bkWeights row ws).getD v 0 = ws.getD v 0 / ((gcdC ws (insideN row row.length v) : Nat) : Int) := by
  unfold bkWeights lowN
  refine lowN_get ws _ v (bkCells row) ws (by omega) (fun c hc hm => ?_) (.inl ⟨_, inside_cell hv, mem_inside hv⟩)
  obtain ⟨u, hu, rfl⟩ := cells_of_row hr hc
  rw [inside_same hm]
/-- a cell's weights are its reduced ones times the divisor -/
theorem tot_scale {a b : List Int} {g : Int} : ∀ {c : List Nat}, (∀ v ∈ c, b.getD v 0 = g * a.getD v 0) → totC b c = g * totC a c
  | [], _ => by simp [totC]
  | v :: c, h => by
    rw [tot_cons, tot_cons, h v List.mem_cons_self, tot_scale fun u hu => h u (List.mem_cons_of_mem _ hu), Int.mul_add]
theorem gcd_dvd {ws : List Int} {c : List Nat} {v : Nat} (hp : 0 < gcdC ws c) (hv : v ∈ c) : ((gcdC ws c : Nat) : Int) ∣ ws.getD v 0 := by
  have := gcdC_le hp hv
  exact Int.ofNat_dvd_left.mpr this
theorem believe_scale {a b : List Int} {g : Nat} {c lot : List Nat} {ch : Num} (hg : 0 < g) (h : ∀ v ∈ c, b.getD v 0 = (g : Int) * a.getD v 0) : believeC b lot ch c = believeC a lot ch c := by
  unfold believeC
  have h1 := tot_scale h
  have h2 : heldC b lot c = (g : Int) * heldC a lot c := tot_scale (c := c.filter fun w => decide (w ∈ lot)) fun v hv => h v (List.mem_filter.mp hv).1
  rw [h1, h2]
  refine decide_eq_decide.mpr ?_
  have e1 : ch.1 * ((g : Int) * totC a c) = (g : Int) * (ch.1 * totC a c) := by rw [Int.mul_left_comm]
  have e2 : (g : Int) * heldC a lot c * ch.2 = (g : Int) * (heldC a lot c * ch.2) := by rw [Int.mul_assoc]
  rw [e1, e2]
  exact Int.mul_le_mul_left (by omega)
theorem believes_eq {row ws lot : List Int} : True := trivial
theorem bel_eq {row ws : List Int} {lot : List Nat} {ch : Num} (hr : 1 ≤ row.length) (hl : row.length = ws.length) (hp : ∀ v, v < row.length → 0 < gcdC ws (insideN row row.length v)) : believesN (numbN row) (bkWeights row ws) lot ch = believedN row ws lot ch := by
  unfold believesN believedN
  rw [numb_len]
  refine List.filter_congr fun v hv => ?_
  have hv := List.mem_range.mp hv
  have e := cell_inside hv
  rw [numb_len] at e
  rw [e]
  refine (believe_scale (g := gcdC ws (insideN row row.length v)) (hp v hv) fun u hu => ?_).symm
  have hul := inside_lt hu
  rw [bkW_get hr hl hul, inside_same hu]
  exact (Int.mul_ediv_cancel' (gcd_dvd (hp v hv) hu)).symm
end FS
set_option Elab.async false
set_option linter.all false
set_option maxRecDepth 100000
set_option maxHeartbeats 4000000
set_option exponentiation.threshold 20000
namespace FS
open PySem PySem.Spec PyProof.Rows L2

local macro_rules | `(tactic| walk_at "side") => `(tactic| first | assumption | omega | decide)
local macro_rules | `(tactic| walk_at "hv") => `(tactic| (intro i hi; simp at hi; first | (subst hi; rfl) | (rcases hi with rfl | rfl <;> rfl) | (rcases hi with rfl | rfl | rfl <;> rfl)))
local macro_rules | `(tactic| walk_at "pr") => `(tactic| fail "no promise")
local macro_rules | `(tactic| walk_at "rv") => `(tactic| first
  | (with_reducible exact rv_add) | (with_reducible exact rv_sub) | (with_reducible exact rv_lt) | (with_reducible exact rv_le) | (with_reducible exact rv_gt) | (with_reducible exact rv_ge) | (with_reducible exact rv_eq) | (with_reducible exact rv_ne)
  | (with_reducible exact rv_is) | (with_reducible exact rv_isnot)
  | ((with_reducible apply rv_div); first | assumption | exact cdiv_small (by omega) (by omega))
  | ((with_reducible apply rv_mod); first | assumption | omega)
  | ((with_reducible apply rv_mul); first | assumption | exact cmul_left (by omega) | exact cmul_right (by omega))
  | ((with_reducible apply rv_mulW); assumption)
  | (with_reducible exact rv_p8) | (with_reducible exact rv_p18) | (with_reducible exact rv_p40) | (with_reducible exact rv_p20) | (with_reducible exact rv_p6) | (with_reducible exact rv_p7) | (with_reducible exact rv_p12) | (with_reducible exact rv_p25) | (with_reducible exact rv_p30) | (with_reducible exact rv_p39) | (with_reducible exact rv_p60)
  | ((with_reducible apply rv_ixxL); first | assumption | exact at_getD (by omega) (by omega) | exact at_nat rfl)
  | ((with_reducible apply rv_ixxT); first | assumption | exact at_getD (by omega) (by omega) | exact at_nat rfl)
  | ((with_reducible apply rv_ixxC); first | assumption)
  | (with_reducible exact ru_neg))
local macro_rules | `(tactic| walk_at "isi") => `(tactic| first | (with_reducible exact isi_non_int) | (with_reducible exact isi_non_bool) | (with_reducible exact isi_non_str) | (with_reducible exact isi_non_tuple) | (with_reducible exact isi_non_list) | (with_reducible exact isi_bl_int) | (with_reducible exact isi_bl_bool) | (with_reducible exact isi_bl_str) | (with_reducible exact isi_bl_tuple) | (with_reducible exact isi_bl_list) | (with_reducible exact isi_int_int) | (with_reducible exact isi_int_bool) | (with_reducible exact isi_int_str) | (with_reducible exact isi_int_tuple) | (with_reducible exact isi_int_list) | (with_reducible exact isi_str_int) | (with_reducible exact isi_str_bool) | (with_reducible exact isi_str_str) | (with_reducible exact isi_str_tuple) | (with_reducible exact isi_str_list) | (with_reducible exact isi_tup_int) | (with_reducible exact isi_tup_bool) | (with_reducible exact isi_tup_str) | (with_reducible exact isi_tup_tuple) | (with_reducible exact isi_tup_list) | (with_reducible exact isi_lst_int) | (with_reducible exact isi_lst_bool) | (with_reducible exact isi_lst_str) | (with_reducible exact isi_lst_tuple) | (with_reducible exact isi_lst_list))
local macro_rules | `(tactic| walk_at "rc") => `(tactic| first
  | walk_at "isi"
  | (with_reducible exact rc_len) | (with_reducible exact rc_lent) | (with_reducible exact rc_lenc) | (with_reducible exact rc_toint) | (with_reducible exact rc_absv) | (with_reducible exact rc_gcd)
  | ((with_reducible apply rc_lcm); assumption)
  | ((with_reducible apply rc_isi); (focus rfl); assumption)
  | (with_reducible exact rco_list) | (with_reducible exact rco_listT))
local macro_rules | `(tactic| walk_at "ev") => `(tactic| first
  | (with_reducible exact ev_int) | (with_reducible exact ev_bl) | (with_reducible exact ev_non) | (with_reducible exact ev_str) | (with_reducible exact ev_ty)
  | ((with_reducible apply ev_var); rfl)
  | ((with_reducible apply ev_lenOw); rfl)
  | ((with_reducible apply ev_op) <;> first | walk_at "ev" | walk_at "rv")
  | ((with_reducible apply ev_un) <;> first | walk_at "ev" | walk_at "rv")
  | ((with_reducible apply ev_cb) <;> first | walk_at "ev" | walk_at "rc")
  | ((with_reducible apply ev_call) <;> first | walk_at "ev" | walk_at "pr")
  | ((with_reducible apply ev_tup) <;> first | walk_at "ev" | (simp; done))
  | (with_reducible exact ea_nil)
  | ((with_reducible apply ea_cons) <;> walk_at "ev")
  | ((with_reducible apply et_test); walk_at "ev")
  | ((with_reducible apply et_B); walk_at "ev")
  | ((with_reducible apply et_not); walk_at "ev")
  | ((with_reducible apply et_or); (walk_at "ev"); intro _; walk_at "ev")
  | ((with_reducible apply et_and); (walk_at "ev"); intro _; walk_at "ev")
  | ((with_reducible apply ev_orV); (walk_at "ev"); intro _; walk_at "ev")
  | ((with_reducible apply ev_andV); (walk_at "ev"); intro _; walk_at "ev")
  | ((with_reducible apply ev_notV); walk_at "ev")
  | (with_reducible exact et_yes)
  | ((with_reducible apply evo_lst) <;> first | walk_at "ev" | (simp; done))
  | ((with_reducible apply ev_opO) <;> first | walk_at "ev" | ((with_reducible apply rvo_add); simp; omega))
  | ((with_reducible apply ev_cbO) <;> first | walk_at "ev" | walk_at "rc")
  | ((with_reducible apply ev_callO) <;> first | walk_at "ev" | walk_at "pr")
  | ((with_reducible apply ec_call) <;> first | walk_at "ev" | walk_at "pr")
  | ((with_reducible apply ec_tup) <;> first | walk_at "ev" | (simp; done))
  | ((with_reducible apply ec_lst) <;> first | walk_at "ev" | (simp; done))
  | (with_reducible exact eca_nil)
  | ((with_reducible apply eca_cons) <;> walk_at "ev")
  | ((with_reducible apply ec_sc); (walk_at "ev"); rfl)
  | ((with_reducible apply ec_ow); (walk_at "ev"); first | assumption | (intro d hd; simp at hd; done))
  | ((with_reducible apply ec_fz); walk_at "ev")
  | ((with_reducible apply ev_fz); walk_at "ev"))

local macro_rules | `(tactic| walk_at "im") => `(tactic| ((with_reducible apply wq_asg); walk_at "ev"; (try dsimp only [List.set, Int.reduceToNat])))
local macro_rules | `(tactic| walk_at "ow") => `(tactic| ((with_reducible apply wq_asgO); walk_at "ev"; (focus (first | decide | (simp; done))); (try dsimp only [List.set, Int.reduceToNat])))
local macro_rules | `(tactic| walk_at "cl") => `(tactic| ((with_reducible apply wq_asgC); walk_at "ev"; (focus (first | decide | (simp; done))); (try dsimp only [List.set, Int.reduceToNat])))
local macro_rules | `(tactic| walk_at "if") => `(tactic| ((first | (with_reducible apply wq_when) | (with_reducible apply wq_if) | (with_reducible apply ws_if)); walk_at "ev"; (try dsimp only [Int.reduceToNat])))
local macro_rules | `(tactic| walk_at "ret") => `(tactic| ((with_reducible apply ws_ret); walk_at "ev"))
local macro_rules | `(tactic| walk_at "go") => `(tactic| (try dsimp only [cxOf, L2.Cx.nox, L2.Cx.wish, L2.Cx.blk]))
local macro_rules | `(tactic| walk_at "ints") => `(tactic| (refine ev_fz (evo_lst ?_ (by decide)); repeat (first | exact ea_nil | refine ea_cons ev_int ?_)))

/-! ### the greatest lot that fits -/
theorem firstF_mem {B : Nat → List Nat → List Nat} {lot : List Nat} {v : Nat} : ∀ {grp t : List Nat}, v ∈ firstF B grp lot t ↔ v ∈ t ∧ ∀ q ∈ grp, v ∈ B q lot
  | [], t => by simp [firstF]
  | q :: grp, t => by
    show v ∈ firstF B grp lot (t.filter fun w => decide (w ∈ B q lot)) ↔ _
    rw [firstF_mem, List.mem_filter]
    simp only [decide_eq_true_eq, List.mem_cons, forall_eq_or_imp]
    exact ⟨fun h => ⟨h.1.1, h.1.2, h.2⟩, fun h => ⟨⟨h.1, h.2.1⟩, h.2.2⟩⟩
theorem step_fix {B : Nat → List Nat → List Nat} : ∀ {grp t : List Nat}, stepF B grp t = t → ∀ q ∈ grp, ∀ v ∈ t, v ∈ B q t
  | [], _, _, q, hq, _, _ => by simp at hq
  | p :: grp, t, h, q, hq, v, hv => by
    have h1 : stepF B grp (t.filter fun w => decide (w ∈ B p t)) = t := h
    have hs := step_sub B grp (t.filter fun w => decide (w ∈ B p t))
    rw [h1] at hs
    have hf : (t.filter fun w => decide (w ∈ B p t)) = t := List.filter_sublist.eq_of_length_le hs.length_le
    rw [hf] at h1
    rcases List.mem_cons.mp hq with rfl | hq
    · rw [← hf] at hv
      have := (List.mem_filter.mp hv).2
      exact of_decide_eq_true this
    · exact step_fix h1 q hq v hv
theorem loop_fix {B : Nat → List Nat → List Nat} {grp : List Nat} : ∀ (k : Nat) (t : List Nat), t.length < k → stepF B grp (loopF B grp k t) = loopF B grp k t
  | 0, t, h => by omega
  | k + 1, t, h => by
    rw [loopF]
    split
    · rename_i hl
      exact loop_fix k _ (by omega)
    · rename_i hl
      have hs := step_sub B grp t
      have e : stepF B grp t = t := hs.eq_of_length_le (by omega)
      rw [e, e]
theorem step_keep {B : Nat → List Nat → List Nat} (hm : ∀ q t t', (∀ v ∈ t, v ∈ t') → ∀ v ∈ B q t, v ∈ B q t') {o : List Nat} : ∀ {grp t : List Nat}, (∀ q ∈ grp, ∀ v ∈ o, v ∈ B q o) → (∀ v ∈ o, v ∈ t) → ∀ v ∈ o, v ∈ stepF B grp t
  | [], t, _, h => h
  | p :: grp, t, hb, h => by
    refine step_keep hm (grp := grp) (t := t.filter fun w => decide (w ∈ B p t)) (fun q hq => hb q (List.mem_cons_of_mem _ hq)) fun v hv => ?_
    exact List.mem_filter.mpr ⟨h v hv, decide_eq_true (hm p o t h v (hb p List.mem_cons_self v hv))⟩
theorem loop_keep {B : Nat → List Nat → List Nat} (hm : ∀ q t t', (∀ v ∈ t, v ∈ t') → ∀ v ∈ B q t, v ∈ B q t') {o grp : List Nat} (hb : ∀ q ∈ grp, ∀ v ∈ o, v ∈ B q o) : ∀ (k : Nat) (t : List Nat), (∀ v ∈ o, v ∈ t) → ∀ v ∈ o, v ∈ loopF B grp k t
  | 0, t, h => h
  | k + 1, t, h => by
    rw [loopF]
    split
    · exact loop_keep hm hb k _ (step_keep hm hb h)
    · exact step_keep hm hb h
theorem misfit_zero {B : Nat → List Nat → List Nat} {lot o : List Nat} {q : Nat} : misfit B lot o q = 0 ↔ ∀ v ∈ o, v ∈ B q o ∧ v ∈ B q lot := by
  unfold misfit
  rw [List.length_eq_zero_iff, List.filter_eq_nil_iff]
  refine forall_congr' fun v => forall_congr' fun hv => ?_
  simp
theorem fits_iff {B : Nat → List Nat → List Nat} {lot o qs : List Nat} : fitsB B lot o qs = true ↔ ∀ q ∈ qs, ∀ v ∈ o, v ∈ B q o ∧ v ∈ B q lot := by
  unfold fitsB
  rw [List.all_eq_true]
  refine forall_congr' fun q => forall_congr' fun hq => ?_
  rw [decide_eq_true_eq, misfit_zero]
theorem greatest {B : Nat → List Nat → List Nat} (hm : ∀ q t t', (∀ v ∈ t, v ∈ t') → ∀ v ∈ B q t, v ∈ B q t') {n p : Nat} {grp lot : List Nat} (hg : ∀ q ∈ grp, q < p) :
    fitsB B lot (commonN B n grp lot) ((List.range p).filter fun q => decide (q ∈ grp)) = true ∧ ∀ o ∈ everyN n, fitsB B lot o ((List.range p).filter fun q => decide (q ∈ grp)) = true → ∀ v ∈ o, v ∈ commonN B n grp lot := by
  have hq : ∀ q, q ∈ ((List.range p).filter fun q => decide (q ∈ grp)) ↔ q ∈ grp := fun q => by
    rw [List.mem_filter, List.mem_range]
    simp only [decide_eq_true_eq]
    exact ⟨fun h => h.2, fun h => ⟨hg q h, h⟩⟩
  refine ⟨fits_iff.mpr fun q h v hv => ?_, fun o ho hf v hv => ?_⟩
  · have h := (hq q).mp h
    have hl : (firstF B grp lot (List.range n)).length < n + 1 := by
      have := (first_sub B lot grp (List.range n)).length_le
      rw [List.length_range] at this
      omega
    have hfix := loop_fix (B := B) (grp := grp) (n + 1) _ hl
    refine ⟨step_fix hfix q h v hv, ?_⟩
    have := (loop_sub (B := B) (grp := grp) (n + 1) (firstF B grp lot (List.range n))).subset hv
    exact (firstF_mem.mp this).2 q h
  · have hf := fits_iff.mp hf
    have hlt := (every_lot n o ho).lt
    refine loop_keep hm (fun q h u hu => (hf q ((hq q).mpr h) u hu).1) (n + 1) _ (fun u hu => ?_) v hv
    exact firstF_mem.mpr ⟨List.mem_range.mpr (hlt u hu), fun q h => (hf q ((hq q).mpr h) u hu).2⟩
theorem held_mono {ws : List Int} (hw : ∀ v, 0 ≤ ws.getD v 0) {t t' : List Nat} (h : ∀ v ∈ t, v ∈ t') : ∀ c : List Nat, heldC ws t c ≤ heldC ws t' c
  | [] => Int.le_refl _
  | v :: c => by
    have ih := held_mono hw h c
    have e : ∀ s : List Nat, heldC ws s (v :: c) = (if v ∈ s then ws.getD v 0 else 0) + heldC ws s c := fun s => by
      unfold heldC
      rw [List.filter_cons]
      by_cases hs : v ∈ s
      · rw [if_pos (decide_eq_true hs), if_pos hs, List.map_cons, List.sum_cons]
      · rw [if_neg (by simpa using hs), if_neg hs, Int.zero_add]
    rw [e, e]
    have := hw v
    by_cases h1 : v ∈ t
    · rw [if_pos h1, if_pos (h v h1)]
      omega
    · rw [if_neg h1]
      split <;> omega
theorem believed_mono {row ws : List Int} {ch : Num} (hw : ∀ x ∈ ws, 0 ≤ x) (hc : 0 < ch.2) {t t' : List Nat} (h : ∀ v ∈ t, v ∈ t') : ∀ v ∈ believedN row ws t ch, v ∈ believedN row ws t' ch := fun v hv => by
  unfold believedN at hv ⊢
  obtain ⟨a, b⟩ := List.mem_filter.mp hv
  refine List.mem_filter.mpr ⟨a, ?_⟩
  unfold believeC at b ⊢
  have b := of_decide_eq_true b
  refine decide_eq_true (Int.le_trans b ?_)
  exact Int.mul_le_mul_of_nonneg_right (held_mono (nonneg_getD hw) h _) (by omega)
theorem per_ok {n : Nat} {sights odds : List (List Int)} (h : TabOk n sights odds) {q : Nat} (hq : q < sights.length) : Per (mkBook n sights odds) q (numbN (sights.getD q [])) (bkWeights (sights.getD q []) (odds.getD q [])) := by
  obtain ⟨hp, hl⟩ := tab_per h hq
  have n1 := h.g.n1
  have n2 := h.g.n2
  have hpl := hp.l
  have hw : (bkWeights (sights.getD q []) (odds.getD q [])).length = n := by
    rw [bkWeights, lowN, lowN_len]
    omega
  refine ⟨hq, ?_, ?_, by rw [numb_len]; exact hl, hw, n1, n2, fun x hx => ?_, fun x hx => ?_⟩
  · show (sights.map bkCells)[q]? = _
    rw [List.getElem?_map, hp.s]
    rfl
  · show ((List.range sights.length).map fun p => bkWeights (sights.getD p []) (odds.getD p []))[q]? = _
    rw [List.getElem?_map, List.getElem?_range hq]
    rfl
  · have := numb_lt hx
    omega
  · obtain ⟨v, hv, e⟩ := List.getElem_of_mem hx
    have e2 : (bkWeights (sights.getD q []) (odds.getD q [])).getD v 0 = x := by rw [List.getD_eq_getElem?_getD, List.getElem?_eq_getElem hv, ← e] <;> rfl
    have hvr : v < (sights.getD q []).length := by omega
    rw [bkW_get hp.n1 hpl hvr] at e2
    rw [← e2]
    have hm : (odds.getD q []).getD v 0 ∈ odds.getD q [] := getD_mem (by omega)
    have hb := hp.wb _ hm
    refine ⟨Int.ediv_nonneg hb.1 (by omega), ?_⟩
    exact Int.le_trans (Int.ediv_le_self _ hb.1) hb.2
end FS
set_option Elab.async false
set_option linter.all false
set_option maxRecDepth 100000
set_option maxHeartbeats 4000000
set_option exponentiation.threshold 20000
namespace FS
open PySem PySem.Spec PyProof.Rows L2

local macro_rules | `(tactic| walk_at "side") => `(tactic| first | assumption | omega | decide)
local macro_rules | `(tactic| walk_at "hv") => `(tactic| (intro i hi; simp at hi; first | (subst hi; rfl) | (rcases hi with rfl | rfl <;> rfl) | (rcases hi with rfl | rfl | rfl <;> rfl)))
local macro_rules | `(tactic| walk_at "pr") => `(tactic| fail "no promise")
local macro_rules | `(tactic| walk_at "rv") => `(tactic| first
  | (with_reducible exact rv_add) | (with_reducible exact rv_sub) | (with_reducible exact rv_lt) | (with_reducible exact rv_le) | (with_reducible exact rv_gt) | (with_reducible exact rv_ge) | (with_reducible exact rv_eq) | (with_reducible exact rv_ne)
  | (with_reducible exact rv_is) | (with_reducible exact rv_isnot)
  | ((with_reducible apply rv_div); first | assumption | exact cdiv_small (by omega) (by omega))
  | ((with_reducible apply rv_mod); first | assumption | omega)
  | ((with_reducible apply rv_mul); first | assumption | exact cmul_left (by omega) | exact cmul_right (by omega))
  | ((with_reducible apply rv_mulW); assumption)
  | (with_reducible exact rv_p8) | (with_reducible exact rv_p18) | (with_reducible exact rv_p40) | (with_reducible exact rv_p20) | (with_reducible exact rv_p6) | (with_reducible exact rv_p7) | (with_reducible exact rv_p12) | (with_reducible exact rv_p25) | (with_reducible exact rv_p30) | (with_reducible exact rv_p39) | (with_reducible exact rv_p60)
  | ((with_reducible apply rv_ixxL); first | assumption | exact at_getD (by omega) (by omega) | exact at_nat rfl)
  | ((with_reducible apply rv_ixxT); first | assumption | exact at_getD (by omega) (by omega) | exact at_nat rfl)
  | ((with_reducible apply rv_ixxC); first | assumption)
  | (with_reducible exact ru_neg))
local macro_rules | `(tactic| walk_at "isi") => `(tactic| first | (with_reducible exact isi_non_int) | (with_reducible exact isi_non_bool) | (with_reducible exact isi_non_str) | (with_reducible exact isi_non_tuple) | (with_reducible exact isi_non_list) | (with_reducible exact isi_bl_int) | (with_reducible exact isi_bl_bool) | (with_reducible exact isi_bl_str) | (with_reducible exact isi_bl_tuple) | (with_reducible exact isi_bl_list) | (with_reducible exact isi_int_int) | (with_reducible exact isi_int_bool) | (with_reducible exact isi_int_str) | (with_reducible exact isi_int_tuple) | (with_reducible exact isi_int_list) | (with_reducible exact isi_str_int) | (with_reducible exact isi_str_bool) | (with_reducible exact isi_str_str) | (with_reducible exact isi_str_tuple) | (with_reducible exact isi_str_list) | (with_reducible exact isi_tup_int) | (with_reducible exact isi_tup_bool) | (with_reducible exact isi_tup_str) | (with_reducible exact isi_tup_tuple) | (with_reducible exact isi_tup_list) | (with_reducible exact isi_lst_int) | (with_reducible exact isi_lst_bool) | (with_reducible exact isi_lst_str) | (with_reducible exact isi_lst_tuple) | (with_reducible exact isi_lst_list))
local macro_rules | `(tactic| walk_at "rc") => `(tactic| first
  | walk_at "isi"
  | (with_reducible exact rc_len) | (with_reducible exact rc_lent) | (with_reducible exact rc_lenc) | (with_reducible exact rc_toint) | (with_reducible exact rc_absv) | (with_reducible exact rc_gcd)
  | ((with_reducible apply rc_lcm); assumption)
  | ((with_reducible apply rc_isi); (focus rfl); assumption)
  | (with_reducible exact rco_list) | (with_reducible exact rco_listT))
local macro_rules | `(tactic| walk_at "ev") => `(tactic| first
  | (with_reducible exact ev_int) | (with_reducible exact ev_bl) | (with_reducible exact ev_non) | (with_reducible exact ev_str) | (with_reducible exact ev_ty)
  | ((with_reducible apply ev_var); rfl)
  | ((with_reducible apply ev_lenOw); rfl)
  | ((with_reducible apply ev_op) <;> first | walk_at "ev" | walk_at "rv")
  | ((with_reducible apply ev_un) <;> first | walk_at "ev" | walk_at "rv")
  | ((with_reducible apply ev_cb) <;> first | walk_at "ev" | walk_at "rc")
  | ((with_reducible apply ev_call) <;> first | walk_at "ev" | walk_at "pr")
  | ((with_reducible apply ev_tup) <;> first | walk_at "ev" | (simp; done))
  | (with_reducible exact ea_nil)
  | ((with_reducible apply ea_cons) <;> walk_at "ev")
  | ((with_reducible apply et_test); walk_at "ev")
  | ((with_reducible apply et_B); walk_at "ev")
  | ((with_reducible apply et_not); walk_at "ev")
  | ((with_reducible apply et_or); (walk_at "ev"); intro _; walk_at "ev")
  | ((with_reducible apply et_and); (walk_at "ev"); intro _; walk_at "ev")
  | ((with_reducible apply ev_orV); (walk_at "ev"); intro _; walk_at "ev")
  | ((with_reducible apply ev_andV); (walk_at "ev"); intro _; walk_at "ev")
  | ((with_reducible apply ev_notV); walk_at "ev")
  | (with_reducible exact et_yes)
  | ((with_reducible apply evo_lst) <;> first | walk_at "ev" | (simp; done))
  | ((with_reducible apply ev_opO) <;> first | walk_at "ev" | ((with_reducible apply rvo_add); simp; omega))
  | ((with_reducible apply ev_cbO) <;> first | walk_at "ev" | walk_at "rc")
  | ((with_reducible apply ev_callO) <;> first | walk_at "ev" | walk_at "pr")
  | ((with_reducible apply ec_call) <;> first | walk_at "ev" | walk_at "pr")
  | ((with_reducible apply ec_tup) <;> first | walk_at "ev" | (simp; done))
  | ((with_reducible apply ec_lst) <;> first | walk_at "ev" | (simp; done))
  | (with_reducible exact eca_nil)
  | ((with_reducible apply eca_cons) <;> walk_at "ev")
  | ((with_reducible apply ec_sc); (walk_at "ev"); rfl)
  | ((with_reducible apply ec_ow); (walk_at "ev"); first | assumption | (intro d hd; simp at hd; done))
  | ((with_reducible apply ec_fz); walk_at "ev")
  | ((with_reducible apply ev_fz); walk_at "ev"))

local macro_rules | `(tactic| walk_at "im") => `(tactic| ((with_reducible apply wq_asg); walk_at "ev"; (try dsimp only [List.set, Int.reduceToNat])))
local macro_rules | `(tactic| walk_at "ow") => `(tactic| ((with_reducible apply wq_asgO); walk_at "ev"; (focus (first | decide | (simp; done))); (try dsimp only [List.set, Int.reduceToNat])))
local macro_rules | `(tactic| walk_at "cl") => `(tactic| ((with_reducible apply wq_asgC); walk_at "ev"; (focus (first | decide | (simp; done))); (try dsimp only [List.set, Int.reduceToNat])))
local macro_rules | `(tactic| walk_at "if") => `(tactic| ((first | (with_reducible apply wq_when) | (with_reducible apply wq_if) | (with_reducible apply ws_if)); walk_at "ev"; (try dsimp only [Int.reduceToNat])))
local macro_rules | `(tactic| walk_at "ret") => `(tactic| ((with_reducible apply ws_ret); walk_at "ev"))
local macro_rules | `(tactic| walk_at "go") => `(tactic| (try dsimp only [cxOf, L2.Cx.nox, L2.Cx.wish, L2.Cx.blk]))
local macro_rules | `(tactic| walk_at "ints") => `(tactic| (refine ev_fz (evo_lst ?_ (by decide)); repeat (first | exact ea_nil | refine ea_cons ev_int ?_)))

/-! ### the law -/
theorem bk_ok {n : Nat} {sights odds : List (List Int)} (h : TabOk n sights odds) : BkOk n sights odds := ⟨h.g, fun q hq => by
  obtain ⟨hp, hl⟩ := tab_per h hq
  have n1 := h.g.n1
  have n2 := h.g.n2
  refine low_ok (by omega) hp.l (by omega) hp.wb fun v hv => ?_
  have := h.pos q hq v (by omega)
  rw [hl]
  exact this⟩
theorem bel_tab {n : Nat} {sights odds : List (List Int)} (h : TabOk n sights odds) {q : Nat} (hq : q < sights.length) (t : List Nat) (ch : Num) : believesN (numbN (sights.getD q [])) (bkWeights (sights.getD q []) (odds.getD q [])) t ch = believedN (sights.getD q []) (odds.getD q []) t ch := by
  obtain ⟨hp, hl⟩ := tab_per h hq
  have n1 := h.g.n1
  exact bel_eq (by omega) hp.l fun v hv => ((bk_ok h).low q hq).pos _ (inside_cell hv)
section
variable {P : Program} {w : World} {K : PySem.W.Frag} {mg : Str → Option Value} {base : Heap} {C_Book : Addr}
theorem cm_ok {C : Addr} {n : Nat} {sights odds : List (List Int)} {grp lot : List Nat} {ch : Num} (h : TabOk n sights odds) (hg : ∀ q ∈ grp, q < sights.length) (hgl : grp.length ≤ 1000) (hlot : Lot n lot) (hc : ChOk ch) :
    CmOk C (mkBook n sights odds) n sights odds grp lot ch (fun q => numbN (sights.getD q [])) (fun q => bkWeights (sights.getD q []) (odds.getD q [])) := by
  have hm : ∀ q t t', (∀ v ∈ t, v ∈ t') → ∀ v ∈ believedN (sights.getD q []) (odds.getD q []) t ch, v ∈ believedN (sights.getD q []) (odds.getD q []) t' ch := fun q t t' ht v hv => by
    refine believed_mono (fun x hx => ?_) hc.2.1 ht v hv
    by_cases hq : q < odds.length
    · have ho : odds.getD q [] = odds[q] := by rw [List.getD_eq_getElem?_getD, List.getElem?_eq_getElem hq] <;> rfl
      rw [ho] at hx
      exact (h.g.wt _ (List.getElem_mem _) x hx).1
    · rw [List.getD_eq_getElem?_getD, List.getElem?_eq_none (by omega)] at hx
      simp at hx
  obtain ⟨g1, g2⟩ := greatest hm (n := n) (lot := lot) hg
  exact ⟨h, rfl, hg, hgl, fun q hq => per_ok h hq, fun q hq t => bel_tab h hq t ch, hlot, hc, g1, g2⟩
def groupL (ns : List Int) : List Nat := if (draws (cell ns 13) [4, 8]).getD 0 0 = 0 then List.range (pT ns) else groupN (cell ns 14) (pT ns)
def bitsL (ns : List Int) : List Int := draws (cell ns 15) ((List.range (wT ns)).map fun _ => 2)
def lotL (ns : List Int) : List Nat := if (draws (cell ns 13) [4, 8]).getD 1 0 = 0 then [] else if (draws (cell ns 13) [4, 8]).getD 1 0 = 1 then List.range (wT ns) else (List.range (wT ns)).filter fun w => decide ((bitsL ns).getD w 0 = 1)
theorem lotL_ok (ns : List Int) : Lot (wT ns) (lotL ns) := by
  unfold lotL
  split
  · exact ⟨fun x hx => by simp at hx, List.Pairwise.nil⟩
  · split
    · exact lot_range _
    · exact lot_sub (lot_range _) List.filter_sublist
theorem groupL_ok (ns : List Int) : (∀ q ∈ groupL ns, q < pT ns) ∧ (groupL ns).length ≤ 1000 := by
  obtain ⟨w1, w2, p1, p2, _⟩ := wp_ok ns
  unfold groupL
  split
  · exact ⟨fun q hq => List.mem_range.mp hq, by rw [List.length_range]; omega⟩
  · refine ⟨group_lt (by omega), ?_⟩
    rw [groupN, List.length_map, List.length_range]
    have := draws_bd (cell ns 14) szG 0 (by decide) (by decide)
    have e : szG.getD 0 0 = 8 := rfl
    rw [e] at this
    omega
theorem ok_law {f : Addr} {fd : FuncData} (F : Fun K "law" "law" s_law f fd) (gm : Gm K mg C_Book) (G_law_tables : FnG P w K mg base CX0 3 "_law_tables" ["script"] (spD K P_tables)) (G_Book : FnI P w K mg base CX0 2 C_Book "Book" ["self", "sights", "odds"] (spMk K C_Book (P_book C_Book)))
    (G_law_draws : FnG P w K mg base CX0 1 "_law_draws" ["cell", "sizes"] (spD K P_draws)) (G_law_cell : FnG P w K mg base CX0 1 "_law_cell" ["script", "k"] (spD K P_cell)) (G_law_group : FnG P w K mg base CX0 2 "_law_group" ["cell", "people"] (spD K P_group))
    (G_law_chance : FnG P w K mg base CX0 3 "_law_chance" ["cell", "tables", "lot"] (spD K P_chance)) (G_law_left : FnG P w K mg base CX0 2 "_law_left" ["tables", "group", "lot", "chance"] (spD K P_left))
    (G_law_believes_right : FnG P w K mg base CX0 4 "_law_believes_right" ["book", "tables", "person", "lot", "chance"] (spD K (P_bright C_Book))) (G_law_common_right : FnG P w K mg base CX0 5 "_law_common_right" ["book", "tables", "group", "lot", "chance"] (spD K (P_cright C_Book))) : FnOk P w K mg base CX0 6 f fd ["script"] (spD K P_law) := by
  refine okD F (k := 5) sc_law (fun ds R Z ⟨a, e, _⟩ => by rw [e] <;> rfl) (fun f cdv A outer s H E hr => ?_)
  refine ⟨_,
    (pss_cons (sv 1 sc_law.nd (pe_g G_law_tables hr.le pass0 (pa_cons (pv 0) pa_nil)))
    (pss_cons (sv 2 sc_law.nd (cb (kLen K) gm.len (pa_cons (ix K (pv 1) pe_int) pa_nil)))
    (pss_cons (sv 3 sc_law.nd (cb (kLen K) gm.len (pa_cons (ix K (ix K (pv 1) pe_int) pe_int) pa_nil)))
    (pss_cons (sv 4 sc_law.nd (pe_mk G_Book hr.le pass0 (pa_cons (pe_lc (own := [("row", 5)]) rfl sc_law.nd (pl K (ix K (pv 1) pe_int)) (blkOk_by (N := N_law) (sc := defScope s_law) (by decide +kernel)) (fun _ _ _ _ _ => (gn 5 sc_law.nd)) (fun _ _ _ _ _ => pts_nil) (fun _ _ _ _ _ => (ct (kList K) gm.list (pa_cons (pv 5) pa_nil)))) (pa_cons (pe_lc (own := [("row", 5)]) rfl sc_law.nd (pl K (ix K (pv 1) pe_int)) (blkOk_by (N := N_law) (sc := defScope s_law) (by decide +kernel)) (fun _ _ _ _ _ => (gn 5 sc_law.nd)) (fun _ _ _ _ _ => pts_nil) (fun _ _ _ _ _ => (ct (kList K) gm.list (pa_cons (pv 5) pa_nil)))) pa_nil))))
    (pss_cons (sv 6 sc_law.nd (pe_g G_law_draws hr.le pass0 (pa_cons (pe_g G_law_cell hr.le pass0 (pa_cons (pv 0) (pa_cons pe_int pa_nil))) (pa_cons (pe_lst (pa_cons pe_int (pa_cons pe_int pa_nil))) pa_nil))))
    (pss_cons (sv 7 sc_law.nd (pe_g G_law_group hr.le pass0 (pa_cons (pe_g G_law_cell hr.le pass0 (pa_cons (pv 0) (pa_cons pe_int pa_nil))) (pa_cons (pv 2) pa_nil))))
    (pss_cons (ps_if (pt_cmpR (kEq K hr.units) (ix K (pv 6) pe_int) pe_int (nomark _)) (pss_one (sv 7 sc_law.nd (ct (cListRngC rfl) gm.list (pa_cons (ct cRng1 gm.range (pa_cons (pv 2) pa_nil)) pa_nil)))) pss_nil)
    (pss_cons (sv 8 sc_law.nd (pe_g G_law_draws hr.le pass0 (pa_cons (pe_g G_law_cell hr.le pass0 (pa_cons (pv 0) (pa_cons pe_int pa_nil))) (pa_cons (pe_lc (own := [("w", 9)]) rfl sc_law.nd (pi_range1 (by rfl) gm.range (pa_cons (pv 3) pa_nil)) (blkOk_by (N := N_law) (sc := defScope s_law) (by decide +kernel)) (fun _ _ _ _ _ => (gn 9 sc_law.nd)) (fun _ _ _ _ _ => pts_nil) (fun _ _ _ _ _ => pe_int)) pa_nil))))
    (pss_cons (ps_setLc (i := 10) (own := [("w", 9)]) rfl sc_law.nd rfl rfl (sw_true rfl rfl rfl (by decide +kernel)) (pi_range1 (by rfl) gm.range (pa_cons (pv 3) pa_nil)) (blkOk_by (N := N_law) (sc := defScope s_law) (by decide +kernel)) (fun _ _ _ _ _ => (gn 9 sc_law.nd)) (fun _ _ _ _ _ => (pts_one (pt_cmpR (kEq K hr.units) (ix K (pv 8) (pv 9)) pe_int (nomark _)))) (fun _ _ _ _ _ => (pv 9)))
    (pss_cons (ps_if (pt_cmpR (kEq K hr.units) (ix K (pv 6) pe_int) pe_int (nomark _)) (pss_one (sv 10 sc_law.nd (pe_lst pa_nil))) (pss_one (ps_if (pt_cmpR (kEq K hr.units) (ix K (pv 6) pe_int) pe_int (nomark _)) (pss_one (sv 10 sc_law.nd (ct (cListRngC rfl) gm.list (pa_cons (ct cRng1 gm.range (pa_cons (pv 3) pa_nil)) pa_nil)))) pss_nil)))
    (pss_cons (sv 11 sc_law.nd (pe_g G_law_chance hr.le pass0 (pa_cons (pe_g G_law_cell hr.le pass0 (pa_cons (pv 0) (pa_cons pe_int pa_nil))) (pa_cons (pv 1) (pa_cons (pv 10) pa_nil)))))
    (pss_cons (sv 12 sc_law.nd (pe_g G_law_chance hr.le pass0 (pa_cons (pe_g G_law_cell hr.le pass0 (pa_cons (pv 0) (pa_cons pe_int pa_nil))) (pa_cons (pv 1) (pa_cons (pe_g G_law_left hr.le pass0 (pa_cons (pv 1) (pa_cons (pv 7) (pa_cons (pv 10) (pa_cons (pv 11) pa_nil))))) pa_nil)))))
    (pss_cons (ps_for PassesOwn.never rfl (pl K (pe_lst (pa_cons (pv 11) (pa_cons (pv 12) pa_nil)))) (gn 13 sc_law.nd) (pss_cons (ps_for PassesOwn.never rfl (pi_range1 (by rfl) gm.range (pa_cons (pv 2) pa_nil)) (gn 14 sc_law.nd) (pss_one (ps_if (pt_not (pt_val (pe_g G_law_believes_right hr.le pass0 (pa_cons (pv 4) (pa_cons (pv 1) (pa_cons (pv 14) (pa_cons (pv 10) (pa_cons (pv 13) pa_nil)))))))) (pss_one (ps_ret pe_bl)) pss_nil))) (pss_one (ps_if (pt_not (pt_val (pe_g G_law_common_right hr.le pass0 (pa_cons (pv 4) (pa_cons (pv 1) (pa_cons (pv 7) (pa_cons (pv 10) (pa_cons (pv 13) pa_nil)))))))) (pss_one (ps_ret pe_bl)) pss_nil))))
    (pss_one (ps_ret pe_bl))))))))))))))), fun ds R Z p => ?_⟩
  obtain ⟨ns, rfl, p⟩ := p
  refine ws_to (ρ' := [.im (.scr ns), .no, .no, .no, .no, .no, .no, .no, .no, .no, .no, .no, .no, .no, .no]) rfl ?_
  walk_at "go"
  obtain ⟨w1, w2, p1, p2, _⟩ := wp_ok ns
  have ht := tables_ok ns
  have hsl : (sightsT ns).length = pT ns := by rw [sightsT, List.length_map, List.length_range]
  have hol : (oddsT ns).length = pT ns := by rw [oddsT, List.length_map, List.length_range]
  obtain ⟨hg, hgl⟩ := groupL_ok ns
  have hlot := lotL_ok ns
  have hb := bk_ok ht
  have hs0 : (sightsT ns)[0]? = some (sightsT ns)[0] := List.getElem?_eq_getElem (by omega)
  have hrow0 := ht.g.row _ (List.mem_of_getElem? hs0)
  have hleft : ∀ ch, ChOk ch → P_left [tabD (sightsT ns) (oddsT ns), natsD (groupL ns), natsD (lotL ns), numD ch] _ _ := fun ch hc => pr_left (sights := sightsT ns) (odds := oddsT ns) (n := wT ns) (grp := groupL ns) (lot := lotL ns) (ch := ch) (row := fun q => (sightsT ns).getD q []) (ws := fun q => (oddsT ns).getD q []) ⟨_, hs0, hrow0⟩ w2 (fun q hq => tab_per ht (by rw [hsl]; exact hg q hq)) hc
  have hch := fun c lot => chance_ok ht c lot
  have hpc := fun c lot => pr_chance (c := c) (lot := lot) ht
  refine wq_asg (d := tabD (sightsT ns) (oddsT ns)) (ev_call (ea_cons (ev_var rfl) ea_nil) pr_tables) ?_
  dsimp only [List.set]
  refine wq_asg (d := .int (pT ns : Int)) ((ev_cb (ea_cons (ev_op (ev_var rfl) ev_int (rv_ixxL (at_nat (j := 0) rfl))) ea_nil) rc_len).is (by rw [List.length_map, hsl])) ?_
  dsimp only [List.set]
  refine wq_asg (d := .int (wT ns : Int)) ((ev_cb (ea_cons (ev_op (ev_op (ev_var rfl) ev_int (rv_ixxL (at_nat (j := 0) rfl))) ev_int (rv_ixxL (at_map (k := 0) hs0))) ea_nil) rc_len).is (by rw [List.length_map, hrow0])) ?_
  dsimp only [List.set]
  refine wq_asg (d := bookD C_Book (mkBook (wT ns) (sightsT ns) (oddsT ns))) ((ev_er (ec_fz (ec_make (ea_cons (ev_fz (evo_map (xs := sightsT ns) (enc := intsD) intsD (src_list (ev_op (ev_var rfl) ev_int (rv_ixxL (at_nat (j := 0) rfl)))) (by walk_at "hv") (fun r hr => ⟨_, gd_name, by simp, ev_fz (ev_cbO (ea_cons (ev_var rfl) ea_nil) rco_list)⟩) (by omega))) (ea_cons (ev_fz (evo_map (xs := oddsT ns) (enc := intsD) intsD (src_list (ev_op (ev_var rfl) ev_int (rv_ixxL (at_nat (j := 1) rfl)))) (by walk_at "hv") (fun r hr => ⟨_, gd_name, by simp, ev_fz (ev_cbO (ea_cons (ev_var rfl) ea_nil) rco_list)⟩) (by omega))) ea_nil)) ⟨_, _, _, rfl, hb, rfl⟩))).is book_er) ?_
  dsimp only [List.set]
  have h48 : ∀ s ∈ ([4, 8] : List Int), 0 < s ∧ s < 2 ^ 200 := by decide
  refine wq_asg (d := intsD (draws (cell ns 13) [4, 8])) (ec_fz (ec_call (ea_cons (ev_call (by walk_at "ev") (pr_cell (by decide))) (ea_cons (by walk_at "ints") ea_nil)) (pr_draws (sizes := [4, 8]) h48 (by decide)))) ?_
  dsimp only [List.set]
  have hdl : (draws (cell ns 13) [4, 8]).length = 2 := draws_len _ _
  have hda : ∀ i : Nat, i < 2 → atI ((draws (cell ns 13) [4, 8]).map D.int) (i : Int) = some (.int ((draws (cell ns 13) [4, 8]).getD i 0)) := fun i hi => at_ints (by omega)
  refine wq_asg (d := natsD (groupN (cell ns 14) (pT ns))) ((ev_fz (ev_callO (ea_cons (ev_call (by walk_at "ev") (pr_cell (by decide))) (ea_cons (ev_var rfl) ea_nil)) (pr_group p1 (by omega)))).is (natsD_eq _).symm) ?_
  dsimp only [List.set]
  refine ws_cut [.im (.scr ns), .im (tabD (sightsT ns) (oddsT ns)), .im (.int (pT ns : Int)), .im (.int (wT ns : Int)), .im (bookD C_Book (mkBook (wT ns) (sightsT ns) (oddsT ns))), .no, .im (intsD (draws (cell ns 13) [4, 8])), .im (natsD (groupL ns)), .no, .no, .no, .no, .no, .no, .no] ?_ ?_
  · refine ws_if (et_test (ev_op (ev_op (ev_var rfl) ev_int (rv_ixxL (hda 0 (by decide)))) ev_int rv_eq)) (fun hb => ?_) (fun hb => ?_)
    · have hb : (draws (cell ns 13) [4, 8]).getD 0 0 = 0 := of_decide_eq_true hb
      refine ws_asg (d := natsD (groupL ns)) ((ev_fz (evo_rng (n := (pT ns : Int)) (ea_cons (ev_var rfl) ea_nil) (by omega) (by omega))).is ?_) rfl
      rw [groupL, if_pos hb, natsD_eq, Int.toNat_natCast, rng_nats]
      rfl
    · have hb : ¬ (draws (cell ns 13) [4, 8]).getD 0 0 = 0 := of_decide_eq_false hb
      refine ws_next ?_
      rw [groupL, if_neg hb]
  have hbl : (bitsL ns).length = wT ns := by rw [bitsL, draws_len, List.length_map, List.length_range]
  refine wq_asg (d := intsD (bitsL ns)) (ec_fz (ec_call (ea_cons (ev_call (by walk_at "ev") (pr_cell (by decide))) (ea_cons ((ev_fz (evo_map (xs := List.range (wT ns)) (enc := fun k : Nat => D.int (0 + (k : Int))) (fun _ => D.int 2) (src_rng1 (n := (wT ns : Int)) (ea_cons (ev_var rfl) ea_nil) (by omega)) (by walk_at "hv") (fun v hv => ⟨_, gd_name, by simp, ev_int⟩) (by rw [List.length_range]; omega))).is ?_) ea_nil)) (pr_draws (sizes := (List.range (wT ns)).map fun _ => 2) ?_ (by rw [List.length_map, List.length_range]; omega)))) ?_
  · rw [List.map_map]
    rfl
  · intro s hs
    obtain ⟨_, _, rfl⟩ := List.mem_map.mp hs
    decide
  dsimp only [List.set]
  refine wq_asg (d := natsD ((List.range (wT ns)).filter fun w => decide ((bitsL ns).getD w 0 = 1))) ((ev_fz (evo_lc (xs := List.range (wT ns)) (enc := fun k : Nat => D.int (0 + (k : Int))) (fun v => decide ((bitsL ns).getD v 0 = 1)) (fun v => D.int (v : Int)) (src_rng1 (n := (wT ns : Int)) (ea_cons (ev_var rfl) ea_nil) (by omega)) (by walk_at "hv") (fun v hv => ⟨_, gd_name, by simp, ?_, fun _ => ?_⟩) (by rw [List.length_range]; omega)))) ?_
  · dsimp only [setD, wipeD, List.set, List.map]
    have hv := List.mem_range.mp hv
    have e1 : (0 : Int) + (v : Int) = ((v : Nat) : Int) := Int.zero_add _
    exact et_test (ev_op (ev_op (ev_var rfl) (ev_var rfl) (rv_ixxL (by rw [e1]; exact at_ints (by omega)))) ev_int rv_eq)
  · dsimp only [setD, wipeD, List.set, List.map]
    exact (ev_var rfl).is (by rw [Int.zero_add])
  dsimp only [List.set]
  refine ws_cut [.im (.scr ns), .im (tabD (sightsT ns) (oddsT ns)), .im (.int (pT ns : Int)), .im (.int (wT ns : Int)), .im (bookD C_Book (mkBook (wT ns) (sightsT ns) (oddsT ns))), .no, .im (intsD (draws (cell ns 13) [4, 8])), .im (natsD (groupL ns)), .im (intsD (bitsL ns)), .no, .im (natsD (lotL ns)), .no, .no, .no, .no] ?_ ?_
  · refine ws_if (et_test (ev_op (ev_op (ev_var rfl) ev_int (rv_ixxL (hda 1 (by decide)))) ev_int rv_eq)) (fun hb => ?_) (fun hb => ?_)
    · have hb : (draws (cell ns 13) [4, 8]).getD 1 0 = 0 := of_decide_eq_true hb
      refine ws_asg (d := natsD (lotL ns)) ((ev_fz (evo_lst ea_nil (by simp))).is ?_) rfl
      rw [lotL, if_pos hb]
      rfl
    · have hb : ¬ (draws (cell ns 13) [4, 8]).getD 1 0 = 0 := of_decide_eq_false hb
      refine ws_if (et_test (ev_op (ev_op (ev_var rfl) ev_int (rv_ixxL (hda 1 (by decide)))) ev_int rv_eq)) (fun hb2 => ?_) (fun hb2 => ?_)
      · have hb2 : (draws (cell ns 13) [4, 8]).getD 1 0 = 1 := of_decide_eq_true hb2
        refine ws_asg (d := natsD (lotL ns)) ((ev_fz (evo_rng (n := (wT ns : Int)) (ea_cons (ev_var rfl) ea_nil) (by omega) (by omega))).is ?_) rfl
        rw [lotL, if_neg hb, if_pos hb2, natsD_eq, Int.toNat_natCast, rng_nats]
        rfl
      · have hb2 : ¬ (draws (cell ns 13) [4, 8]).getD 1 0 = 1 := of_decide_eq_false hb2
        refine ws_next ?_
        rw [lotL, if_neg hb, if_neg hb2]
  have hch1 := hch (cell ns 16) (lotL ns)
  refine wq_asg (d := numD (chanceN (cell ns 16) (sightsT ns) (oddsT ns) (lotL ns))) (ev_call (ea_cons (ev_call (by walk_at "ev") (pr_cell (by decide))) (ea_cons (ev_var rfl) (ea_cons (ev_var rfl) ea_nil))) (hpc _ _)) ?_
  dsimp only [List.set]
  generalize chanceN (cell ns 16) (sightsT ns) (oddsT ns) (lotL ns) = ch1 at hch1
  have hl1 := hleft ch1 hch1
  generalize commonN (fun q t => believedN ((sightsT ns).getD q []) ((oddsT ns).getD q []) t ch1) (wT ns) (groupL ns) (lotL ns) = left1 at hl1
  have hch2 := hch (cell ns 17) left1
  refine wq_asg (d := numD (chanceN (cell ns 17) (sightsT ns) (oddsT ns) left1)) (ev_call (ea_cons (ev_call (by walk_at "ev") (pr_cell (by decide))) (ea_cons (ev_var rfl) (ea_cons ((ev_fz (ev_callO (ea_cons (ev_var rfl) (ea_cons (ev_var rfl) (ea_cons (ev_var rfl) (ea_cons (ev_var rfl) ea_nil)))) hl1)).is (natsD_eq _).symm) ea_nil))) (hpc _ _)) ?_
  dsimp only [List.set]
  generalize chanceN (cell ns 17) (sightsT ns) (oddsT ns) left1 = ch2 at hch2
  refine wq_for (src_list (l := [numD ch1, numD ch2]) (ev_fz (evo_lst (ea_cons (ev_var rfl) (ea_cons (ev_var rfl) ea_nil)) (by simp)))) (fun i ρ' => ∃ s13 s14, ρ' = [.im (.scr ns), .im (tabD (sightsT ns) (oddsT ns)), .im (.int (pT ns : Int)), .im (.int (wT ns : Int)), .im (bookD C_Book (mkBook (wT ns) (sightsT ns) (oddsT ns))), .no, .im (intsD (draws (cell ns 13) [4, 8])), .im (natsD (groupL ns)), .im (intsD (bitsL ns)), .no, .im (natsD (lotL ns)), .im (numD ch1), .im (numD ch2), s13, s14]) ⟨_, _, rfl⟩ ?_ ?_
  · rintro i d ρ' hd ⟨s13, s14, rfl⟩
    have hd : ∃ ch, ChOk ch ∧ d = numD ch := by
      have hm := List.mem_of_getElem? hd
      rcases List.mem_cons.mp hm with rfl | hm
      · exact ⟨_, hch1, rfl⟩
      · exact ⟨_, hch2, List.mem_singleton.mp hm⟩
    obtain ⟨ch, hc, rfl⟩ := hd
    refine ⟨_, gd_name, ?_⟩
    dsimp only [setD, List.set]
    refine wq_for (src_rng1 (n := (pT ns : Int)) (ea_cons (ev_var rfl) ea_nil) (by omega)) (fun i ρ' => ∃ s14, ρ' = [.im (.scr ns), .im (tabD (sightsT ns) (oddsT ns)), .im (.int (pT ns : Int)), .im (.int (wT ns : Int)), .im (bookD C_Book (mkBook (wT ns) (sightsT ns) (oddsT ns))), .no, .im (intsD (draws (cell ns 13) [4, 8])), .im (natsD (groupL ns)), .im (intsD (bitsL ns)), .no, .im (natsD (lotL ns)), .im (numD ch1), .im (numD ch2), .im (numD ch), s14]) ⟨_, rfl⟩ ?_ ?_
    · rintro i d ρ' hd ⟨s14, rfl⟩
      obtain ⟨hi, rfl⟩ := rng_get hd
      refine ⟨_, gd_name, ?_⟩
      dsimp only [setD, List.set]
      have hq : i < (sightsT ns).length := by omega
      have e1 : (0 : Int) + (i : Int) = ((i : Nat) : Int) := Int.zero_add _
      rw [e1]
      exact ws_ifF (et_not (et_B (ev_call (ea_cons (ev_var rfl) (ea_cons (ev_var rfl) (ea_cons (ev_var rfl) (ea_cons (ev_var rfl) (ea_cons (ev_var rfl) ea_nil))))) (pr_bright (per_ok ht hq) (tab_per ht hq).1 hlot hc (bel_tab ht hq _ _))))) rfl (ws_next ⟨_, rfl⟩)
    · rintro ρ' ⟨s14, rfl⟩
      exact ws_ifF (et_not (et_B (ev_call (ea_cons (ev_var rfl) (ea_cons (ev_var rfl) (ea_cons (ev_var rfl) (ea_cons (ev_var rfl) (ea_cons (ev_var rfl) ea_nil))))) (pr_cright (cm_ok ht (fun q h => by rw [hsl]; exact hg q h) hgl hlot hc))))) rfl (ws_next ⟨_, _, rfl⟩)
  · rintro ρ' ⟨s13, s14, rfl⟩
    exact ws_ret ev_bl p
end
end FS
set_option Elab.async false
set_option linter.all false
set_option maxRecDepth 100000
set_option maxHeartbeats 4000000
set_option exponentiation.threshold 20000
namespace FS
open PySem PySem.Spec PyProof.Rows L2
theorem all_mk {l : PySem.W.OpenLaw} {w : World} {K : PySem.W.Frag} {h : Heap} {mg : Str → Option Value} {fa f0 f1 f2 f3 f4 f5 f6 f7 f8 f9 f10 f11 f12 f13 f14 f15 f16 f17 f18 f19 f20 f21 f22 f23 f24 f25 f26 f27 f28 f29 C_Book : Addr} (X : K.In h) (G : h.Ns mainGlobals mg) (hfa : mg "law" = some (.ref fa))
    {od0 od1 od2 od3 od4 od5 od6 od7 od8 od9 od10 od11 od12 od13 od14 od15 od16 od17 od18 od19 od20 od21 od22 od23 od24 od25 od26 od27 od28 od29 an0 an1 an2 an3 an4 an5 an6 an7 an8 an9 an10 an11 an12 an13 an14 an15 an16 an17 an18 an19 an20 an21 an22 an23 an24 an25 an26 an27 an28 an29 : Option Addr} {sl0 sl1 sl2 sl3 sl4 sl5 sl6 sl7 sl8 sl9 sl10 sl11 sl12 sl13 sl14 sl15 sl16 sl17 sl18 sl19 sl20 sl21 sl22 sl23 sl24 sl25 sl26 sl27 sl28 sl29 : Array (Option Value)} {oc0 oc1 oc2 oc3 oc4 oc5 oc6 oc7 oc8 oc9 oc10 oc11 oc12 oc13 oc14 oc15 oc16 oc17 oc18 oc19 oc20 oc21 oc22 oc23 oc24 oc25 oc26 oc27 oc28 oc29 kV0 kV1 kV2 kV3 kV4 kV5 kV6 kV7 kV8 kV9 kV10 kV11 kV12 kV13 kV14 kV15 kV16 kV17 kV18 kV19 kV20 kV21 kV22 kV23 kV24 kV25 kV26 kV27 kV28 kV29 dc0 dc1 dc2 dc3 dc4 dc5 dc6 dc7 dc8 dc9 dc10 dc11 dc12 dc13 dc14 dc15 dc16 dc17 dc18 dc19 dc20 dc21 dc22 dc23 dc24 dc25 dc26 dc27 dc28 dc29 pm0 pm1 pm2 pm3 pm4 pm5 pm6 pm7 pm8 pm9 pm10 pm11 pm12 pm13 pm14 pm15 pm16 pm17 pm18 pm19 pm20 pm21 pm22 pm23 pm24 pm25 pm26 pm27 pm28 pm29 cd0 cd1 cd2 cd3 cd4 cd5 cd6 cd7 cd8 cd9 cd10 cd11 cd12 cd13 cd14 cd15 cd16 cd17 cd18 cd19 cd20 cd21 cd22 cd23 cd24 cd25 cd26 cd27 cd28 cd29 ct0 ct1 ct2 ct3 ct4 ct5 ct6 ct7 ct8 ct9 ct10 ct11 ct12 ct13 ct14 ct15 ct16 ct17 ct18 ct19 ct20 ct21 ct22 ct23 ct24 ct25 ct26 ct27 ct28 ct29 : Value} {t7 t8 t9 : Tok}
    (a0 : PySem.W.nsIn K mainGlobals "_law_cell" = some (some (.ref f0)))
    (l0 : K.lookup f0 = some ⟨oc0, od0, .func (PySem.W.fnOf "_law_cell" "_law_cell" (defArgs s_law_cell) (defBody s_law_cell) (defScope s_law_cell) .none kV0 dc0 pm0 an0 cd0 ct0), sl0⟩) (c0 : PySem.W.codeIn K cd0 "_law_cell" = true) (k0 : PySem.W.keepIn K (.ref f0) = true)
    (a1 : PySem.W.nsIn K mainGlobals "_law_draws" = some (some (.ref f1)))
    (l1 : K.lookup f1 = some ⟨oc1, od1, .func (PySem.W.fnOf "_law_draws" "_law_draws" (defArgs s_law_draws) (defBody s_law_draws) (defScope s_law_draws) .none kV1 dc1 pm1 an1 cd1 ct1), sl1⟩) (c1 : PySem.W.codeIn K cd1 "_law_draws" = true) (k1 : PySem.W.keepIn K (.ref f1) = true)
    (a2 : PySem.W.nsIn K mainGlobals "_law_gcd" = some (some (.ref f2)))
    (l2 : K.lookup f2 = some ⟨oc2, od2, .func (PySem.W.fnOf "_law_gcd" "_law_gcd" (defArgs s_law_gcd) (defBody s_law_gcd) (defScope s_law_gcd) .none kV2 dc2 pm2 an2 cd2 ct2), sl2⟩) (c2 : PySem.W.codeIn K cd2 "_law_gcd" = true) (k2 : PySem.W.keepIn K (.ref f2) = true)
    (a3 : PySem.W.nsIn K mainGlobals "_law_ratio" = some (some (.ref f3)))
    (l3 : K.lookup f3 = some ⟨oc3, od3, .func (PySem.W.fnOf "_law_ratio" "_law_ratio" (defArgs s_law_ratio) (defBody s_law_ratio) (defScope s_law_ratio) .none kV3 dc3 pm3 an3 cd3 ct3), sl3⟩) (c3 : PySem.W.codeIn K cd3 "_law_ratio" = true) (k3 : PySem.W.keepIn K (.ref f3) = true)
    (a4 : PySem.W.nsIn K mainGlobals "_law_same" = some (some (.ref f4)))
    (l4 : K.lookup f4 = some ⟨oc4, od4, .func (PySem.W.fnOf "_law_same" "_law_same" (defArgs s_law_same) (defBody s_law_same) (defScope s_law_same) .none kV4 dc4 pm4 an4 cd4 ct4), sl4⟩) (c4 : PySem.W.codeIn K cd4 "_law_same" = true) (k4 : PySem.W.keepIn K (.ref f4) = true)
    (a5 : PySem.W.nsIn K mainGlobals "check_person" = some (some (.ref f5)))
    (l5 : K.lookup f5 = some ⟨oc5, od5, .func (PySem.W.fnOf "check_person" "check_person" (defArgs s_check_person) (defBody s_check_person) (defScope s_check_person) .none kV5 dc5 pm5 an5 cd5 ct5), sl5⟩) (c5 : PySem.W.codeIn K cd5 "check_person" = true) (k5 : PySem.W.keepIn K (.ref f5) = true)
    (a6 : PySem.W.nsIn K mainGlobals "check_world" = some (some (.ref f6)))
    (l6 : K.lookup f6 = some ⟨oc6, od6, .func (PySem.W.fnOf "check_world" "check_world" (defArgs s_check_world) (defBody s_check_world) (defScope s_check_world) .none kV6 dc6 pm6 an6 cd6 ct6), sl6⟩) (c6 : PySem.W.codeIn K cd6 "check_world" = true) (k6 : PySem.W.keepIn K (.ref f6) = true)
    (a7 : PySem.W.nsIn K mainGlobals "check_group" = some (some (.ref f7)))
    (l7 : K.lookup f7 = some ⟨oc7, od7, .func (PySem.W.fnOf "check_group" "check_group" (defArgs s_check_group) (defBody s_check_group) (defScope s_check_group) .none kV7 dc7 pm7 an7 cd7 ct7), sl7⟩) (c7 : PySem.W.codeIn K cd7 "check_group" = true) (k7 : PySem.W.keepIn K (.ref f7) = true)
    (a8 : PySem.W.nsIn K mainGlobals "check_lot" = some (some (.ref f8)))
    (l8 : K.lookup f8 = some ⟨oc8, od8, .func (PySem.W.fnOf "check_lot" "check_lot" (defArgs s_check_lot) (defBody s_check_lot) (defScope s_check_lot) .none kV8 dc8 pm8 an8 cd8 ct8), sl8⟩) (c8 : PySem.W.codeIn K cd8 "check_lot" = true) (k8 : PySem.W.keepIn K (.ref f8) = true)
    (a9 : PySem.W.nsIn K mainGlobals "check_sights" = some (some (.ref f9)))
    (l9 : K.lookup f9 = some ⟨oc9, od9, .func (PySem.W.fnOf "check_sights" "check_sights" (defArgs s_check_sights) (defBody s_check_sights) (defScope s_check_sights) .none kV9 dc9 pm9 an9 cd9 ct9), sl9⟩) (c9 : PySem.W.codeIn K cd9 "check_sights" = true) (k9 : PySem.W.keepIn K (.ref f9) = true)
    (a10 : PySem.W.nsIn K mainGlobals "check_odds" = some (some (.ref f10)))
    (l10 : K.lookup f10 = some ⟨oc10, od10, .func (PySem.W.fnOf "check_odds" "check_odds" (defArgs s_check_odds) (defBody s_check_odds) (defScope s_check_odds) .none kV10 dc10 pm10 an10 cd10 ct10), sl10⟩) (c10 : PySem.W.codeIn K cd10 "check_odds" = true) (k10 : PySem.W.keepIn K (.ref f10) = true)
    (a11 : PySem.W.nsIn K mainGlobals "numbered" = some (some (.ref f11)))
    (l11 : K.lookup f11 = some ⟨oc11, od11, .func (PySem.W.fnOf "numbered" "numbered" (defArgs s_numbered) (defBody s_numbered) (defScope s_numbered) .none kV11 dc11 pm11 an11 cd11 ct11), sl11⟩) (c11 : PySem.W.codeIn K cd11 "numbered" = true) (k11 : PySem.W.keepIn K (.ref f11) = true)
    (a12 : PySem.W.nsIn K mainGlobals "gathered" = some (some (.ref f12)))
    (l12 : K.lookup f12 = some ⟨oc12, od12, .func (PySem.W.fnOf "gathered" "gathered" (defArgs s_gathered) (defBody s_gathered) (defScope s_gathered) .none kV12 dc12 pm12 an12 cd12 ct12), sl12⟩) (c12 : PySem.W.codeIn K cd12 "gathered" = true) (k12 : PySem.W.keepIn K (.ref f12) = true)
    (a13 : PySem.W.nsIn K mainGlobals "lowest" = some (some (.ref f13)))
    (l13 : K.lookup f13 = some ⟨oc13, od13, .func (PySem.W.fnOf "lowest" "lowest" (defArgs s_lowest) (defBody s_lowest) (defScope s_lowest) .none kV13 dc13 pm13 an13 cd13 ct13), sl13⟩) (c13 : PySem.W.codeIn K cd13 "lowest" = true) (k13 : PySem.W.keepIn K (.ref f13) = true)
    (a14 : PySem.W.findIn K (.ref C_Book) "__init__" = some (some (.ref f14))) (i14 : PySem.W.isFn K (.ref f14) = true)
    (l14 : K.lookup f14 = some ⟨oc14, od14, .func (PySem.W.fnOf "__init__" "Book.__init__" (defArgs s_Book_init) (defBody s_Book_init) (defScope s_Book_init) .none kV14 dc14 pm14 an14 cd14 ct14), sl14⟩) (c14 : PySem.W.codeIn K cd14 "Book.__init__" = true) (k14 : PySem.W.keepIn K (.ref f14) = true)
    (a15 : PySem.W.findIn K (.ref C_Book) "cells" = some (some (.ref f15))) (i15 : PySem.W.isFn K (.ref f15) = true)
    (l15 : K.lookup f15 = some ⟨oc15, od15, .func (PySem.W.fnOf "cells" "Book.cells" (defArgs s_Book_cells) (defBody s_Book_cells) (defScope s_Book_cells) .none kV15 dc15 pm15 an15 cd15 ct15), sl15⟩) (c15 : PySem.W.codeIn K cd15 "Book.cells" = true) (k15 : PySem.W.keepIn K (.ref f15) = true)
    (a16 : PySem.W.findIn K (.ref C_Book) "weight" = some (some (.ref f16))) (i16 : PySem.W.isFn K (.ref f16) = true)
    (l16 : K.lookup f16 = some ⟨oc16, od16, .func (PySem.W.fnOf "weight" "Book.weight" (defArgs s_Book_weight) (defBody s_Book_weight) (defScope s_Book_weight) .none kV16 dc16 pm16 an16 cd16 ct16), sl16⟩) (c16 : PySem.W.codeIn K cd16 "Book.weight" = true) (k16 : PySem.W.keepIn K (.ref f16) = true)
    (a17 : PySem.W.nsIn K mainGlobals "believes" = some (some (.ref f17)))
    (l17 : K.lookup f17 = some ⟨oc17, od17, .func (PySem.W.fnOf "believes" "believes" (defArgs s_believes) (defBody s_believes) (defScope s_believes) .none kV17 dc17 pm17 an17 cd17 ct17), sl17⟩) (c17 : PySem.W.codeIn K cd17 "believes" = true) (k17 : PySem.W.keepIn K (.ref f17) = true)
    (a18 : PySem.W.nsIn K mainGlobals "common_belief" = some (some (.ref f18)))
    (l18 : K.lookup f18 = some ⟨oc18, od18, .func (PySem.W.fnOf "common_belief" "common_belief" (defArgs s_common_belief) (defBody s_common_belief) (defScope s_common_belief) .none kV18 dc18 pm18 an18 cd18 ct18), sl18⟩) (c18 : PySem.W.codeIn K cd18 "common_belief" = true) (k18 : PySem.W.keepIn K (.ref f18) = true)
    (a19 : PySem.W.nsIn K mainGlobals "_law_weights" = some (some (.ref f19)))
    (l19 : K.lookup f19 = some ⟨oc19, od19, .func (PySem.W.fnOf "_law_weights" "_law_weights" (defArgs s_law_weights) (defBody s_law_weights) (defScope s_law_weights) .none kV19 dc19 pm19 an19 cd19 ct19), sl19⟩) (c19 : PySem.W.codeIn K cd19 "_law_weights" = true) (k19 : PySem.W.keepIn K (.ref f19) = true)
    (a20 : PySem.W.nsIn K mainGlobals "_law_tables" = some (some (.ref f20)))
    (l20 : K.lookup f20 = some ⟨oc20, od20, .func (PySem.W.fnOf "_law_tables" "_law_tables" (defArgs s_law_tables) (defBody s_law_tables) (defScope s_law_tables) .none kV20 dc20 pm20 an20 cd20 ct20), sl20⟩) (c20 : PySem.W.codeIn K cd20 "_law_tables" = true) (k20 : PySem.W.keepIn K (.ref f20) = true)
    (a21 : PySem.W.nsIn K mainGlobals "_law_believed" = some (some (.ref f21)))
    (l21 : K.lookup f21 = some ⟨oc21, od21, .func (PySem.W.fnOf "_law_believed" "_law_believed" (defArgs s_law_believed) (defBody s_law_believed) (defScope s_law_believed) .none kV21 dc21 pm21 an21 cd21 ct21), sl21⟩) (c21 : PySem.W.codeIn K cd21 "_law_believed" = true) (k21 : PySem.W.keepIn K (.ref f21) = true)
    (a22 : PySem.W.nsIn K mainGlobals "_law_left" = some (some (.ref f22)))
    (l22 : K.lookup f22 = some ⟨oc22, od22, .func (PySem.W.fnOf "_law_left" "_law_left" (defArgs s_law_left) (defBody s_law_left) (defScope s_law_left) .none kV22 dc22 pm22 an22 cd22 ct22), sl22⟩) (c22 : PySem.W.codeIn K cd22 "_law_left" = true) (k22 : PySem.W.keepIn K (.ref f22) = true)
    (a23 : PySem.W.nsIn K mainGlobals "_law_every_lot" = some (some (.ref f23)))
    (l23 : K.lookup f23 = some ⟨oc23, od23, .func (PySem.W.fnOf "_law_every_lot" "_law_every_lot" (defArgs s_law_every_lot) (defBody s_law_every_lot) (defScope s_law_every_lot) .none kV23 dc23 pm23 an23 cd23 ct23), sl23⟩) (c23 : PySem.W.codeIn K cd23 "_law_every_lot" = true) (k23 : PySem.W.keepIn K (.ref f23) = true)
    (a24 : PySem.W.nsIn K mainGlobals "_law_group" = some (some (.ref f24)))
    (l24 : K.lookup f24 = some ⟨oc24, od24, .func (PySem.W.fnOf "_law_group" "_law_group" (defArgs s_law_group) (defBody s_law_group) (defScope s_law_group) .none kV24 dc24 pm24 an24 cd24 ct24), sl24⟩) (c24 : PySem.W.codeIn K cd24 "_law_group" = true) (k24 : PySem.W.keepIn K (.ref f24) = true)
    (a25 : PySem.W.nsIn K mainGlobals "_law_chance" = some (some (.ref f25)))
    (l25 : K.lookup f25 = some ⟨oc25, od25, .func (PySem.W.fnOf "_law_chance" "_law_chance" (defArgs s_law_chance) (defBody s_law_chance) (defScope s_law_chance) .none kV25 dc25 pm25 an25 cd25 ct25), sl25⟩) (c25 : PySem.W.codeIn K cd25 "_law_chance" = true) (k25 : PySem.W.keepIn K (.ref f25) = true)
    (a26 : PySem.W.nsIn K mainGlobals "_law_is_greatest" = some (some (.ref f26)))
    (l26 : K.lookup f26 = some ⟨oc26, od26, .func (PySem.W.fnOf "_law_is_greatest" "_law_is_greatest" (defArgs s_law_is_greatest) (defBody s_law_is_greatest) (defScope s_law_is_greatest) .none kV26 dc26 pm26 an26 cd26 ct26), sl26⟩) (c26 : PySem.W.codeIn K cd26 "_law_is_greatest" = true) (k26 : PySem.W.keepIn K (.ref f26) = true)
    (a27 : PySem.W.nsIn K mainGlobals "_law_believes_right" = some (some (.ref f27)))
    (l27 : K.lookup f27 = some ⟨oc27, od27, .func (PySem.W.fnOf "_law_believes_right" "_law_believes_right" (defArgs s_law_believes_right) (defBody s_law_believes_right) (defScope s_law_believes_right) .none kV27 dc27 pm27 an27 cd27 ct27), sl27⟩) (c27 : PySem.W.codeIn K cd27 "_law_believes_right" = true) (k27 : PySem.W.keepIn K (.ref f27) = true)
    (a28 : PySem.W.nsIn K mainGlobals "_law_common_right" = some (some (.ref f28)))
    (l28 : K.lookup f28 = some ⟨oc28, od28, .func (PySem.W.fnOf "_law_common_right" "_law_common_right" (defArgs s_law_common_right) (defBody s_law_common_right) (defScope s_law_common_right) .none kV28 dc28 pm28 an28 cd28 ct28), sl28⟩) (c28 : PySem.W.codeIn K cd28 "_law_common_right" = true) (k28 : PySem.W.keepIn K (.ref f28) = true)
    (a29 : PySem.W.nsIn K mainGlobals "law" = some (some (.ref f29)))
    (l29 : K.lookup f29 = some ⟨oc29, od29, .func (PySem.W.fnOf "law" "law" (defArgs s_law) (defBody s_law) (defScope s_law) .none kV29 dc29 pm29 an29 cd29 ct29), sl29⟩) (c29 : PySem.W.codeIn K cd29 "law" = true) (k29 : PySem.W.keepIn K (.ref f29) = true)
    (g_Book : PySem.W.nsIn K mainGlobals "Book" = some (some (.ref C_Book))) (pg_Book : PySem.W.plainGet K C_Book Str.empty = true) (hd_Book : PySem.W.hasDictIn K C_Book = true) (po_Book : PySem.W.plainOver K C_Book = true) (sa_Book : PySem.W.findIn K (.ref C_Book) "__setattr__" = some (some (.builtin "object.__setattr__"))) (mk_Book : PySem.W.makesIn K C_Book = true) (kc_Book : PySem.W.keepIn K (.ref C_Book) = true)
    (z0 : PySem.W.findIn K (.ref C_Book) "_cells" = some none)
    (z1 : PySem.W.findIn K (.ref C_Book) "_labels" = some none)
    (z2 : PySem.W.findIn K (.ref C_Book) "_totals" = some none)
    (z3 : PySem.W.findIn K (.ref C_Book) "_weights" = some none)
    (z5 : PySem.W.findIn K (.ref C_Book) "people" = some none)
    (z6 : PySem.W.findIn K (.ref C_Book) "worlds" = some none)
    (z7 : PySem.W.nsIn K mainGlobals "MOST_PEOPLE" = some (some (.int 6 t7)))
    (z8 : PySem.W.nsIn K mainGlobals "MOST_WEIGHT" = some (some (.int 10000000000000000000000000000000000000000 t8)))
    (z9 : PySem.W.nsIn K mainGlobals "MOST_WORLDS" = some (some (.int 12 t9)))
    (z10 : PySem.W.nsIn K mainGlobals "abs" = some none)
    (z11 : PySem.W.nsIn K mainGlobals "bool" = some none)
    (z12 : PySem.W.nsIn K mainGlobals "gcd" = some (some (.builtin "math.gcd")))
    (z13 : PySem.W.nsIn K mainGlobals "int" = some none)
    (z14 : PySem.W.nsIn K mainGlobals "isinstance" = some none)
    (z15 : PySem.W.nsIn K mainGlobals "len" = some none)
    (z16 : PySem.W.nsIn K mainGlobals "list" = some none)
    (z17 : PySem.W.nsIn K mainGlobals "max" = some none)
    (z18 : PySem.W.nsIn K mainGlobals "range" = some none)
    (z19 : PySem.W.nsIn K mainGlobals "sorted" = some none)
    (z20 : PySem.W.nsIn K mainGlobals "sum" = some none)
    (z21 : PySem.W.nsIn K mainGlobals "tuple" = some none) :
    ∃ fd : FuncData, (∀ (s : Shared) (v : Value), BindsTo s fd ⟨[v], []⟩ [("script", v)]) ∧ ∀ base : Heap, K.In base → base.Ns mainGlobals mg → FnOk l.prog w K mg base CX0 6 fa fd ["script"] (spD K P_law) := by
  have gm : Gm K mg C_Book := ⟨z0, z1, z2, z3, ⟨pg_Book, hd_Book, po_Book, sa_Book⟩, z5, z6, ⟨_, PySem.W.mg_of X G z7⟩, ⟨_, PySem.W.mg_of X G z8⟩, ⟨_, PySem.W.mg_of X G z9⟩, PySem.W.mg_none_of X G z10, PySem.W.mg_none_of X G z11, PySem.W.mg_of X G z12, PySem.W.mg_none_of X G z13, PySem.W.mg_none_of X G z14, PySem.W.mg_none_of X G z15, PySem.W.mg_none_of X G z16, PySem.W.mg_none_of X G z17, PySem.W.mg_none_of X G z18, PySem.W.mg_none_of X G z19, PySem.W.mg_none_of X G z20, PySem.W.mg_none_of X G z21⟩
  have D0 : Df K mg "_law_cell" s_law_cell ["script", "k"] := df_of X G a0 l0 c0 k0 fun _ _ _ _ _ _ us hl => match us, hl with | [_, _], _ => rfl
  have D1 : Df K mg "_law_draws" s_law_draws ["cell", "sizes"] := df_of X G a1 l1 c1 k1 fun _ _ _ _ _ _ us hl => match us, hl with | [_, _], _ => rfl
  have D2 : Df K mg "_law_gcd" s_law_gcd ["first", "second"] := df_of X G a2 l2 c2 k2 fun _ _ _ _ _ _ us hl => match us, hl with | [_, _], _ => rfl
  have D3 : Df K mg "_law_ratio" s_law_ratio ["n", "d"] := df_of X G a3 l3 c3 k3 fun _ _ _ _ _ _ us hl => match us, hl with | [_, _], _ => rfl
  have D4 : Df K mg "_law_same" s_law_same ["actual", "due"] := df_of X G a4 l4 c4 k4 fun _ _ _ _ _ _ us hl => match us, hl with | [_, _], _ => rfl
  have D5 : Df K mg "check_person" s_check_person ["book", "person"] := df_of X G a5 l5 c5 k5 fun _ _ _ _ _ _ us hl => match us, hl with | [_, _], _ => rfl
  have D6 : Df K mg "check_world" s_check_world ["book", "world"] := df_of X G a6 l6 c6 k6 fun _ _ _ _ _ _ us hl => match us, hl with | [_, _], _ => rfl
  have D7 : Df K mg "check_group" s_check_group ["book", "group"] := df_of X G a7 l7 c7 k7 fun _ _ _ _ _ _ us hl => match us, hl with | [_, _], _ => rfl
  have D8 : Df K mg "check_lot" s_check_lot ["book", "lot"] := df_of X G a8 l8 c8 k8 fun _ _ _ _ _ _ us hl => match us, hl with | [_, _], _ => rfl
  have D9 : Df K mg "check_sights" s_check_sights ["sights"] := df_of X G a9 l9 c9 k9 fun _ _ _ _ _ _ us hl => match us, hl with | [_], _ => rfl
  have D10 : Df K mg "check_odds" s_check_odds ["sights", "odds"] := df_of X G a10 l10 c10 k10 fun _ _ _ _ _ _ us hl => match us, hl with | [_, _], _ => rfl
  have D11 : Df K mg "numbered" s_numbered ["row"] := df_of X G a11 l11 c11 k11 fun _ _ _ _ _ _ us hl => match us, hl with | [_], _ => rfl
  have D12 : Df K mg "gathered" s_gathered ["labels"] := df_of X G a12 l12 c12 k12 fun _ _ _ _ _ _ us hl => match us, hl with | [_], _ => rfl
  have D13 : Df K mg "lowest" s_lowest ["person", "cells", "weights"] := df_of X G a13 l13 c13 k13 fun _ _ _ _ _ _ us hl => match us, hl with | [_, _, _], _ => rfl
  have D14 : Di K mg C_Book "Book" "Book.__init__" s_Book_init ["self", "sights", "odds"] := ⟨f14, _, fun_mk l14 c14 k14, ⟨mk_Book, a14, i14, kc_Book⟩, PySem.W.mg_of X G g_Book, (fun_mk l14 c14 k14).binds fun _ _ _ _ _ _ us hl => match us, hl with | [_, _, _], _ => rfl⟩
  have D15 : Dm K C_Book "cells" "Book.cells" s_Book_cells ["self", "person"] := ⟨f15, _, fun_mk l15 c15 k15, ⟨a15, i15, k15⟩, (fun_mk l15 c15 k15).binds fun _ _ _ _ _ _ us hl => match us, hl with | [_, _], _ => rfl⟩
  have D16 : Dm K C_Book "weight" "Book.weight" s_Book_weight ["self", "person", "world"] := ⟨f16, _, fun_mk l16 c16 k16, ⟨a16, i16, k16⟩, (fun_mk l16 c16 k16).binds fun _ _ _ _ _ _ us hl => match us, hl with | [_, _, _], _ => rfl⟩
  have D17 : Df K mg "believes" s_believes ["book", "person", "lot", "chance"] := df_of X G a17 l17 c17 k17 fun _ _ _ _ _ _ us hl => match us, hl with | [_, _, _, _], _ => rfl
  have D18 : Df K mg "common_belief" s_common_belief ["book", "group", "lot", "chance"] := df_of X G a18 l18 c18 k18 fun _ _ _ _ _ _ us hl => match us, hl with | [_, _, _, _], _ => rfl
  have D19 : Df K mg "_law_weights" s_law_weights ["cell", "worlds", "least", "large"] := df_of X G a19 l19 c19 k19 fun _ _ _ _ _ _ us hl => match us, hl with | [_, _, _, _], _ => rfl
  have D20 : Df K mg "_law_tables" s_law_tables ["script"] := df_of X G a20 l20 c20 k20 fun _ _ _ _ _ _ us hl => match us, hl with | [_], _ => rfl
  have D21 : Df K mg "_law_believed" s_law_believed ["tables", "person", "lot", "chance"] := df_of X G a21 l21 c21 k21 fun _ _ _ _ _ _ us hl => match us, hl with | [_, _, _, _], _ => rfl
  have D22 : Df K mg "_law_left" s_law_left ["tables", "group", "lot", "chance"] := df_of X G a22 l22 c22 k22 fun _ _ _ _ _ _ us hl => match us, hl with | [_, _, _, _], _ => rfl
  have D23 : Df K mg "_law_every_lot" s_law_every_lot ["worlds"] := df_of X G a23 l23 c23 k23 fun _ _ _ _ _ _ us hl => match us, hl with | [_], _ => rfl
  have D24 : Df K mg "_law_group" s_law_group ["cell", "people"] := df_of X G a24 l24 c24 k24 fun _ _ _ _ _ _ us hl => match us, hl with | [_, _], _ => rfl
  have D25 : Df K mg "_law_chance" s_law_chance ["cell", "tables", "lot"] := df_of X G a25 l25 c25 k25 fun _ _ _ _ _ _ us hl => match us, hl with | [_, _, _], _ => rfl
  have D26 : Df K mg "_law_is_greatest" s_law_is_greatest ["tables", "group", "lot", "chance", "actual"] := df_of X G a26 l26 c26 k26 fun _ _ _ _ _ _ us hl => match us, hl with | [_, _, _, _, _], _ => rfl
  have D27 : Df K mg "_law_believes_right" s_law_believes_right ["book", "tables", "person", "lot", "chance"] := df_of X G a27 l27 c27 k27 fun _ _ _ _ _ _ us hl => match us, hl with | [_, _, _, _, _], _ => rfl
  have D28 : Df K mg "_law_common_right" s_law_common_right ["book", "tables", "group", "lot", "chance"] := df_of X G a28 l28 c28 k28 fun _ _ _ _ _ _ us hl => match us, hl with | [_, _, _, _, _], _ => rfl
  refine law_end X G hfa a29 l29 c29 k29 _ (fun s v => .of_eq rfl) fun fd base F => ?_
  have G_law_cell := ok_cell (P := l.prog) (w := w) (base := base) D0 gm 
  have G_law_draws := ok_draws (P := l.prog) (w := w) (base := base) D1 gm 
  have G_law_gcd := ok_gcd (P := l.prog) (w := w) (base := base) D2 gm 
  have G_law_ratio := ok_ratio (P := l.prog) (w := w) (base := base) D3 gm G_law_gcd
  have G_law_same := ok_same (P := l.prog) (w := w) (base := base) D4 gm 3
  have G_check_person := ok_check_person (P := l.prog) (w := w) (base := base) D5 gm 
  have G_check_world := ok_check_world (P := l.prog) (w := w) (base := base) D6 gm 
  have G_check_group := ok_check_group (P := l.prog) (w := w) (base := base) D7 gm G_check_person
  have G_check_lot := ok_check_lot (P := l.prog) (w := w) (base := base) D8 gm G_check_world
  have G_check_sights := ok_check_sights (P := l.prog) (w := w) (base := base) D9 gm 
  have G_check_odds := ok_check_odds (P := l.prog) (w := w) (base := base) D10 gm 
  have G_numbered := ok_numbered (P := l.prog) (w := w) (base := base) D11 gm 
  have G_gathered := ok_gathered (P := l.prog) (w := w) (base := base) D12 gm 
  have G_lowest := ok_lowest (P := l.prog) (w := w) (base := base) D13 gm 
  have G_Book := ok_Book_init (P := l.prog) (w := w) (base := base) D14 gm G_check_sights G_check_odds G_numbered G_gathered G_lowest
  have G_Book_cells := ok_Book_cells (P := l.prog) (w := w) (base := base) D15 gm G_check_person
  have G_Book_weight := ok_Book_weight (P := l.prog) (w := w) (base := base) D16 gm G_check_person G_check_world
  have G_believes := ok_believes (P := l.prog) (w := w) (base := base) D17 gm G_check_person G_check_lot G_Book_cells G_Book_weight
  have G_common_belief := ok_common_belief (P := l.prog) (w := w) (base := base) D18 gm G_check_group G_check_lot G_believes
  have G_law_weights := ok_weights (P := l.prog) (w := w) (base := base) D19 gm G_law_draws
  have G_law_tables := ok_tables (P := l.prog) (w := w) (base := base) D20 gm G_law_draws G_law_cell G_law_weights
  have G_law_believed := ok_believed (P := l.prog) (w := w) (base := base) D21 gm 
  have G_law_left := ok_left (P := l.prog) (w := w) (base := base) D22 gm G_law_believed
  have G_law_every_lot := ok_every (P := l.prog) (w := w) (base := base) D23 gm 
  have G_law_group := ok_group (P := l.prog) (w := w) (base := base) D24 gm G_law_draws
  have G_law_chance := ok_chance (P := l.prog) (w := w) (base := base) D25 gm G_law_draws G_law_ratio
  have G_law_is_greatest := ok_greatest (P := l.prog) (w := w) (base := base) D26 gm G_law_believed G_law_every_lot
  have G_law_believes_right := ok_bright (P := l.prog) (w := w) (base := base) D27 gm G_law_believed G_believes G_law_same
  have G_law_common_right := ok_cright (P := l.prog) (w := w) (base := base) D28 gm G_law_left G_common_belief G_law_same G_law_is_greatest
  exact ok_law (P := l.prog) (w := w) (base := base) F gm G_law_tables G_Book G_law_draws G_law_cell G_law_group G_law_chance G_law_left G_law_believes_right G_law_common_right
end FS
open PySem PySem.W PyProof.Rows
set_option maxHeartbeats 0 in
theorem PySem.Challenge.cw_fairstart_k12_what_is_commonly_believed_holds : PySem.Challenge.rw_fairstart_k12_what_is_commonly_believed.Holds := by
  w_on; o_law; k_head; (case hw => w_witness2)
  k_fill
  refine L2.walk_ofK (l := PySem.Challenge.rw_fairstart_k12_what_is_commonly_believed) (n := 63) (k := 6) (x := "script") (CX := L2.CX0) (sp := fun K => FS.spD K FS.P_law) rfl (by decide) rfl ⟨rfl, by decide, by decide⟩ (fun w h Y => PySem.W.kIn_of Y) ?F (fun _ _ a ns hl _ hS => FS.sp_law hS) (fun _ _ _ _ h => h)
  case F =>
    intro w mg fa h KX G hmg
    refine' FS.all_mk KX G hmg ?a0 ?l0 ?c0 ?k0 ?a1 ?l1 ?c1 ?k1 ?a2 ?l2 ?c2 ?k2 ?a3 ?l3 ?c3 ?k3 ?a4 ?l4 ?c4 ?k4 ?a5 ?l5 ?c5 ?k5 ?a6 ?l6 ?c6 ?k6 ?a7 ?l7 ?c7 ?k7 ?a8 ?l8 ?c8 ?k8 ?a9 ?l9 ?c9 ?k9 ?a10 ?l10 ?c10 ?k10 ?a11 ?l11 ?c11 ?k11 ?a12 ?l12 ?c12 ?k12 ?a13 ?l13 ?c13 ?k13 ?a14 ?i14 ?l14 ?c14 ?k14 ?a15 ?i15 ?l15 ?c15 ?k15 ?a16 ?i16 ?l16 ?c16 ?k16 ?a17 ?l17 ?c17 ?k17 ?a18 ?l18 ?c18 ?k18 ?a19 ?l19 ?c19 ?k19 ?a20 ?l20 ?c20 ?k20 ?a21 ?l21 ?c21 ?k21 ?a22 ?l22 ?c22 ?k22 ?a23 ?l23 ?c23 ?k23 ?a24 ?l24 ?c24 ?k24 ?a25 ?l25 ?c25 ?k25 ?a26 ?l26 ?c26 ?k26 ?a27 ?l27 ?c27 ?k27 ?a28 ?l28 ?c28 ?k28 ?a29 ?l29 ?c29 ?k29 ?g_Book ?pg_Book ?hd_Book ?po_Book ?sa_Book ?mk_Book ?kc_Book ?z0 ?z1 ?z2 ?z3 ?z5 ?z6 ?z7 ?z8 ?z9 ?z10 ?z11 ?z12 ?z13 ?z14 ?z15 ?z16 ?z17 ?z18 ?z19 ?z20 ?z21
    (case g_Book => k_is); (case pg_Book => k_is); (case hd_Book => k_is); (case po_Book => k_is); (case sa_Book => k_is); (case mk_Book => k_is); (case kc_Book => k_is); (case a0 => k_is); (case l0 => k_is); (case c0 => k_is); (case k0 => k_is); (case a1 => k_is); (case l1 => k_is); (case c1 => k_is); (case k1 => k_is); (case a2 => k_is); (case l2 => k_is); (case c2 => k_is); (case k2 => k_is); (case a3 => k_is); (case l3 => k_is); (case c3 => k_is); (case k3 => k_is); (case a4 => k_is); (case l4 => k_is); (case c4 => k_is); (case k4 => k_is); (case a5 => k_is); (case l5 => k_is); (case c5 => k_is); (case k5 => k_is); (case a6 => k_is); (case l6 => k_is); (case c6 => k_is); (case k6 => k_is); (case a7 => k_is); (case l7 => k_is); (case c7 => k_is); (case k7 => k_is); (case a8 => k_is); (case l8 => k_is); (case c8 => k_is); (case k8 => k_is); (case a9 => k_is); (case l9 => k_is); (case c9 => k_is); (case k9 => k_is); (case a10 => k_is); (case l10 => k_is); (case c10 => k_is); (case k10 => k_is); (case a11 => k_is); (case l11 => k_is); (case c11 => k_is); (case k11 => k_is); (case a12 => k_is); (case l12 => k_is); (case c12 => k_is); (case k12 => k_is); (case a13 => k_is); (case l13 => k_is); (case c13 => k_is); (case k13 => k_is); (case a14 => k_is); (case i14 => k_is); (case l14 => k_is); (case c14 => k_is); (case k14 => k_is); (case a15 => k_is); (case i15 => k_is); (case l15 => k_is); (case c15 => k_is); (case k15 => k_is); (case a16 => k_is); (case i16 => k_is); (case l16 => k_is); (case c16 => k_is); (case k16 => k_is); (case a17 => k_is); (case l17 => k_is); (case c17 => k_is); (case k17 => k_is); (case a18 => k_is); (case l18 => k_is); (case c18 => k_is); (case k18 => k_is); (case a19 => k_is); (case l19 => k_is); (case c19 => k_is); (case k19 => k_is); (case a20 => k_is); (case l20 => k_is); (case c20 => k_is); (case k20 => k_is); (case a21 => k_is); (case l21 => k_is); (case c21 => k_is); (case k21 => k_is); (case a22 => k_is); (case l22 => k_is); (case c22 => k_is); (case k22 => k_is); (case a23 => k_is); (case l23 => k_is); (case c23 => k_is); (case k23 => k_is); (case a24 => k_is); (case l24 => k_is); (case c24 => k_is); (case k24 => k_is); (case a25 => k_is); (case l25 => k_is); (case c25 => k_is); (case k25 => k_is); (case a26 => k_is); (case l26 => k_is); (case c26 => k_is); (case k26 => k_is); (case a27 => k_is); (case l27 => k_is); (case c27 => k_is); (case k27 => k_is); (case a28 => k_is); (case l28 => k_is); (case c28 => k_is); (case k28 => k_is); (case a29 => k_is); (case l29 => k_is); (case c29 => k_is); (case k29 => k_is); (case z0 => k_is); (case z1 => k_is); (case z2 => k_is); (case z3 => k_is); (case z5 => k_is); (case z6 => k_is); (case z7 => k_is); (case z8 => k_is); (case z9 => k_is); (case z10 => k_is); (case z11 => k_is); (case z12 => k_is); (case z13 => k_is); (case z14 => k_is); (case z15 => k_is); (case z16 => k_is); (case z17 => k_is); (case z18 => k_is); (case z19 => k_is); (case z20 => k_is); (case z21 => k_is)
