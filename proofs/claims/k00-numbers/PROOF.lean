import PyProof.Rows.All
import Wide.All
import OpenK.AllK
import Wide.FinOn
import HandS.ForMost
import HandS.Star
import HandS.Gcd
import HandS.Wide
import HandS.IsInst
import HandS.ExcOwn
import HandS.Flow
import HandS.WordsExc
import PyProof.ListRange
import PyProof.RangeFor
import HandS.SortInts
import HandS.WordsDict
import HandS.ExcInit
import HandS.ExcIs
import HandS.ExcField
import HandS.ClsMeth
import HandS.TryOnly
import HandS.ExcCtx
import HandS.WrittenGet
import HandS.HotCalls
import HandS.CallSlots
import HandS.Deep
import PySem.Challenge.RW_fairstart_k00_numbers_added_and_ordered
set_option Elab.async false
set_option linter.all false
set_option maxRecDepth 100000
set_option maxHeartbeats 4000000
/-! Values as plain data, and readings of code over plain data: no heap in sight. -/
namespace FS
open PySem PySem.Spec PyProof.Rows L2

/-- plain data -/
inductive D where
  | non
  | bl (b : Bool)
  | int (i : Int)
  | str (x : Str)
  | tup (l : List D)
  | lst (l : List D)
  | scr (ns : List Int)
  | ty (n : String)
  | obj (a : Addr)
  | ins (C : Addr) (ns : List Str) (ds : List D)
  | exc (a : Addr) (od : Option Addr) (ns : List Str) (ds : List D)
  | dic (ks : List Key) (ds : List D)
  /-- an instance that is being made -/
  | slf (a C : Addr) (ns : List Str) (ds : List D)
  /-- in an open tree: a part that is known -/
  | kn (d : D)

mutual
/-- v stands for d -/
def Is (K : PySem.W.Frag) (H : Hp) : D → V → Prop
  | .non, v => v = .non
  | .bl b, v => v = .bl b
  | .int i, v => v = .int i
  | .str x, v => v = .str x
  | .tup l, v => ∃ a vs, v = .ref a ∧ SqT K H a vs ∧ IsL K H l vs
  | .lst l, v => ∃ a vs, v = .ref a ∧ H a = some (.lst vs) ∧ IsL K H l vs
  | .scr ns, v => ∃ a, v = .ref a ∧ SqL K H a (ns.map V.int)
  | .ty n, v => v = .ty n
  | .obj a, v => v = .ref a
  | .ins C ns l, v => ∃ a dx vs, v = .ref a ∧ H a = some (.ins C dx (ns.zip vs)) ∧ IsL K H l vs
  | .exc a od ns l, v => v = .ref a ∧ ((ns = [] ∧ od = none) ∨ ∃ d vs, od = some d ∧ H d = some (.xd (ns.zip vs)) ∧ IsL K H l vs)
  | .dic ks l, v => ∃ a vs, v = .ref a ∧ H a = some (.dK (ks.zip vs)) ∧ IsL K H l vs
  | .slf a C ns l, v => v = .ref a ∧ ∃ dx vs, H a = some (.ins C dx (ns.zip vs)) ∧ IsL K H l vs
  | .kn d, v => Is K H d v
def IsL (K : PySem.W.Frag) (H : Hp) : List D → List V → Prop
  | [], vs => vs = []
  | d :: l, vs => ∃ v r, vs = v :: r ∧ Is K H d v ∧ IsL K H l r
end

theorem same_t {K : PySem.W.Frag} {H H' : Hp} {a : Addr} {xs : List V} (e : Same H H') (h : SqT K H a xs) : SqT K H' a xs := by
  rcases h with (h | ⟨o, h⟩) | h
  · exact .inl (.inl (e _ _ h))
  · exact .inl (.inr ⟨o, e _ _ h⟩)
  · exact .inr h
mutual
theorem Is.mono {K : PySem.W.Frag} {H H' : Hp} (e : Same H H') : ∀ (d : D) (v : V), Is K H d v → Is K H' d v
  | .non, _, h => h
  | .bl _, _, h => h
  | .int _, _, h => h
  | .str _, _, h => h
  | .tup l, v, ⟨a, vs, h1, h2, h3⟩ => ⟨a, vs, h1, same_t e h2, IsL.mono e l vs h3⟩
  | .lst l, v, ⟨a, vs, h1, h2, h3⟩ => ⟨a, vs, h1, e _ _ h2, IsL.mono e l vs h3⟩
  | .scr ns, v, ⟨a, h1, h2⟩ => ⟨a, h1, e.seq h2⟩
  | .ty _, _, h => h
  | .obj _, _, h => h
  | .ins C ns l, v, ⟨a, dx, vs, h1, h2, h3⟩ => ⟨a, dx, vs, h1, e _ _ h2, IsL.mono e l vs h3⟩
  | .exc a od ns l, v, ⟨h1, .inl h2⟩ => ⟨h1, .inl h2⟩
  | .exc a od ns l, v, ⟨h1, .inr ⟨d, vs, h2, h3, h4⟩⟩ => ⟨h1, .inr ⟨d, vs, h2, e _ _ h3, IsL.mono e l vs h4⟩⟩
  | .dic ks l, v, ⟨a, vs, h1, h2, h3⟩ => ⟨a, vs, h1, e _ _ h2, IsL.mono e l vs h3⟩
  | .slf a C ns l, v, ⟨h0, dx, vs, h2, h3⟩ => ⟨h0, dx, vs, e _ _ h2, IsL.mono e l vs h3⟩
  | .kn d, v, h => Is.mono e d v (show Is K H d v from h)
theorem IsL.mono {K : PySem.W.Frag} {H H' : Hp} (e : Same H H') : ∀ (l : List D) (vs : List V), IsL K H l vs → IsL K H' l vs
  | [], _, h => h
  | d :: l, vs, ⟨v, r, h1, h2, h3⟩ => ⟨v, r, h1, Is.mono e d v h2, IsL.mono e l r h3⟩
end
theorem Is.up {K : PySem.W.Frag} {H H' : Hp} {d : D} {v : V} (h : Is K H d v) (e : Same H H') : Is K H' d v := Is.mono e d v h
theorem IsL.up {K : PySem.W.Frag} {H H' : Hp} {l : List D} {vs : List V} (h : IsL K H l vs) (e : Same H H') : IsL K H' l vs := IsL.mono e l vs h

section
variable {K : PySem.W.Frag} {H : Hp}
theorem IsL.len : ∀ {l : List D} {vs : List V}, IsL K H l vs → vs.length = l.length
  | [], _, h => by rw [show _ = [] from h] <;> rfl
  | _ :: l, _, ⟨v, r, e, _, h⟩ => by rw [e, List.length_cons, List.length_cons, IsL.len h]
theorem IsL.get : ∀ {l : List D} {vs : List V} {i : Nat} {d : D}, IsL K H l vs → l[i]? = some d → ∃ v, vs[i]? = some v ∧ Is K H d v
  | [], _, _, _, _, e => by simp at e
  | _ :: _, _, 0, _, ⟨v, r, e, h, _⟩, q => by
    rw [e]
    have q : _ = _ := Option.some.inj q
    exact ⟨v, rfl, q ▸ h⟩
  | _ :: l, _, i + 1, d, ⟨v, r, e, _, h⟩, q => by
    rw [e]
    obtain ⟨u, h1, h2⟩ := IsL.get (i := i) (d := d) h (by simpa using q)
    exact ⟨u, by simpa using h1, h2⟩
theorem IsL.got : ∀ {l : List D} {vs : List V} {i : Nat} {v : V}, IsL K H l vs → vs[i]? = some v → ∃ d, l[i]? = some d ∧ Is K H d v := fun {l vs i v} h e => by
  have hl := h.len
  have hi := (List.getElem?_eq_some_iff.mp e).1
  have hd : l[i]? = some (l[i]'(by omega)) := List.getElem?_eq_getElem (by omega)
  obtain ⟨u, h1, h2⟩ := h.get hd
  rw [e] at h1
  have q : v = u := Option.some.inj h1
  exact ⟨_, hd, q ▸ h2⟩
theorem IsL.app : ∀ {l l' : List D} {vs us : List V}, IsL K H l vs → IsL K H l' us → IsL K H (l ++ l') (vs ++ us)
  | [], _, _, _, h, h' => by rw [show _ = [] from h]; exact h'
  | d :: l, _, _, _, ⟨v, r, e, h1, h2⟩, h' => by rw [e]; exact ⟨v, r ++ _, rfl, h1, IsL.app h2 h'⟩
theorem IsL.one {d : D} {v : V} (h : Is K H d v) : IsL K H [d] [v] := ⟨v, [], rfl, h, rfl⟩
theorem IsL.cons {d : D} {v : V} {l : List D} {vs : List V} (h : Is K H d v) (h' : IsL K H l vs) : IsL K H (d :: l) (v :: vs) := ⟨v, vs, rfl, h, h'⟩
theorem IsL.set {d : D} {v : V} (h : Is K H d v) : ∀ {l : List D} {vs : List V} (i : Nat), IsL K H l vs → IsL K H (l.set i d) (vs.set i v)
  | [], _, _, e => by rw [show _ = [] from e]; exact (rfl : [] = [])
  | _ :: _, _, 0, ⟨u, r, e, _, h2⟩ => by rw [e]; exact ⟨v, r, rfl, h, h2⟩
  | _ :: _, _, i + 1, ⟨u, r, e, h1, h2⟩ => by rw [e]; exact ⟨u, r.set i v, rfl, h1, IsL.set h i h2⟩
theorem IsL.take : ∀ {l : List D} {vs : List V} (n : Nat), IsL K H l vs → IsL K H (l.take n) (vs.take n)
  | [], _, n, e => by rw [show _ = [] from e]; simp [IsL]
  | _ :: _, _, 0, _ => by simp [IsL]
  | _ :: _, _, n + 1, ⟨u, r, e, h1, h2⟩ => by rw [e]; exact ⟨u, r.take n, rfl, h1, IsL.take n h2⟩
theorem IsL.drop : ∀ {l : List D} {vs : List V} (n : Nat), IsL K H l vs → IsL K H (l.drop n) (vs.drop n)
  | [], _, n, e => by rw [show _ = [] from e]; simp [IsL]
  | _ :: _, _, 0, h => by simpa using h
  | _ :: _, _, n + 1, ⟨u, r, e, h1, h2⟩ => by rw [e]; simpa using IsL.drop n h2
theorem IsL.dropLast {l : List D} {vs : List V} (h : IsL K H l vs) : IsL K H l.dropLast vs.dropLast := by
  rw [List.dropLast_eq_take, List.dropLast_eq_take, h.len]
  exact h.take _
/-- data of plain ints, of plain things: the values are known -/
theorem isL_ints (ns : List Int) : IsL K H (ns.map D.int) (ns.map V.int) := by
  induction ns with
  | nil => exact (rfl : [] = [])
  | cons n r ih => exact ⟨_, _, rfl, rfl, ih⟩
theorem isL_ints_inv : ∀ {ns : List Int} {vs : List V}, IsL K H (ns.map D.int) vs → vs = ns.map V.int
  | [], _, h => h
  | n :: r, _, ⟨v, q, e, h1, h2⟩ => by rw [e, show v = V.int n from h1, isL_ints_inv h2] <;> rfl
end

/-! ### what is open: objects that somebody will still change -/
abbrev Op := List (Addr × HO)
/-- H: what is known and stays; T: the heap as it stands; M: what is open, with what it holds -/
structure Opn (H T : Hp) (M : Op) : Prop where
  same : Same H T
  free : ∀ x ∈ M, H x.1 = none
  at_ : ∀ x ∈ M, T x.1 = some x.2
  nd : (M.map (·.1)).Nodup
section
variable {H H' T T' : Hp} {M N : Op} {p : Addr} {o o' : HO}
theorem Opn.fresh (h : Opn H T M) (hp : T p = none) : H p = none := h.same.free hp
theorem Opn.fresh_ne (h : Opn H T M) (hp : T p = none) : ∀ x ∈ M, x.1 ≠ p := fun x hx e => by
  have := h.at_ x hx
  rw [e, hp] at this
  cases this
theorem same_new {H : Hp} {p : Addr} {o : HO} (h : H p = none) : Same H (upd H p o) := fun b x e => by
  rw [upd_ne (ne_of_none e h)]
  exact e
/-- a new object, known at once -/
theorem Opn.new (h : Opn H T M) (hp : T p = none) : Opn (upd H p o) (upd T p o) M where
  same := fun b x e => by
    by_cases hb : b = p
    · subst hb
      rw [upd_same] at e ⊢
      exact e
    · rw [upd_ne hb] at e ⊢
      exact h.same b x e
  free := fun x hx => by
    rw [upd_ne (h.fresh_ne hp x hx)]
    exact h.free x hx
  at_ := fun x hx => by
    rw [upd_ne (h.fresh_ne hp x hx)]
    exact h.at_ x hx
  nd := h.nd
/-- a new object, open -/
theorem Opn.opened (h : Opn H T M) (hp : T p = none) : Opn H (upd T p o) ((p, o) :: M) where
  same := h.same.trans (same_new hp)
  free := fun x hx => by
    rcases List.mem_cons.mp hx with rfl | hx
    · exact h.fresh hp
    · exact h.free x hx
  at_ := fun x hx => by
    rcases List.mem_cons.mp hx with rfl | hx
    · exact upd_same
    · rw [upd_ne (h.fresh_ne hp x hx)]
      exact h.at_ x hx
  nd := by
    rw [List.map_cons, List.nodup_cons]
    refine ⟨fun hm => ?_, h.nd⟩
    obtain ⟨x, hx, e⟩ := List.mem_map.mp hm
    exact h.fresh_ne hp x hx e
theorem Opn.ne_head (h : Opn H T ((p, o) :: M)) : ∀ x ∈ M, x.1 ≠ p := fun x hx e => by
  have := (List.nodup_cons.mp h.nd).1
  exact this (List.mem_map.mpr ⟨x, hx, e⟩)
theorem Opn.tail (h : Opn H T ((p, o) :: M)) : Opn H T M where
  same := h.same
  free := fun x hx => h.free x (List.mem_cons_of_mem _ hx)
  at_ := fun x hx => h.at_ x (List.mem_cons_of_mem _ hx)
  nd := (List.nodup_cons.mp h.nd).2
/-- the first open object is done: it is known from now on -/
theorem Opn.close (h : Opn H T ((p, o) :: M)) : Same H (upd H p o) ∧ Opn (upd H p o) T M := by
  have hp : H p = none := h.free _ List.mem_cons_self
  refine ⟨same_new hp, ?_, ?_, ?_, h.tail.nd⟩
  · intro b x e
    by_cases hb : b = p
    · subst hb
      rw [upd_same] at e
      rw [← e]
      exact h.at_ _ List.mem_cons_self
    · rw [upd_ne hb] at e
      exact h.same b x e
  · intro x hx
    rw [upd_ne (h.ne_head x hx)]
    exact h.tail.free x hx
  · exact h.tail.at_
/-- the first open object is written -/
theorem Opn.write (h : Opn H T ((p, o) :: M)) : Opn H (upd T p o') ((p, o') :: M) where
  same := fun b x e => by
    rw [upd_ne (ne_of_none e (h.free _ List.mem_cons_self))]
    exact h.same b x e
  free := fun x hx => by
    rcases List.mem_cons.mp hx with rfl | hx
    · exact h.free (p, o) List.mem_cons_self
    · exact h.tail.free x hx
  at_ := fun x hx => by
    rcases List.mem_cons.mp hx with rfl | hx
    · exact upd_same
    · rw [upd_ne (h.ne_head x hx)]
      exact h.tail.at_ x hx
  nd := h.nd
theorem Opn.perm (h : Opn H T M) (e : List.Perm M N) : Opn H T N where
  same := h.same
  free := fun x hx => h.free x (e.mem_iff.mpr hx)
  at_ := fun x hx => h.at_ x (e.mem_iff.mpr hx)
  nd := (e.map (·.1)).nodup_iff.mp h.nd
theorem Opn.sub (h : Opn H T M) (e : List.Sublist N M) : Opn H T N where
  same := h.same
  free := fun x hx => h.free x (e.subset hx)
  at_ := fun x hx => h.at_ x (e.subset hx)
  nd := h.nd.sublist (e.map (·.1))
end

/-! ### open trees: data whose objects are open, L, but for the known parts -/
mutual
def IsC (K : PySem.W.Frag) (H : Hp) : D → V → Op → Prop
  | .non, v, L => v = .non ∧ L = []
  | .bl b, v, L => v = .bl b ∧ L = []
  | .int i, v, L => v = .int i ∧ L = []
  | .str x, v, L => v = .str x ∧ L = []
  | .tup l, v, L => ∃ a vs Ls, v = .ref a ∧ L = (a, .tup vs) :: Ls ∧ IsCL K H l vs Ls
  | .lst l, v, L => ∃ a vs Ls, v = .ref a ∧ L = (a, .lst vs) :: Ls ∧ IsCL K H l vs Ls
  | .scr _, _, _ => False
  | .ty n, v, L => v = .ty n ∧ L = []
  | .obj a, v, L => v = .ref a ∧ L = []
  | .exc _ _ _ _, _, _ => False
  | .ins C ns l, v, L => ∃ a dx vs Ls, v = .ref a ∧ L = (a, .ins C dx (ns.zip vs)) :: (dx, .own a) :: Ls ∧ IsCL K H l vs Ls
  | .dic ks l, v, L => ∃ a vs Ls, v = .ref a ∧ L = (a, .dK (ks.zip vs)) :: Ls ∧ IsCL K H l vs Ls
  | .slf a C ns l, v, L => v = .ref a ∧ ∃ dx vs Ls, L = (a, .ins C dx (ns.zip vs)) :: (dx, .own a) :: Ls ∧ IsCL K H l vs Ls
  | .kn d, v, L => Is K H d v ∧ L = []
def IsCL (K : PySem.W.Frag) (H : Hp) : List D → List V → Op → Prop
  | [], vs, L => vs = [] ∧ L = []
  | d :: l, vs, L => ∃ v r L1 L2, vs = v :: r ∧ L = L1 ++ L2 ∧ IsC K H d v L1 ∧ IsCL K H l r L2
end
mutual
theorem IsC.mono {K : PySem.W.Frag} {H H' : Hp} (e : Same H H') : ∀ (d : D) (v : V) (L : Op), IsC K H d v L → IsC K H' d v L
  | .non, _, _, h => h
  | .bl _, _, _, h => h
  | .int _, _, _, h => h
  | .str _, _, _, h => h
  | .tup l, _, _, ⟨a, vs, Ls, h1, h2, h⟩ => ⟨a, vs, Ls, h1, h2, IsCL.mono e l vs Ls h⟩
  | .lst l, _, _, ⟨a, vs, Ls, h1, h2, h⟩ => ⟨a, vs, Ls, h1, h2, IsCL.mono e l vs Ls h⟩
  | .scr _, _, _, h => h
  | .ty _, _, _, h => h
  | .obj _, _, _, h => h
  | .exc _ _ _ _, _, _, h => h
  | .ins C ns l, _, _, ⟨a, dx, vs, Ls, h1, h2, h⟩ => ⟨a, dx, vs, Ls, h1, h2, IsCL.mono e l vs Ls h⟩
  | .dic ks l, _, _, ⟨a, vs, Ls, h1, h2, h⟩ => ⟨a, vs, Ls, h1, h2, IsCL.mono e l vs Ls h⟩
  | .slf a C ns l, _, _, ⟨h0, dx, vs, Ls, h2, h⟩ => ⟨h0, dx, vs, Ls, h2, IsCL.mono e l vs Ls h⟩
  | .kn d, _, _, ⟨h1, h2⟩ => ⟨h1.up e, h2⟩
theorem IsCL.mono {K : PySem.W.Frag} {H H' : Hp} (e : Same H H') : ∀ (l : List D) (vs : List V) (L : Op), IsCL K H l vs L → IsCL K H' l vs L
  | [], _, _, h => h
  | d :: l, _, _, ⟨v, r, L1, L2, h1, h2, h3, h4⟩ => ⟨v, r, L1, L2, h1, h2, IsC.mono e d v L1 h3, IsCL.mono e l r L2 h4⟩
end
theorem IsC.up {K : PySem.W.Frag} {H H' : Hp} {d : D} {v : V} {L : Op} (h : IsC K H d v L) (e : Same H H') : IsC K H' d v L := IsC.mono e d v L h
theorem IsCL.up {K : PySem.W.Frag} {H H' : Hp} {l : List D} {vs : List V} {L : Op} (h : IsCL K H l vs L) (e : Same H H') : IsCL K H' l vs L := IsCL.mono e l vs L h
mutual
theorem IsC.is {K : PySem.W.Frag} {H : Hp} : ∀ (d : D) (v : V) (L : Op), IsC K H d v L → (∀ x ∈ L, H x.1 = some x.2) → Is K H d v
  | .non, _, _, h, _ => h.1
  | .bl _, _, _, h, _ => h.1
  | .int _, _, _, h, _ => h.1
  | .str _, _, _, h, _ => h.1
  | .tup l, _, _, ⟨a, vs, Ls, e, eL, h⟩, q => ⟨a, vs, e, .inl (.inl (q (a, .tup vs) (by rw [eL]; exact List.mem_cons_self))), IsCL.is l vs Ls h fun x hx => q x (by rw [eL]; exact List.mem_cons_of_mem _ hx)⟩
  | .lst l, _, _, ⟨a, vs, Ls, e, eL, h⟩, q => ⟨a, vs, e, q (a, .lst vs) (by rw [eL]; exact List.mem_cons_self), IsCL.is l vs Ls h fun x hx => q x (by rw [eL]; exact List.mem_cons_of_mem _ hx)⟩
  | .scr _, _, _, h, _ => h.elim
  | .ty _, _, _, h, _ => h.1
  | .obj _, _, _, h, _ => h.1
  | .exc _ _ _ _, _, _, h, _ => h.elim
  | .ins C ns l, _, _, ⟨a, dx, vs, Ls, e, eL, h⟩, q => ⟨a, dx, vs, e, q (a, .ins C dx (ns.zip vs)) (by rw [eL]; exact List.mem_cons_self), IsCL.is l vs Ls h fun x hx => q x (by rw [eL]; exact List.mem_cons_of_mem _ (List.mem_cons_of_mem _ hx))⟩
  | .dic ks l, _, _, ⟨a, vs, Ls, e, eL, h⟩, q => ⟨a, vs, e, q (a, .dK (ks.zip vs)) (by rw [eL]; exact List.mem_cons_self), IsCL.is l vs Ls h fun x hx => q x (by rw [eL]; exact List.mem_cons_of_mem _ hx)⟩
  | .slf a C ns l, _, _, ⟨e, dx, vs, Ls, eL, h⟩, q => ⟨e, dx, vs, q (a, .ins C dx (ns.zip vs)) (by rw [eL]; exact List.mem_cons_self), IsCL.is l vs Ls h fun x hx => q x (by rw [eL]; exact List.mem_cons_of_mem _ (List.mem_cons_of_mem _ hx))⟩
  | .kn _, _, _, h, _ => h.1
theorem IsCL.is {K : PySem.W.Frag} {H : Hp} : ∀ (l : List D) (vs : List V) (L : Op), IsCL K H l vs L → (∀ x ∈ L, H x.1 = some x.2) → IsL K H l vs
  | [], _, _, h, _ => h.1
  | d :: l, _, _, ⟨v, r, L1, L2, e, eL, h1, h2⟩, q => ⟨v, r, e, IsC.is d v L1 h1 fun x hx => q x (by rw [eL]; exact List.mem_append_left _ hx), IsCL.is l r L2 h2 fun x hx => q x (by rw [eL]; exact List.mem_append_right _ hx)⟩
end
/-! the marks of known parts dropped -/
mutual
def D.er : D → D
  | .tup l => .tup (D.erL l)
  | .lst l => .lst (D.erL l)
  | .ins C ns l => .ins C ns (D.erL l)
  | .exc a od ns l => .exc a od ns (D.erL l)
  | .dic ks l => .dic ks (D.erL l)
  | .slf _ C ns l => .ins C ns (D.erL l)
  | .kn d => d
  | .non => .non
  | .bl b => .bl b
  | .int i => .int i
  | .str x => .str x
  | .scr ns => .scr ns
  | .ty n => .ty n
  | .obj a => .obj a
def D.erL : List D → List D
  | [] => []
  | d :: l => d.er :: D.erL l
end
mutual
theorem Is.er {K : PySem.W.Frag} {H : Hp} : ∀ (d : D) (v : V), Is K H d v → Is K H d.er v
  | .tup l, _, ⟨a, vs, h1, h2, h3⟩ => ⟨a, vs, h1, h2, IsL.er l vs h3⟩
  | .lst l, _, ⟨a, vs, h1, h2, h3⟩ => ⟨a, vs, h1, h2, IsL.er l vs h3⟩
  | .ins C ns l, _, ⟨a, dx, vs, h1, h2, h3⟩ => ⟨a, dx, vs, h1, h2, IsL.er l vs h3⟩
  | .exc a od ns l, _, ⟨h1, .inl h2⟩ => ⟨h1, .inl h2⟩
  | .exc a od ns l, _, ⟨h1, .inr ⟨d, vs, h2, h3, h4⟩⟩ => ⟨h1, .inr ⟨d, vs, h2, h3, IsL.er l vs h4⟩⟩
  | .dic ks l, _, ⟨a, vs, h1, h2, h3⟩ => ⟨a, vs, h1, h2, IsL.er l vs h3⟩
  | .slf a C ns l, _, ⟨h0, dx, vs, h2, h3⟩ => ⟨a, dx, vs, h0, h2, IsL.er l vs h3⟩
  | .kn d, v, h => h
  | .non, _, h => h
  | .bl _, _, h => h
  | .int _, _, h => h
  | .str _, _, h => h
  | .scr _, _, h => h
  | .ty _, _, h => h
  | .obj _, _, h => h
theorem IsL.er {K : PySem.W.Frag} {H : Hp} : ∀ (l : List D) (vs : List V), IsL K H l vs → IsL K H (D.erL l) vs
  | [], _, h => h
  | d :: l, _, ⟨v, r, e, h1, h2⟩ => ⟨v, r, e, Is.er d v h1, IsL.er l r h2⟩
end
section
variable {K : PySem.W.Frag} {H : Hp}
theorem IsCL.len : ∀ {l : List D} {vs : List V} {L : Op}, IsCL K H l vs L → vs.length = l.length
  | [], _, _, h => by rw [h.1] <;> rfl
  | _ :: _, _, _, ⟨v, r, L1, L2, e, eL, h1, h2⟩ => by rw [e, List.length_cons, List.length_cons, IsCL.len h2]
theorem IsCL.app : ∀ {l l' : List D} {vs us : List V} {L L' : Op}, IsCL K H l vs L → IsCL K H l' us L' → IsCL K H (l ++ l') (vs ++ us) (L ++ L')
  | [], _, _, _, _, _, h, h' => by rw [h.1, h.2]; exact h'
  | d :: l, _, _, _, _, _, ⟨v, r, L1, L2, e, eL, h1, h2⟩, h' => by
    rw [e, eL, List.append_assoc]
    exact ⟨v, r ++ _, L1, L2 ++ _, rfl, rfl, h1, IsCL.app h2 h'⟩
theorem IsCL.one {d : D} {v : V} {L : Op} (h : IsC K H d v L) : IsCL K H [d] [v] L := ⟨v, [], L, [], rfl, by simp, h, rfl, rfl⟩
theorem IsCL.cons {d : D} {v : V} {l : List D} {vs : List V} {L L' : Op} (h : IsC K H d v L) (h' : IsCL K H l vs L') : IsCL K H (d :: l) (v :: vs) (L ++ L') := ⟨v, vs, L, L', rfl, rfl, h, h'⟩
/-- one part of a row of trees, and how it may be changed -/
theorem IsCL.part : ∀ {l : List D} {vs : List V} {L : Op} {i : Nat} {d : D}, IsCL K H l vs L → l[i]? = some d → ∃ u Ls L1 L2, vs[i]? = some u ∧ IsC K H d u Ls ∧ L = L1 ++ (Ls ++ L2) ∧
    ∀ H' d' u' Ls', Same H H' → IsC K H' d' u' Ls' → IsCL K H' (l.set i d') (vs.set i u') (L1 ++ (Ls' ++ L2))
  | [], _, _, _, _, _, e => by simp at e
  | x :: l, _, _, 0, d, ⟨v, r, L1, L2, e, eL, h1, h2⟩, q => by
    have q : x = d := Option.some.inj q
    subst q
    rw [e, eL]
    exact ⟨v, L1, [], L2, rfl, h1, rfl, fun H' d' u' Ls' s h' => ⟨u', r, Ls', L2, rfl, rfl, h', h2.up s⟩⟩
  | x :: l, _, _, i + 1, d, ⟨v, r, L1, L2, e, eL, h1, h2⟩, q => by
    obtain ⟨u, Ls, M1, M2, g1, g2, g3, g4⟩ := IsCL.part (i := i) (d := d) h2 (by simpa using q)
    rw [e, eL]
    refine ⟨u, Ls, L1 ++ M1, M2, by simpa using g1, g2, by rw [g3, List.append_assoc], fun H' d' u' Ls' s h' => ⟨v, r.set i u', L1, M1 ++ (Ls' ++ M2), rfl, by rw [List.append_assoc], h1.up s, g4 H' d' u' Ls' s h'⟩⟩
/-- the part of d at a path -/
def D.at : List Nat → D → Option D
  | [], d => some d
  | i :: π, .tup l => (l[i]?).bind (D.at π)
  | i :: π, .lst l => (l[i]?).bind (D.at π)
  | i :: π, .ins _ ns l => if i < ns.length then (l[i]?).bind (D.at π) else none
  | i :: π, .slf _ _ ns l => if i < ns.length then (l[i]?).bind (D.at π) else none
  | i :: π, .dic ks l => if i < ks.length then (l[i]?).bind (D.at π) else none
  | _ :: _, _ => none
def D.put : List Nat → D → D → D
  | [], _, s => s
  | i :: π, .tup l, s => .tup (l.modify i fun d => D.put π d s)
  | i :: π, .lst l, s => .lst (l.modify i fun d => D.put π d s)
  | i :: π, .ins C ns l, s => .ins C ns (l.modify i fun d => D.put π d s)
  | i :: π, .slf a C ns l, s => .slf a C ns (l.modify i fun d => D.put π d s)
  | i :: π, .dic ks l, s => .dic ks (l.modify i fun d => D.put π d s)
  | _ :: _, d, _ => d
theorem modify_set {α : Type} {l : List α} {i : Nat} {d : α} (f : α → α) (h : l[i]? = some d) : l.modify i f = l.set i (f d) := by
  refine List.ext_getElem? fun j => ?_
  rw [List.getElem?_modify, List.getElem?_set]
  by_cases e : i = j
  · subst e
    have hi := (List.getElem?_eq_some_iff.mp h).1
    rw [h]
    simp [hi]
  · simp [e]
theorem set_same {α : Type} {l : List α} {i : Nat} {d : α} (h : l[i]? = some d) : l.set i d = l := by
  refine List.ext_getElem? fun j => ?_
  rw [List.getElem?_set]
  by_cases e : i = j
  · subst e
    have hi := (List.getElem?_eq_some_iff.mp h).1
    rw [if_pos rfl, if_pos hi, h]
  · rw [if_neg e]
/-- u stands at the path below v -/
def Nav (T : Hp) : List Nat → V → V → Prop
  | [], v, u => v = u
  | i :: π, v, u => ∃ a w, v = .ref a ∧ ((∃ vs, (T a = some (.lst vs) ∨ T a = some (.tup vs)) ∧ vs[i]? = some w) ∨ (∃ C dx fs n, T a = some (.ins C dx fs) ∧ fs[i]? = some (n, w)) ∨ (∃ kvs k, T a = some (.dK kvs) ∧ kvs[i]? = some (k, w))) ∧ Nav T π w u
theorem Nav.up {T T' : Hp} (s : Same T T') : ∀ {π : List Nat} {v u : V}, Nav T π v u → Nav T' π v u
  | [], _, _, h => h
  | i :: π, _, _, ⟨a, w, e, h, n⟩ => by
    refine ⟨a, w, e, ?_, Nav.up s n⟩
    rcases h with ⟨vs, h, q⟩ | ⟨C, dx, fs, nm, h, q⟩ | ⟨kvs, k, h, q⟩
    · exact .inl ⟨vs, h.imp (s _ _) (s _ _), q⟩
    · exact .inr (.inl ⟨C, dx, fs, nm, s _ _ h, q⟩)
    · exact .inr (.inr ⟨kvs, k, s _ _ h, q⟩)
theorem Nav.eq {T : Hp} : ∀ {π : List Nat} {v u u' : V}, Nav T π v u → Nav T π v u' → u = u'
  | [], _, _, _, h, h' => h.symm.trans h'
  | i :: π, _, _, _, ⟨a, w, e, h, n⟩, ⟨a', w', e', h', n'⟩ => by
    have ea : a = a' := by rw [e] at e'; exact V.ref.inj e'
    subst ea
    have ew : w = w' := by
      rcases h with ⟨vs, h, q⟩ | ⟨C, dx, fs, nm, h, q⟩ | ⟨kvs, k, h, q⟩
      · rcases h' with ⟨vs', h', q'⟩ | ⟨C', dx', fs', nm', h', q'⟩ | ⟨kvs', k', h', q'⟩
        · have : vs = vs' := by
            rcases h with h | h <;> rcases h' with h' | h' <;> (rw [h] at h'; cases h' <;> rfl)
          rw [this, q'] at q
          exact (Option.some.inj q).symm
        · rcases h with h | h <;> (rw [h] at h'; cases h')
        · rcases h with h | h <;> (rw [h] at h'; cases h')
      · rcases h' with ⟨vs', h', q'⟩ | ⟨C', dx', fs', nm', h', q'⟩ | ⟨kvs', k', h', q'⟩
        · rcases h' with h' | h' <;> (rw [h] at h'; cases h')
        · rw [h] at h'
          cases h'
          rw [q] at q'
          exact (Prod.mk.inj (Option.some.inj q')).2
        · rw [h] at h'; cases h'
      · rcases h' with ⟨vs', h', q'⟩ | ⟨C', dx', fs', nm', h', q'⟩ | ⟨kvs', k', h', q'⟩
        · rcases h' with h' | h' <;> (rw [h] at h'; cases h')
        · rw [h] at h'; cases h'
        · rw [h] at h'
          cases h'
          rw [q] at q'
          exact (Prod.mk.inj (Option.some.inj q')).2
    subst ew
    exact Nav.eq n n'
theorem zip_get {α β : Type} {l : List α} {r : List β} {i : Nat} {w : β} (hi : i < l.length) (h : r[i]? = some w) : ∃ n, (l.zip r)[i]? = some (n, w) := by
  refine ⟨l[i], ?_⟩
  rw [List.getElem?_zip_eq_some]
  exact ⟨List.getElem?_eq_getElem hi, h⟩
/-- the part at a path of an open tree: where it stands, and how it may be changed in place -/
theorem IsC.focus : ∀ {π : List Nat} {d s : D} {v : V} {L : Op}, IsC K H d v L → D.at π d = some s → ∃ u Ls L0, IsC K H s u Ls ∧ List.Perm L (Ls ++ L0) ∧ (∀ T : Hp, (∀ x ∈ L, T x.1 = some x.2) → Nav T π v u) ∧
    ∀ H' s' Ls', Same H H' → IsC K H' s' u Ls' → ∃ L', IsC K H' (D.put π d s') v L' ∧ List.Perm L' (Ls' ++ L0)
  | [], d, s, v, L, h, e => by
    have e : d = s := Option.some.inj e
    subst e
    exact ⟨v, L, [], h, by rw [List.append_nil], fun T _ => rfl, fun H' s' Ls' _ h' => ⟨Ls', h', by rw [List.append_nil]⟩⟩
  | i :: π, d, s, v, L, h, e => by
    cases d with
    | tup l =>
      obtain ⟨a, vs, Lt, rfl, rfl, hl⟩ := h
      obtain ⟨x, hx, e⟩ := Option.bind_eq_some_iff.mp (show (l[i]?).bind (D.at π) = some s from e)
      obtain ⟨w, Lw, L1, L2, g1, g2, g3, g4⟩ := hl.part hx
      obtain ⟨u, Ls, L0, k1, k2, k3, k4⟩ := IsC.focus g2 e
      subst g3
      refine ⟨u, Ls, (a, .tup vs) :: (L0 ++ (L1 ++ L2)), k1, ?_, fun T hT => ⟨a, w, rfl, .inl ⟨vs, .inr (hT (a, .tup vs) List.mem_cons_self), g1⟩, k3 T fun x hx => hT x (List.mem_cons_of_mem _ (List.mem_append_right _ (List.mem_append_left _ hx)))⟩, fun H' s' Ls' sm h' => ?_⟩
      · refine (List.Perm.cons _ ?_).trans List.perm_middle.symm
        refine List.Perm.trans ?_ (show List.Perm ((Ls ++ L0) ++ (L1 ++ L2)) (Ls ++ (L0 ++ (L1 ++ L2))) by rw [List.append_assoc])
        refine List.Perm.trans ?_ (k2.append_right (L1 ++ L2))
        refine List.Perm.trans ?_ (show List.Perm ((Lw ++ L1) ++ L2) (Lw ++ (L1 ++ L2)) by rw [List.append_assoc])
        rw [← List.append_assoc]
        exact List.perm_append_comm.append_right _
      · obtain ⟨L', q1, q2⟩ := k4 H' s' Ls' sm h'
        have q3 := g4 H' _ _ _ sm q1
        rw [set_same g1] at q3
        refine ⟨(a, .tup vs) :: (L1 ++ (L' ++ L2)), ⟨a, vs, _, rfl, rfl, by rw [modify_set _ hx]; exact q3⟩, ?_⟩
        refine (List.Perm.cons _ ?_).trans List.perm_middle.symm
        refine List.Perm.trans ?_ (show List.Perm ((Ls' ++ L0) ++ (L1 ++ L2)) (Ls' ++ (L0 ++ (L1 ++ L2))) by rw [List.append_assoc])
        refine List.Perm.trans ?_ (q2.append_right (L1 ++ L2))
        refine List.Perm.trans ?_ (show List.Perm ((L' ++ L1) ++ L2) (L' ++ (L1 ++ L2)) by rw [List.append_assoc])
        rw [← List.append_assoc]
        exact List.perm_append_comm.append_right _
    | lst l =>
      obtain ⟨a, vs, Lt, rfl, rfl, hl⟩ := h
      obtain ⟨x, hx, e⟩ := Option.bind_eq_some_iff.mp (show (l[i]?).bind (D.at π) = some s from e)
      obtain ⟨w, Lw, L1, L2, g1, g2, g3, g4⟩ := hl.part hx
      obtain ⟨u, Ls, L0, k1, k2, k3, k4⟩ := IsC.focus g2 e
      subst g3
      refine ⟨u, Ls, (a, .lst vs) :: (L0 ++ (L1 ++ L2)), k1, ?_, fun T hT => ⟨a, w, rfl, .inl ⟨vs, .inl (hT (a, .lst vs) List.mem_cons_self), g1⟩, k3 T fun x hx => hT x (List.mem_cons_of_mem _ (List.mem_append_right _ (List.mem_append_left _ hx)))⟩, fun H' s' Ls' sm h' => ?_⟩
      · refine (List.Perm.cons _ ?_).trans List.perm_middle.symm
        refine List.Perm.trans ?_ (show List.Perm ((Ls ++ L0) ++ (L1 ++ L2)) (Ls ++ (L0 ++ (L1 ++ L2))) by rw [List.append_assoc])
        refine List.Perm.trans ?_ (k2.append_right (L1 ++ L2))
        refine List.Perm.trans ?_ (show List.Perm ((Lw ++ L1) ++ L2) (Lw ++ (L1 ++ L2)) by rw [List.append_assoc])
        rw [← List.append_assoc]
        exact List.perm_append_comm.append_right _
      · obtain ⟨L', q1, q2⟩ := k4 H' s' Ls' sm h'
        have q3 := g4 H' _ _ _ sm q1
        rw [set_same g1] at q3
        refine ⟨(a, .lst vs) :: (L1 ++ (L' ++ L2)), ⟨a, vs, _, rfl, rfl, by rw [modify_set _ hx]; exact q3⟩, ?_⟩
        refine (List.Perm.cons _ ?_).trans List.perm_middle.symm
        refine List.Perm.trans ?_ (show List.Perm ((Ls' ++ L0) ++ (L1 ++ L2)) (Ls' ++ (L0 ++ (L1 ++ L2))) by rw [List.append_assoc])
        refine List.Perm.trans ?_ (q2.append_right (L1 ++ L2))
        refine List.Perm.trans ?_ (show List.Perm ((L' ++ L1) ++ L2) (L' ++ (L1 ++ L2)) by rw [List.append_assoc])
        rw [← List.append_assoc]
        exact List.perm_append_comm.append_right _
    | ins C ns l =>
      obtain ⟨a, dx, vs, Lt, rfl, rfl, hl⟩ := h
      have e : (if i < ns.length then (l[i]?).bind (D.at π) else none) = some s := e
      by_cases hi : i < ns.length
      · rw [if_pos hi] at e
        obtain ⟨x, hx, e⟩ := Option.bind_eq_some_iff.mp e
        obtain ⟨w, Lw, L1, L2, g1, g2, g3, g4⟩ := hl.part hx
        obtain ⟨u, Ls, L0, k1, k2, k3, k4⟩ := IsC.focus g2 e
        obtain ⟨nm, hz⟩ := zip_get hi g1
        subst g3
        refine ⟨u, Ls, (a, .ins C dx (ns.zip vs)) :: (dx, .own a) :: (L0 ++ (L1 ++ L2)), k1, ?_, fun T hT => ⟨a, w, rfl, .inr (.inl ⟨C, dx, _, nm, hT (a, .ins C dx (ns.zip vs)) List.mem_cons_self, hz⟩), k3 T fun x hx => hT x (List.mem_cons_of_mem _ (List.mem_cons_of_mem _ (List.mem_append_right _ (List.mem_append_left _ hx))))⟩, fun H' s' Ls' sm h' => ?_⟩
        · refine (List.Perm.cons _ ?_).trans List.perm_middle.symm
          refine (List.Perm.cons _ ?_).trans List.perm_middle.symm
          refine List.Perm.trans ?_ (show List.Perm ((Ls ++ L0) ++ (L1 ++ L2)) (Ls ++ (L0 ++ (L1 ++ L2))) by rw [List.append_assoc])
          refine List.Perm.trans ?_ (k2.append_right (L1 ++ L2))
          refine List.Perm.trans ?_ (show List.Perm ((Lw ++ L1) ++ L2) (Lw ++ (L1 ++ L2)) by rw [List.append_assoc])
          rw [← List.append_assoc]
          exact List.perm_append_comm.append_right _
        · obtain ⟨L', q1, q2⟩ := k4 H' s' Ls' sm h'
          have q3 := g4 H' _ _ _ sm q1
          rw [set_same g1] at q3
          refine ⟨(a, .ins C dx (ns.zip vs)) :: (dx, .own a) :: (L1 ++ (L' ++ L2)), ⟨a, dx, vs, _, rfl, rfl, by rw [modify_set _ hx]; exact q3⟩, ?_⟩
          refine (List.Perm.cons _ ?_).trans List.perm_middle.symm
          refine (List.Perm.cons _ ?_).trans List.perm_middle.symm
          refine List.Perm.trans ?_ (show List.Perm ((Ls' ++ L0) ++ (L1 ++ L2)) (Ls' ++ (L0 ++ (L1 ++ L2))) by rw [List.append_assoc])
          refine List.Perm.trans ?_ (q2.append_right (L1 ++ L2))
          refine List.Perm.trans ?_ (show List.Perm ((L' ++ L1) ++ L2) (L' ++ (L1 ++ L2)) by rw [List.append_assoc])
          rw [← List.append_assoc]
          exact List.perm_append_comm.append_right _
      · rw [if_neg hi] at e
        cases e
    | slf a C ns l =>
      obtain ⟨rfl, dx, vs, Lt, rfl, hl⟩ := h
      have e : (if i < ns.length then (l[i]?).bind (D.at π) else none) = some s := e
      by_cases hi : i < ns.length
      · rw [if_pos hi] at e
        obtain ⟨x, hx, e⟩ := Option.bind_eq_some_iff.mp e
        obtain ⟨w, Lw, L1, L2, g1, g2, g3, g4⟩ := hl.part hx
        obtain ⟨u, Ls, L0, k1, k2, k3, k4⟩ := IsC.focus g2 e
        obtain ⟨nm, hz⟩ := zip_get hi g1
        subst g3
        refine ⟨u, Ls, (a, .ins C dx (ns.zip vs)) :: (dx, .own a) :: (L0 ++ (L1 ++ L2)), k1, ?_, fun T hT => ⟨a, w, rfl, .inr (.inl ⟨C, dx, _, nm, hT (a, .ins C dx (ns.zip vs)) List.mem_cons_self, hz⟩), k3 T fun x hx => hT x (List.mem_cons_of_mem _ (List.mem_cons_of_mem _ (List.mem_append_right _ (List.mem_append_left _ hx))))⟩, fun H' s' Ls' sm h' => ?_⟩
        · refine (List.Perm.cons _ ?_).trans List.perm_middle.symm
          refine (List.Perm.cons _ ?_).trans List.perm_middle.symm
          refine List.Perm.trans ?_ (show List.Perm ((Ls ++ L0) ++ (L1 ++ L2)) (Ls ++ (L0 ++ (L1 ++ L2))) by rw [List.append_assoc])
          refine List.Perm.trans ?_ (k2.append_right (L1 ++ L2))
          refine List.Perm.trans ?_ (show List.Perm ((Lw ++ L1) ++ L2) (Lw ++ (L1 ++ L2)) by rw [List.append_assoc])
          rw [← List.append_assoc]
          exact List.perm_append_comm.append_right _
        · obtain ⟨L', q1, q2⟩ := k4 H' s' Ls' sm h'
          have q3 := g4 H' _ _ _ sm q1
          rw [set_same g1] at q3
          refine ⟨(a, .ins C dx (ns.zip vs)) :: (dx, .own a) :: (L1 ++ (L' ++ L2)), ⟨rfl, dx, vs, _, rfl, by rw [modify_set _ hx]; exact q3⟩, ?_⟩
          refine (List.Perm.cons _ ?_).trans List.perm_middle.symm
          refine (List.Perm.cons _ ?_).trans List.perm_middle.symm
          refine List.Perm.trans ?_ (show List.Perm ((Ls' ++ L0) ++ (L1 ++ L2)) (Ls' ++ (L0 ++ (L1 ++ L2))) by rw [List.append_assoc])
          refine List.Perm.trans ?_ (q2.append_right (L1 ++ L2))
          refine List.Perm.trans ?_ (show List.Perm ((L' ++ L1) ++ L2) (L' ++ (L1 ++ L2)) by rw [List.append_assoc])
          rw [← List.append_assoc]
          exact List.perm_append_comm.append_right _
      · rw [if_neg hi] at e
        cases e
    | dic ks l =>
      obtain ⟨a, vs, Lt, rfl, rfl, hl⟩ := h
      have e : (if i < ks.length then (l[i]?).bind (D.at π) else none) = some s := e
      by_cases hi : i < ks.length
      · rw [if_pos hi] at e
        obtain ⟨x, hx, e⟩ := Option.bind_eq_some_iff.mp e
        obtain ⟨w, Lw, L1, L2, g1, g2, g3, g4⟩ := hl.part hx
        obtain ⟨u, Ls, L0, k1, k2, k3, k4⟩ := IsC.focus g2 e
        obtain ⟨nm, hz⟩ := zip_get hi g1
        subst g3
        refine ⟨u, Ls, (a, .dK (ks.zip vs)) :: (L0 ++ (L1 ++ L2)), k1, ?_, fun T hT => ⟨a, w, rfl, .inr (.inr ⟨_, nm, hT (a, .dK (ks.zip vs)) List.mem_cons_self, hz⟩), k3 T fun x hx => hT x (List.mem_cons_of_mem _ (List.mem_append_right _ (List.mem_append_left _ hx)))⟩, fun H' s' Ls' sm h' => ?_⟩
        · refine (List.Perm.cons _ ?_).trans List.perm_middle.symm
          refine List.Perm.trans ?_ (show List.Perm ((Ls ++ L0) ++ (L1 ++ L2)) (Ls ++ (L0 ++ (L1 ++ L2))) by rw [List.append_assoc])
          refine List.Perm.trans ?_ (k2.append_right (L1 ++ L2))
          refine List.Perm.trans ?_ (show List.Perm ((Lw ++ L1) ++ L2) (Lw ++ (L1 ++ L2)) by rw [List.append_assoc])
          rw [← List.append_assoc]
          exact List.perm_append_comm.append_right _
        · obtain ⟨L', q1, q2⟩ := k4 H' s' Ls' sm h'
          have q3 := g4 H' _ _ _ sm q1
          rw [set_same g1] at q3
          refine ⟨(a, .dK (ks.zip vs)) :: (L1 ++ (L' ++ L2)), ⟨a, vs, _, rfl, rfl, by rw [modify_set _ hx]; exact q3⟩, ?_⟩
          refine (List.Perm.cons _ ?_).trans List.perm_middle.symm
          refine List.Perm.trans ?_ (show List.Perm ((Ls' ++ L0) ++ (L1 ++ L2)) (Ls' ++ (L0 ++ (L1 ++ L2))) by rw [List.append_assoc])
          refine List.Perm.trans ?_ (q2.append_right (L1 ++ L2))
          refine List.Perm.trans ?_ (show List.Perm ((L' ++ L1) ++ L2) (L' ++ (L1 ++ L2)) by rw [List.append_assoc])
          rw [← List.append_assoc]
          exact List.perm_append_comm.append_right _
      · rw [if_neg hi] at e
        cases e
    | non => cases e
    | bl b => cases e
    | int b => cases e
    | str b => cases e
    | scr b => cases e
    | ty b => cases e
    | obj b => cases e
    | exc a b c f => cases e
    | kn b => cases e
end

/-! no known parts -/
mutual
def D.kf : D → Bool
  | .tup l => D.kfL l
  | .lst l => D.kfL l
  | .ins _ _ l => D.kfL l
  | .dic _ l => D.kfL l
  | .slf _ _ _ l => D.kfL l
  | .kn _ => false
  | _ => true
def D.kfL : List D → Bool
  | [] => true
  | d :: l => D.kf d && D.kfL l
end
mutual
theorem IsC.any {K : PySem.W.Frag} {H H' : Hp} : ∀ (d : D) (v : V) (L : Op), d.kf = true → IsC K H d v L → IsC K H' d v L
  | .non, _, _, _, h => h
  | .bl _, _, _, _, h => h
  | .int _, _, _, _, h => h
  | .str _, _, _, _, h => h
  | .tup l, _, _, k, ⟨a, vs, Ls, h1, h2, h⟩ => ⟨a, vs, Ls, h1, h2, IsCL.any l vs Ls (by simpa [D.kf] using k) h⟩
  | .lst l, _, _, k, ⟨a, vs, Ls, h1, h2, h⟩ => ⟨a, vs, Ls, h1, h2, IsCL.any l vs Ls (by simpa [D.kf] using k) h⟩
  | .scr _, _, _, _, h => h
  | .ty _, _, _, _, h => h
  | .obj _, _, _, _, h => h
  | .exc _ _ _ _, _, _, _, h => h
  | .ins C ns l, _, _, k, ⟨a, dx, vs, Ls, h1, h2, h⟩ => ⟨a, dx, vs, Ls, h1, h2, IsCL.any l vs Ls (by simpa [D.kf] using k) h⟩
  | .dic ks l, _, _, k, ⟨a, vs, Ls, h1, h2, h⟩ => ⟨a, vs, Ls, h1, h2, IsCL.any l vs Ls (by simpa [D.kf] using k) h⟩
  | .slf a C ns l, _, _, k, ⟨h1, dx, vs, Ls, h2, h⟩ => ⟨h1, dx, vs, Ls, h2, IsCL.any l vs Ls (by simpa [D.kf] using k) h⟩
  | .kn d, _, _, k, _ => by simp [D.kf] at k
theorem IsCL.any {K : PySem.W.Frag} {H H' : Hp} : ∀ (l : List D) (vs : List V) (L : Op), D.kfL l = true → IsCL K H l vs L → IsCL K H' l vs L
  | [], _, _, _, h => h
  | d :: l, _, _, k, ⟨v, r, L1, L2, h1, h2, h3, h4⟩ => by
    have k' : d.kf = true ∧ D.kfL l = true := by simpa [D.kfL] using k
    exact ⟨v, r, L1, L2, h1, h2, IsC.any d v L1 k'.1 h3, IsCL.any l r L2 k'.2 h4⟩
end
theorem D.kfL_of {l : List D} (h : ∀ d ∈ l, d.kf = true) : D.kfL l = true := by
  induction l with
  | nil => rfl
  | cons d l ih => rw [D.kfL, h d List.mem_cons_self, ih fun x hx => h x (List.mem_cons_of_mem _ hx)] <;> rfl
theorem D.kf_lst {l : List D} (h : ∀ d ∈ l, d.kf = true) : (D.lst l).kf = true := by
  rw [D.kf, D.kfL_of h]

/-- numbers, texts, truth values, None -/
def D.sc : D → Bool
  | .non => true
  | .bl _ => true
  | .int _ => true
  | .str _ => true
  | .ty _ => true
  | .obj _ => true
  | _ => false
theorem D.sc_kf {d : D} (h : d.sc = true) : d.kf = true := by
  cases d <;> first | rfl | cases h
theorem Is.sc {K : PySem.W.Frag} {H : Hp} {d : D} {v : V} (h : Is K H d v) (e : d.sc = true) : IsC K H d v [] := by
  cases d <;> first | exact ⟨h, rfl⟩ | cases e
theorem Is.any {K : PySem.W.Frag} {H H' : Hp} {d : D} {v : V} (h : Is K H d v) (e : d.sc = true) : Is K H' d v := by
  cases d <;> first | exact h | cases e
theorem IsL.sc {K : PySem.W.Frag} {H : Hp} : ∀ {l : List D} {vs : List V}, IsL K H l vs → (∀ d ∈ l, d.sc = true) → IsCL K H l vs []
  | [], _, h, _ => ⟨h, rfl⟩
  | d :: l, _, ⟨v, r, e, h1, h2⟩, q => ⟨v, r, [], [], e, rfl, h1.sc (q d List.mem_cons_self), IsL.sc h2 fun x hx => q x (List.mem_cons_of_mem _ hx)⟩

/-! ### slots -/
inductive Sl where
  | no
  | im (d : D)
  | ow (l : List D)
  | cl (d : D)
abbrev Rho := List Sl
inductive EnR (K : PySem.W.Frag) (H : Hp) : Rho → L2.St → Op → Prop
  | nil : EnR K H [] [] []
  | no {ρ : Rho} {σ : L2.St} {L : Op} {x : Option V} : EnR K H ρ σ L → EnR K H (.no :: ρ) (x :: σ) L
  | im {ρ : Rho} {σ : L2.St} {L : Op} {d : D} {v : V} : Is K H d v → EnR K H ρ σ L → EnR K H (.im d :: ρ) (some v :: σ) L
  | ow {ρ : Rho} {σ : L2.St} {L : Op} {l : List D} {vs : List V} {p : Addr} : IsL K H l vs → EnR K H ρ σ L → EnR K H (.ow l :: ρ) (some (.ref p) :: σ) ((p, .lst vs) :: L)
  | cl {ρ : Rho} {σ : L2.St} {L Lc : Op} {d : D} {v : V} : IsC K H d v Lc → EnR K H ρ σ L → EnR K H (.cl d :: ρ) (some v :: σ) (Lc ++ L)
section
variable {K : PySem.W.Frag} {H H' : Hp} {ρ : Rho} {σ : L2.St} {L : Op}
theorem EnR.up (e : Same H H') (h : EnR K H ρ σ L) : EnR K H' ρ σ L := by
  induction h with
  | nil => exact .nil
  | no _ ih => exact .no ih
  | im h _ ih => exact .im (h.up e) ih
  | ow h _ ih => exact .ow (h.up e) ih
  | cl h _ ih => exact .cl (h.up e) ih
theorem EnR.len (h : EnR K H ρ σ L) : σ.length = ρ.length := by
  induction h with
  | nil => rfl
  | no _ ih => simp [ih]
  | im _ _ ih => simp [ih]
  | ow _ _ ih => simp [ih]
  | cl _ _ ih => simp [ih]
theorem EnR.get (h : EnR K H ρ σ L) : ∀ {i : Nat} {d : D}, ρ[i]? = some (.im d) → ∃ v, σ[i]? = some (some v) ∧ Is K H d v := by
  induction h with
  | nil => intro i d e; simp at e
  | no _ ih | ow _ _ ih | cl _ _ ih =>
    intro i d e
    cases i with
    | zero => cases e
    | succ i => exact ih (by simpa using e)
  | im h _ ih =>
    intro i d e
    cases i with
    | zero =>
      cases e
      exact ⟨_, rfl, h⟩
    | succ i => exact ih (by simpa using e)
/-- slot i alone: its own part, and how it may be filled anew; g: what of L stands before it, behind it -/
theorem EnR.at_ (h : EnR K H ρ σ L) : ∀ {i : Nat} {s : Sl}, ρ[i]? = some s → ∃ x Ls L1 L2, σ[i]? = some x ∧ L = L1 ++ (Ls ++ L2) ∧ EnR K H [s] [x] Ls ∧
    ∀ H' s' x' Ls', Same H H' → EnR K H' [s'] [x'] Ls' → EnR K H' (ρ.set i s') (σ.set i x') (L1 ++ (Ls' ++ L2)) := by
  have put : ∀ {H' : Hp} {s' : Sl} {x' : Option V} {Ls' : Op} {ρ : Rho} {σ : L2.St} {L : Op}, EnR K H' [s'] [x'] Ls' → EnR K H' ρ σ L → EnR K H' (s' :: ρ) (x' :: σ) (Ls' ++ L) := by
    intro H' s' x' Ls' ρ σ L h1 h2
    cases h1 with
    | no h => cases h; exact .no h2
    | im i h => cases h; exact .im i h2
    | ow i h => cases h; exact .ow i h2
    | cl i h =>
      cases h
      rw [List.append_nil]
      exact .cl i h2
  induction h with
  | nil => intro i s e; simp at e
  | @no ρ σ L x h ih =>
    intro i s e
    cases i with
    | zero =>
      cases e
      exact ⟨x, [], [], L, rfl, rfl, .no .nil, fun H' s' x' Ls' s0 q => (show EnR K H' (s' :: ρ) (x' :: σ) (Ls' ++ L) from put q (h.up s0))⟩
    | succ i =>
      obtain ⟨y, Ls, L1, L2, h1, h2, h3, h4⟩ := ih (by simpa using e)
      exact ⟨y, Ls, L1, L2, by simpa using h1, h2, h3, fun H' s' x' Ls' s0 q => .no (h4 H' s' x' Ls' s0 q)⟩
  | @im ρ σ L d v iv h ih =>
    intro i s e
    cases i with
    | zero =>
      cases e
      exact ⟨_, [], [], L, rfl, rfl, .im iv .nil, fun H' s' x' Ls' s0 q => (show EnR K H' (s' :: ρ) (x' :: σ) (Ls' ++ L) from put q (h.up s0))⟩
    | succ i =>
      obtain ⟨y, Ls, L1, L2, h1, h2, h3, h4⟩ := ih (by simpa using e)
      exact ⟨y, Ls, L1, L2, by simpa using h1, h2, h3, fun H' s' x' Ls' s0 q => .im (iv.up s0) (h4 H' s' x' Ls' s0 q)⟩
  | @ow ρ σ L l vs p iv h ih =>
    intro i s e
    cases i with
    | zero =>
      cases e
      exact ⟨_, [(p, .lst vs)], [], L, rfl, rfl, .ow iv .nil, fun H' s' x' Ls' s0 q => (show EnR K H' (s' :: ρ) (x' :: σ) (Ls' ++ L) from put q (h.up s0))⟩
    | succ i =>
      obtain ⟨y, Ls, L1, L2, h1, h2, h3, h4⟩ := ih (by simpa using e)
      exact ⟨y, Ls, (p, .lst vs) :: L1, L2, by simpa using h1, by rw [h2] <;> rfl, h3, fun H' s' x' Ls' s0 q => .ow (iv.up s0) (h4 H' s' x' Ls' s0 q)⟩
  | @cl ρ σ L Lc d v iv h ih =>
    intro i s e
    cases i with
    | zero =>
      cases e
      refine ⟨_, Lc, [], L, rfl, rfl, ?_, fun H' s' x' Ls' s0 q => (show EnR K H' (s' :: ρ) (x' :: σ) (Ls' ++ L) from put q (h.up s0))⟩
      have := EnR.cl (K := K) (H := H) iv .nil
      rw [List.append_nil] at this
      exact this
    | succ i =>
      obtain ⟨y, Ls, L1, L2, h1, h2, h3, h4⟩ := ih (by simpa using e)
      refine ⟨y, Ls, Lc ++ L1, L2, by simpa using h1, by rw [h2, List.append_assoc], h3, fun H' s' x' Ls' s0 q => ?_⟩
      rw [List.append_assoc]
      exact .cl (iv.up s0) (h4 H' s' x' Ls' s0 q)
theorem EnR.start {l : List D} {vs : List V} (hl : IsL K H l vs) (n : Nat) : EnR K H (l.map .im ++ List.replicate n .no) (vs.map some ++ List.replicate n none) [] := by
  induction l generalizing vs with
  | nil =>
    rw [show vs = [] from hl]
    induction n with
    | zero => exact .nil
    | succ n ih => exact .no ih
  | cons d l ih =>
    obtain ⟨v, r, e, h1, h2⟩ := hl
    rw [e]
    exact .im h1 (ih h2)
end

/-- M: what others have open; T0: the heap at the def's entry; X: what is open beside the slots -/
structure EnX (K : PySem.W.Frag) (M : Op) (T0 H T : Hp) (σ : L2.St) (ρ : Rho) (X : Op) : Prop where
  ex : ∃ L, EnR K H ρ σ L ∧ Opn H T (X ++ (L ++ M)) ∧ ∀ x ∈ X ++ L, T0 x.1 = none
  t0 : Same T0 T
abbrev En (K : PySem.W.Frag) (M : Op) (T0 H T : Hp) (σ : L2.St) (ρ : Rho) : Prop := EnX K M T0 H T σ ρ []
section
variable {K : PySem.W.Frag} {M : Op} {T0 H H' T T' : Hp} {ρ : Rho} {σ : L2.St} {X X' : Op} {p : Addr} {o : HO}
theorem EnX.same (h : EnX K M T0 H T σ ρ X) : Same H T := let ⟨_, _, q, _⟩ := h.ex; q.same
theorem EnX.get (h : EnX K M T0 H T σ ρ X) {i : Nat} {d : D} (e : ρ[i]? = some (.im d)) : ∃ v, σ[i]? = some (some v) ∧ Is K H d v := let ⟨_, r, _⟩ := h.ex; r.get e
theorem EnX.len (h : EnX K M T0 H T σ ρ X) : σ.length = ρ.length := let ⟨_, r, _⟩ := h.ex; r.len
/-- a new object, known at once -/
theorem EnX.new (h : EnX K M T0 H T σ ρ X) (hp : T p = none) : Same H (upd H p o) ∧ EnX K M T0 (upd H p o) (upd T p o) σ ρ X := by
  obtain ⟨L, r, q, f⟩ := h.ex
  have s : Same H (upd H p o) := same_new (q.fresh hp)
  exact ⟨s, ⟨L, r.up s, q.new hp, f⟩, h.t0.trans (same_new hp)⟩
theorem EnX.opened (h : EnX K M T0 H T σ ρ X) (hp : T p = none) : EnX K M T0 H (upd T p o) σ ρ ((p, o) :: X) := by
  obtain ⟨L, r, q, f⟩ := h.ex
  refine ⟨⟨L, r, q.opened hp, fun x hx => ?_⟩, h.t0.trans (same_new hp)⟩
  rcases List.mem_cons.mp hx with rfl | hx
  · exact h.t0.free hp
  · exact f x hx
theorem EnX.close (h : EnX K M T0 H T σ ρ ((p, o) :: X)) : Same H (upd H p o) ∧ EnX K M T0 (upd H p o) T σ ρ X := by
  obtain ⟨L, r, q, f⟩ := h.ex
  obtain ⟨s, q'⟩ := Opn.close q
  exact ⟨s, ⟨L, r.up s, q', fun x hx => f x (List.mem_cons_of_mem _ hx)⟩, h.t0⟩
theorem EnX.write {o' : HO} (h : EnX K M T0 H T σ ρ ((p, o) :: X)) : EnX K M T0 H (upd T p o') σ ρ ((p, o') :: X) := by
  obtain ⟨L, r, q, f⟩ := h.ex
  refine ⟨⟨L, r, q.write, fun x hx => ?_⟩, fun b u e => ?_⟩
  · rcases List.mem_cons.mp hx with rfl | hx
    · exact f (p, o) List.mem_cons_self
    · exact f x (List.mem_cons_of_mem _ hx)
  · rw [upd_ne (ne_of_none e (f (p, o) List.mem_cons_self))]
    exact h.t0 b u e
theorem EnX.at_ (h : EnX K M T0 H T σ ρ ((p, o) :: X)) : T p = some o := let ⟨_, _, q, _⟩ := h.ex; q.at_ _ List.mem_cons_self
theorem EnX.sub (h : EnX K M T0 H T σ ρ X) (e : List.Sublist X' X) : EnX K M T0 H T σ ρ X' := by
  obtain ⟨L, r, q, f⟩ := h.ex
  exact ⟨⟨L, r, q.sub (e.append (List.Sublist.refl _)), fun x hx => f x ((e.append (List.Sublist.refl L)).subset hx)⟩, h.t0⟩
theorem EnX.perm (h : EnX K M T0 H T σ ρ X) (e : List.Perm X X') : EnX K M T0 H T σ ρ X' := by
  obtain ⟨L, r, q, f⟩ := h.ex
  exact ⟨⟨L, r, q.perm (e.append_right _), fun x hx => f x ((e.append_right L).mem_iff.mpr hx)⟩, h.t0⟩
/-- a closed tree is known from now on -/
theorem EnX.closeAll : ∀ {Lc : Op} {H : Hp}, EnX K M T0 H T σ ρ (Lc ++ X) → ∃ H', Same H H' ∧ EnX K M T0 H' T σ ρ X ∧ ∀ x ∈ Lc, H' x.1 = some x.2
  | [], H, h => ⟨H, Same.refl _, h, fun _ hx => by cases hx⟩
  | (p, o) :: r, H, h => by
    obtain ⟨s1, h1⟩ := EnX.close h
    obtain ⟨H', s2, h2, h3⟩ := EnX.closeAll h1
    refine ⟨H', s1.trans s2, h2, fun x hx => ?_⟩
    rcases List.mem_cons.mp hx with rfl | hx
    · exact s2 _ _ upd_same
    · exact h3 x hx
theorem EnX.frame (h : EnX K M T0 H T σ ρ X) : Opn H T M := by
  obtain ⟨L, r, q, f⟩ := h.ex
  exact q.sub ((List.sublist_append_right _ _).trans (List.sublist_append_right _ _))
theorem sl_one {s : Sl} {x : Option V} {d : D} {v : V} (h : Is K H d v) : EnR K H [.im d] [some v] [] := .im h .nil
/-- slot i filled anew by Ls', which stood in X -/
theorem EnX.fill {i : Nat} {s' : Sl} {x' : Option V} {Ls' : Op} (h : EnX K M T0 H T σ ρ (Ls' ++ X)) (hs : EnR K H [s'] [x'] Ls') (hi : i < ρ.length) : EnX K M T0 H T (σ.set i x') (ρ.set i s') X := by
  obtain ⟨L, r, q, f⟩ := h.ex
  obtain ⟨x, Ls, L1, L2, h1, h2, h3, h4⟩ := r.at_ (List.getElem?_eq_getElem hi)
  subst h2
  have sb : List.Sublist (Ls' ++ (X ++ ((L1 ++ L2) ++ M))) ((Ls' ++ X) ++ ((L1 ++ (Ls ++ L2)) ++ M)) := by
    rw [show (Ls' ++ X) ++ ((L1 ++ (Ls ++ L2)) ++ M) = Ls' ++ (X ++ ((L1 ++ (Ls ++ L2)) ++ M)) from List.append_assoc _ _ _]
    exact (List.Sublist.refl _).append ((List.Sublist.refl _).append (((List.Sublist.refl _).append (List.sublist_append_right _ _)).append (List.Sublist.refl _)))
  have pm : List.Perm (Ls' ++ (X ++ ((L1 ++ L2) ++ M))) (X ++ ((L1 ++ (Ls' ++ L2)) ++ M)) := by
    have e1 : Ls' ++ (X ++ ((L1 ++ L2) ++ M)) = (Ls' ++ (X ++ L1)) ++ (L2 ++ M) := by simp [List.append_assoc]
    have e2 : X ++ ((L1 ++ (Ls' ++ L2)) ++ M) = ((X ++ L1) ++ Ls') ++ (L2 ++ M) := by simp [List.append_assoc]
    rw [e1, e2]
    exact List.perm_append_comm.append_right _
  refine ⟨⟨_, h4 H s' x' Ls' (Same.refl _) hs, (q.sub sb).perm pm, fun z hz => ?_⟩, h.t0⟩
  refine f z ?_
  simp only [List.mem_append] at hz ⊢
  rcases hz with a | a | a | a
  · exact .inl (.inr a)
  · exact .inr (.inl a)
  · exact .inl (.inl a)
  · exact .inr (.inr (.inr a))
theorem set_out {α : Type} {l : List α} {i : Nat} {x : α} (h : l.length ≤ i) : l.set i x = l := List.set_eq_of_length_le h
theorem EnX.set {i : Nat} {d : D} {v : V} (h : EnX K M T0 H T σ ρ X) (hd : Is K H d v) : EnX K M T0 H T (σ.set i (some v)) (ρ.set i (.im d)) X := by
  by_cases hi : i < ρ.length
  · exact EnX.fill (Ls' := []) h (.im hd .nil) hi
  · rw [show σ.set i (some v) = σ from set_out (by have := h.len; omega), show ρ.set i (.im d) = ρ from set_out (by omega)]
    exact h
theorem EnX.drop {i : Nat} {x : Option V} (h : EnX K M T0 H T σ ρ X) : EnX K M T0 H T (σ.set i x) (ρ.set i .no) X := by
  by_cases hi : i < ρ.length
  · exact EnX.fill (Ls' := []) h (.no .nil) hi
  · rw [show σ.set i x = σ from set_out (by have := h.len; omega), show ρ.set i .no = ρ from set_out (by omega)]
    exact h
theorem EnX.setO {i : Nat} {l : List D} {vs : List V} (h : EnX K M T0 H T σ ρ ((p, .lst vs) :: X)) (hi : i < ρ.length) (hd : IsL K H l vs) : EnX K M T0 H T (σ.set i (some (.ref p))) (ρ.set i (.ow l)) X :=
  EnX.fill (Ls' := [(p, .lst vs)]) h (.ow hd .nil) hi
theorem EnX.setC {i : Nat} {d : D} {v : V} {Lc : Op} (h : EnX K M T0 H T σ ρ (Lc ++ X)) (hi : i < ρ.length) (hd : IsC K H d v Lc) : EnX K M T0 H T (σ.set i (some v)) (ρ.set i (.cl d)) X := by
  have q := EnR.cl (K := K) (H := H) hd .nil
  rw [List.append_nil] at q
  exact EnX.fill (Ls' := Lc) h q hi
theorem set_self : ∀ {α : Type} {l : List α} {i : Nat} {x : α}, l[i]? = some x → l.set i x = l
  | _, [], _, _, h => by simp at h
  | _, a :: l, 0, x, h => by
    have e : a = x := Option.some.inj h
    rw [e] <;> rfl
  | _, a :: l, i + 1, x, h => by
    show a :: l.set i x = a :: l
    rw [set_self (by simpa using h)]
theorem get_some {α : Type} {l : List α} {i : Nat} (h : i < l.length) : ∃ x, l[i]? = some x := ⟨l[i], List.getElem?_eq_getElem h⟩
/-- slot i emptied: its part stands in X -/
theorem EnX.take {i : Nat} {s : Sl} (h : EnX K M T0 H T σ ρ X) (e : ρ[i]? = some s) : ∃ x Ls, σ[i]? = some x ∧ EnR K H [s] [x] Ls ∧ EnX K M T0 H T σ (ρ.set i .no) (Ls ++ X) := by
  obtain ⟨L, r, q, f⟩ := h.ex
  obtain ⟨x, Ls, L1, L2, h1, h2, h3, h4⟩ := r.at_ e
  subst h2
  have q2 := h4 H .no x [] (Same.refl _) (.no .nil)
  rw [set_self h1] at q2
  have pm : List.Perm (X ++ ((L1 ++ (Ls ++ L2)) ++ M)) ((Ls ++ X) ++ ((L1 ++ ([] ++ L2)) ++ M)) := by
    have e1 : X ++ ((L1 ++ (Ls ++ L2)) ++ M) = ((X ++ L1) ++ Ls) ++ (L2 ++ M) := by simp [List.append_assoc]
    have e2 : (Ls ++ X) ++ ((L1 ++ ([] ++ L2)) ++ M) = (Ls ++ (X ++ L1)) ++ (L2 ++ M) := by simp [List.append_assoc]
    rw [e1, e2]
    exact List.perm_append_comm.append_right _
  refine ⟨x, Ls, h1, h3, ⟨_, q2, q.perm pm, fun z hz => f z ?_⟩, h.t0⟩
  simp only [List.mem_append, List.nil_append] at hz ⊢
  rcases hz with (a | a) | a | a
  · exact .inr (.inr (.inl a))
  · exact .inl a
  · exact .inr (.inl a)
  · exact .inr (.inr (.inr a))
theorem EnR.ow1 {l : List D} {x : Option V} {Ls : Op} (h : EnR K H [.ow l] [x] Ls) : ∃ p vs, x = some (.ref p) ∧ Ls = [(p, .lst vs)] ∧ IsL K H l vs := by
  cases h with
  | ow i h => cases h; exact ⟨_, _, rfl, rfl, i⟩
theorem EnR.cl1 {d : D} {x : Option V} {Ls : Op} (h : EnR K H [.cl d] [x] Ls) : ∃ v, x = some v ∧ IsC K H d v Ls := by
  cases h with
  | cl i h =>
    cases h
    rw [List.append_nil]
    exact ⟨_, rfl, i⟩
/-- the open list at slot i -/
theorem EnX.own {i : Nat} {l : List D} (h : EnX K M T0 H T σ ρ X) (e : ρ[i]? = some (.ow l)) : ∃ p vs, σ[i]? = some (some (.ref p)) ∧ T p = some (.lst vs) ∧ IsL K H l vs ∧
    (∀ l' vs', IsL K H l' vs' → EnX K M T0 H (upd T p (.lst vs')) σ (ρ.set i (.ow l')) X) ∧
    (Same H (upd H p (.lst vs)) ∧ EnX K M T0 (upd H p (.lst vs)) T σ (ρ.set i (.im (.lst l))) X) ∧
    EnX K M T0 H T σ (ρ.set i .no) ((p, .lst vs) :: X) := by
  obtain ⟨x, Ls, h1, h2, h3⟩ := h.take e
  obtain ⟨p, vs, rfl, rfl, h4⟩ := h2.ow1
  have hi : i < (ρ.set i .no).length := by rw [List.length_set]; exact (List.getElem?_eq_some_iff.mp e).1
  refine ⟨p, vs, h1, EnX.at_ h3, h4, fun l' vs' hl => ?_, ?_, h3⟩
  · have q := EnX.setO (i := i) (EnX.write (o' := .lst vs') h3) hi hl
    rw [set_self h1, List.set_set] at q
    exact q
  · obtain ⟨s, q⟩ := EnX.close h3
    have q2 := q.set (i := i) (d := .lst l) (v := .ref p) ⟨p, vs, rfl, upd_same, h4.up s⟩
    rw [set_self h1, List.set_set] at q2
    exact ⟨s, q2⟩
end
end FS
set_option Elab.async false
set_option linter.all false
set_option maxRecDepth 100000
set_option maxHeartbeats 4000000
namespace FS
open PySem PySem.Spec PyProof.Rows L2

/-! ### what an expression is worth -/
section
variable (K : PySem.W.Frag)
def EvD (te : TE) (ρ : Rho) (d : D) : Prop := ∀ (M : Op) (T0 H T : Hp) (σ : L2.St) (X : Op) (Q : VK), EnX K M T0 H T σ ρ X → (∀ v H' T', Same H H' → Same T T' → EnX K M T0 H' T' σ ρ X → Is K H' d v → Q v T') → te σ T Q
/-- a new list -/
def EvO (te : TE) (ρ : Rho) (l : List D) : Prop := ∀ (M : Op) (T0 H T : Hp) (σ : L2.St) (X : Op) (Q : VK), EnX K M T0 H T σ ρ X → (∀ p vs H' T', Same H H' → Same T T' → EnX K M T0 H' T' σ ρ ((p, .lst vs) :: X) → IsL K H' l vs → Q (.ref p) T') → te σ T Q
def EvT (tt : TT) (ρ : Rho) (b : Bool) : Prop := ∀ (M : Op) (T0 H T : Hp) (σ : L2.St) (X : Op) (Q : Bool → Hp → Prop), EnX K M T0 H T σ ρ X → (∀ H' T', Same H H' → Same T T' → EnX K M T0 H' T' σ ρ X → Q b T') → tt σ T Q
def EvA (ta : TA) (ρ : Rho) (ds : List D) : Prop := ∀ (M : Op) (T0 H T : Hp) (σ : L2.St) (X : Op) (Q : List V → Hp → Prop), EnX K M T0 H T σ ρ X → (∀ vs H' T', Same H H' → Same T T' → EnX K M T0 H' T' σ ρ X → IsL K H' ds vs → Q vs T') → ta σ T Q
/-- operations on values -/
def RvD (r : R2) (x y z : D) : Prop := ∀ (H T : Hp) (vx vy : V) (Q : VK), Same H T → Is K H x vx → Is K H y vy → (∀ v, Is K H z v → Q v T) → r vx vy T Q
def RuD (r : V → Hp → VK → Prop) (x z : D) : Prop := ∀ (H T : Hp) (vx : V) (Q : VK), Same H T → Is K H x vx → (∀ v, Is K H z v → Q v T) → r vx T Q
def RcD (r : List V → Hp → VK → Prop) (ds : List D) (z : D) : Prop := ∀ (H T : Hp) (vs : List V) (Q : VK), Same H T → IsL K H ds vs → (∀ v, Is K H z v → Q v T) → r vs T Q
/-- a call that makes a new list -/
def RcO (r : List V → Hp → VK → Prop) (ds l : List D) : Prop := ∀ (H T : Hp) (vs : List V) (Q : VK), Same H T → IsL K H ds vs → (∀ p us, T p = none → IsL K H l us → Q (.ref p) (upd T p (.lst us))) → r vs T Q
/-- an operation that makes a new list -/
def RvO (r : R2) (x y : D) (l : List D) : Prop := ∀ (H T : Hp) (vx vy : V) (Q : VK), Same H T → Is K H x vx → Is K H y vy → (∀ p us, T p = none → IsL K H l us → Q (.ref p) (upd T p (.lst us))) → r vx vy T Q
end

section
variable {K : PySem.W.Frag} {ρ : Rho} {ta tb te tc : TE} {t u : TT} {x y z d : D} {l : List D} {ds : List D} {tr : TA} {r : R2}
theorem EvD.is (h : EvD K te ρ x) (e : x = y) : EvD K te ρ y := e ▸ h
theorem EvO.is {l' : List D} (h : EvO K te ρ l) (e : l = l') : EvO K te ρ l' := e ▸ h
theorem EvT.is {a b : Bool} (h : EvT K t ρ a) (e : a = b) : EvT K t ρ b := e ▸ h
theorem ev_var {i : Nat} (e : ρ[i]? = some (.im d)) : EvD K (tVar i) ρ d := fun M T0 H T σ X Q h q => by
  obtain ⟨v, h1, h2⟩ := h.get e
  exact ⟨v, h1, q v H T (Same.refl _) (Same.refl _) h h2⟩
theorem ev_c {v : V} (hv : ∀ H, Is K H d v) : EvD K (tC v) ρ d := fun M T0 H T σ X Q h q => q v H T (Same.refl _) (Same.refl _) h (hv H)
theorem ev_int {i : Int} : EvD K (tC (.int i)) ρ (.int i) := ev_c fun _ => rfl
theorem ev_bl {b : Bool} : EvD K (tC (.bl b)) ρ (.bl b) := ev_c fun _ => rfl
theorem ev_non : EvD K (tC .non) ρ .non := ev_c fun _ => rfl
theorem ev_str {s : Str} : EvD K (tC (.str s)) ρ (.str s) := ev_c fun _ => rfl
/-- a new list, known from now on -/
theorem ev_fz (h : EvO K te ρ l) : EvD K te ρ (.lst l) := fun M T0 H T σ X Q e q => h M T0 H T σ X Q e fun p vs H' T' s t e' hl => by
  obtain ⟨s2, e2⟩ := e'.close
  exact q (.ref p) _ T' (s.trans s2) t e2 ⟨p, vs, rfl, upd_same, hl.up s2⟩
theorem ev_op (ha : EvD K ta ρ x) (hb : EvD K tb ρ y) (hr : RvD K r x y z) : EvD K (tOp r ta tb) ρ z := fun M T0 H T σ X Q e q =>
  ha M T0 H T σ X _ e fun v H1 T1 s1 t1 e1 i1 => hb M T0 H1 T1 σ X _ e1 fun w H2 T2 s2 t2 e2 i2 => hr H2 T2 v w Q e2.same (i1.up s2) i2 fun u iu => q u H2 T2 (s1.trans s2) (t1.trans t2) e2 iu
theorem ev_un {r : V → Hp → VK → Prop} (ha : EvD K ta ρ x) (hr : RuD K r x z) : EvD K (tUn r ta) ρ z := fun M T0 H T σ X Q e q =>
  ha M T0 H T σ X _ e fun v H1 T1 s1 t1 e1 i1 => hr H1 T1 v Q e1.same i1 fun u iu => q u H1 T1 s1 t1 e1 iu
theorem ev_opO (ha : EvD K ta ρ x) (hb : EvD K tb ρ y) (hr : RvO K r x y l) : EvO K (tOp r ta tb) ρ l := fun M T0 H T σ X Q e q =>
  ha M T0 H T σ X _ e fun v H1 T1 s1 t1 e1 i1 => hb M T0 H1 T1 σ X _ e1 fun w H2 T2 s2 t2 e2 i2 => hr H2 T2 v w Q e2.same (i1.up s2) i2 fun p us hp iu => q p us H2 _ (s1.trans s2) ((t1.trans t2).trans (same_new hp)) (e2.opened hp) iu
theorem ev_cb {r : List V → Hp → VK → Prop} (ha : EvA K tr ρ ds) (hr : RcD K r ds z) : EvD K (tCB r tr) ρ z := fun M T0 H T σ X Q e q =>
  ha M T0 H T σ X _ e fun vs H1 T1 s1 t1 e1 i1 => hr H1 T1 vs Q e1.same i1 fun u iu => q u H1 T1 s1 t1 e1 iu
theorem ev_cbO {r : List V → Hp → VK → Prop} (ha : EvA K tr ρ ds) (hr : RcO K r ds l) : EvO K (tCB r tr) ρ l := fun M T0 H T σ X Q e q =>
  ha M T0 H T σ X _ e fun vs H1 T1 s1 t1 e1 i1 => hr H1 T1 vs Q e1.same i1 fun p us hp iu => q p us H1 _ s1 (t1.trans (same_new hp)) (e1.opened hp) iu
theorem ea_nil : EvA K tNil ρ [] := fun M T0 H T σ X Q e q => q [] H T (Same.refl _) (Same.refl _) e rfl
theorem ea_cons (ha : EvD K ta ρ x) (hr : EvA K tr ρ ds) : EvA K (tCons ta tr) ρ (x :: ds) := fun M T0 H T σ X Q e q =>
  ha M T0 H T σ X _ e fun v H1 T1 s1 t1 e1 i1 => hr M T0 H1 T1 σ X _ e1 fun vs H2 T2 s2 t2 e2 i2 => q (v :: vs) H2 T2 (s1.trans s2) (t1.trans t2) e2 (.cons (i1.up s2) i2)
theorem ev_tup (ha : EvA K tr ρ ds) (hl : ds.length ≤ 1000) : EvD K (tTup tr) ρ (.tup ds) := fun M T0 H T σ X Q e q =>
  ha M T0 H T σ X _ e fun vs H1 T1 s1 t1 e1 i1 => ⟨by rw [i1.len]; exact Nat.le_trans hl (by decide), fun p hp => by
    obtain ⟨s2, e2⟩ := e1.new (o := .tup vs) hp
    exact q (.ref p) _ _ (s1.trans s2) (t1.trans (same_new hp)) e2 ⟨p, vs, rfl, .inl (.inl upd_same), i1.up s2⟩⟩
theorem evo_lst (ha : EvA K tr ρ ds) (hl : ds.length ≤ 1000) : EvO K (tLst tr) ρ ds := fun M T0 H T σ X Q e q =>
  ha M T0 H T σ X _ e fun vs H1 T1 s1 t1 e1 i1 => ⟨by rw [i1.len]; exact Nat.le_trans hl (by decide), fun p hp => q p vs H1 _ s1 (t1.trans (same_new hp)) (e1.opened hp) i1⟩
/-! tests -/
theorem et_test {b : Bool} (h : EvD K te ρ (.bl b)) : EvT K (tTest te) ρ b := fun M T0 H T σ X Q e q =>
  h M T0 H T σ X _ e fun v H1 T1 s1 t1 e1 i1 => ⟨b, i1, q H1 T1 s1 t1 e1⟩
theorem et_B {b : Bool} (h : EvD K te ρ (.bl b)) : EvT K (tB te) ρ b := fun M T0 H T σ X Q e q =>
  h M T0 H T σ X _ e fun v H1 T1 s1 t1 e1 i1 => ⟨b, i1, q H1 T1 s1 t1 e1⟩
theorem et_and {a b : Bool} (h1 : EvT K t ρ a) (h2 : a = true → EvT K u ρ b) : EvT K (tAnd t u) ρ (a && b) := fun M T0 H T σ X Q e q =>
  h1 M T0 H T σ X _ e fun H1 T1 s1 t1 e1 => by
    cases a with
    | true =>
      show u σ T1 Q
      exact h2 rfl M T0 H1 T1 σ X Q e1 fun H2 T2 s2 t2 e2 => q H2 T2 (s1.trans s2) (t1.trans t2) e2
    | false =>
      show Q false T1
      exact q H1 T1 s1 t1 e1
theorem et_or {a b : Bool} (h1 : EvT K t ρ a) (h2 : a = false → EvT K u ρ b) : EvT K (tOr t u) ρ (a || b) := fun M T0 H T σ X Q e q =>
  h1 M T0 H T σ X _ e fun H1 T1 s1 t1 e1 => by
    cases a with
    | true =>
      show Q true T1
      exact q H1 T1 s1 t1 e1
    | false =>
      show u σ T1 Q
      exact h2 rfl M T0 H1 T1 σ X Q e1 fun H2 T2 s2 t2 e2 => q H2 T2 (s1.trans s2) (t1.trans t2) e2
theorem et_not {a : Bool} (h1 : EvT K t ρ a) : EvT K (tNot t) ρ (!a) := fun M T0 H T σ X Q e q => h1 M T0 H T σ X _ e fun H1 T1 s1 t1 e1 => q H1 T1 s1 t1 e1
theorem et_yes : EvT K tYes ρ true := fun M T0 H T σ X Q e q => q H T (Same.refl _) (Same.refl _) e
theorem ev_andV {a b : Bool} (h1 : EvD K ta ρ (.bl a)) (h2 : a = true → EvD K tb ρ (.bl b)) : EvD K (tAndV ta tb) ρ (.bl (a && b)) := fun M T0 H T σ X Q e q =>
  h1 M T0 H T σ X _ e fun v H1 T1 s1 t1 e1 i1 => ⟨a, i1, by
    cases a with
    | true =>
      show tb σ T1 Q
      exact h2 rfl M T0 H1 T1 σ X Q e1 fun w H2 T2 s2 t2 e2 i2 => q w H2 T2 (s1.trans s2) (t1.trans t2) e2 i2
    | false =>
      show Q (.bl false) T1
      exact q _ H1 T1 s1 t1 e1 rfl⟩
theorem ev_orV {a b : Bool} (h1 : EvD K ta ρ (.bl a)) (h2 : a = false → EvD K tb ρ (.bl b)) : EvD K (tOrV ta tb) ρ (.bl (a || b)) := fun M T0 H T σ X Q e q =>
  h1 M T0 H T σ X _ e fun v H1 T1 s1 t1 e1 i1 => ⟨a, i1, by
    cases a with
    | true =>
      show Q (.bl true) T1
      exact q _ H1 T1 s1 t1 e1 rfl
    | false =>
      show tb σ T1 Q
      exact h2 rfl M T0 H1 T1 σ X Q e1 fun w H2 T2 s2 t2 e2 i2 => q w H2 T2 (s1.trans s2) (t1.trans t2) e2 i2⟩
theorem ev_notV {a : Bool} (h1 : EvD K ta ρ (.bl a)) : EvD K (tNotV ta) ρ (.bl (!a)) := fun M T0 H T σ X Q e q =>
  h1 M T0 H T σ X _ e fun v H1 T1 s1 t1 e1 i1 => ⟨a, i1, q _ H1 T1 s1 t1 e1 rfl⟩
theorem ev_if {b : Bool} (h : EvT K t ρ b) (h1 : b = true → EvD K ta ρ x) (h2 : b = false → EvD K tb ρ x) : EvD K (tIf t ta tb) ρ x := fun M T0 H T σ X Q e q =>
  h M T0 H T σ X _ e fun H1 T1 s1 t1 e1 => by
    cases b with
    | true =>
      show ta σ T1 Q
      exact h1 rfl M T0 H1 T1 σ X Q e1 fun w H2 T2 s2 t2 e2 i2 => q w H2 T2 (s1.trans s2) (t1.trans t2) e2 i2
    | false =>
      show tb σ T1 Q
      exact h2 rfl M T0 H1 T1 σ X Q e1 fun w H2 T2 s2 t2 e2 i2 => q w H2 T2 (s1.trans s2) (t1.trans t2) e2 i2

/-! operations on ints and others -/
theorem rv_I0 {g : Int → Int → V} {i j : Int} (hz : ∀ H, Is K H z (g i j)) : RvD K (rI0 g) (.int i) (.int j) z := fun H T vx vy Q s h1 h2 q => ⟨i, j, h1, h2, q _ (hz H)⟩
theorem rv_I {C : Int → Int → Prop} {g : Int → Int → V} {i j : Int} (hc : C i j) (hz : ∀ H, Is K H z (g i j)) : RvD K (rI C g) (.int i) (.int j) z := fun H T vx vy Q s h1 h2 q => ⟨i, j, h1, h2, hc, q _ (hz H)⟩
theorem ru_I {g : Int → V} {i : Int} (hz : ∀ H, Is K H z (g i)) : RuD K (rU g) (.int i) z := fun H T vx Q s h1 q => ⟨i, h1, q _ (hz H)⟩
theorem rv_eqI {i j : Int} : RvD K rEq (.int i) (.int j) (.bl (decide (i = j))) := fun H T vx vy Q s h1 h2 q => by
  rw [show vx = V.int i from h1, show vy = V.int j from h2]
  exact ⟨rfl, q _ (by rw [dec_int]; exact congrArg V.bl (Bool.beq_eq_decide_eq i j))⟩
theorem rv_neI {i j : Int} : RvD K rNe (.int i) (.int j) (.bl (!decide (i = j))) := fun H T vx vy Q s h1 h2 q => by
  rw [show vx = V.int i from h1, show vy = V.int j from h2]
  exact ⟨rfl, q _ (by rw [dec_int]; exact congrArg (fun b => V.bl (!b)) (Bool.beq_eq_decide_eq i j))⟩
theorem rv_eqS {i j : Str} : RvD K rEq (.str i) (.str j) (.bl (decide (i = j))) := fun H T vx vy Q s h1 h2 q => by
  rw [show vx = V.str i from h1, show vy = V.str j from h2]
  refine ⟨rfl, q _ ?_⟩
  show V.bl (decide (V.str i = V.str j)) = V.bl (decide (i = j))
  by_cases e : i = j
  · rw [decide_eq_true e, decide_eq_true (by rw [e])]
  · rw [decide_eq_false e, decide_eq_false (fun z => e (V.str.inj z))]
theorem rv_neS {i j : Str} : RvD K rNe (.str i) (.str j) (.bl (!decide (i = j))) := fun H T vx vy Q s h1 h2 q => by
  rw [show vx = V.str i from h1, show vy = V.str j from h2]
  refine ⟨rfl, q _ ?_⟩
  show V.bl (!decide (V.str i = V.str j)) = V.bl (!decide (i = j))
  by_cases e : i = j
  · rw [decide_eq_true e, decide_eq_true (by rw [e])]
  · rw [decide_eq_false e, decide_eq_false (fun z => e (V.str.inj z))]
/-- is None -/
def isNon : D → Bool
  | .non => true
  | .kn d => isNon d
  | _ => false
theorem isNon_ok {H : Hp} {v : V} : ∀ (x : D), Is K H x v → decide (v = .non) = isNon x
  | .non, h => by rw [show v = V.non from h] <;> rfl
  | .bl b, h => by rw [show v = V.bl b from h] <;> rfl
  | .int b, h => by rw [show v = V.int b from h] <;> rfl
  | .str b, h => by rw [show v = V.str b from h] <;> rfl
  | .tup l, h => by obtain ⟨a, vs, rfl, _⟩ := h; rfl
  | .lst l, h => by obtain ⟨a, vs, rfl, _⟩ := h; rfl
  | .scr l, h => by obtain ⟨a, rfl, _⟩ := h; rfl
  | .ty n, h => by rw [show v = V.ty n from h] <;> rfl
  | .obj a, h => by rw [show v = V.ref a from h] <;> rfl
  | .ins C ns l, h => by obtain ⟨a, dx, vs, rfl, _⟩ := h; rfl
  | .exc a od ns l, h => by obtain ⟨rfl, _⟩ := h; rfl
  | .dic ks l, h => by obtain ⟨a, vs, rfl, _⟩ := h; rfl
  | .slf a C ns l, h => by obtain ⟨rfl, _⟩ := h; rfl
  | .kn d, h => by rw [isNon_ok d (show Is K H d v from h), isNon]
theorem rv_isN : RvD K (fun x y H Q => y = .non ∧ Q (.bl (decide (x = .non))) H) x .non (.bl (isNon x)) := fun H T vx vy Q s h1 h2 q => ⟨h2, q _ (congrArg V.bl (isNon_ok _ h1))⟩
theorem rv_notN : RvD K (fun x y H Q => y = .non ∧ Q (.bl (!decide (x = .non))) H) x .non (.bl (!isNon x)) := fun H T vx vy Q s h1 h2 q => ⟨h2, q _ (congrArg (fun b => V.bl (!b)) (isNon_ok _ h1))⟩
theorem atI_is {H : Hp} {vs : List V} {i : Int} (h : IsL K H l vs) (e : atI l i = some d) : ∃ v, atI vs i = some v ∧ Is K H d v := by
  unfold atI at e ⊢
  rw [h.len]
  cases q : ixN l.length i with
  | none => rw [q] at e; cases e
  | some j =>
    rw [q] at e
    exact h.get (i := j) e
theorem at_nat {j : Nat} (h : l[j]? = some d) : atI l (j : Int) = some d := atI_nat h
theorem rv_ixL {i : Int} (e : atI l i = some d) : RvD K (rIxL K) (.lst l) (.int i) d := fun H T vx vy Q s ⟨a, vs, h0, h1, h2⟩ h3 q => by
  obtain ⟨v, e1, e2⟩ := atI_is h2 e
  exact ⟨a, vs, i, v, h0, h3, .inl (.inl (s _ _ h1)), e1, q v e2⟩
theorem rv_ixT {i : Int} (e : atI l i = some d) : RvD K (rIxT K) (.tup l) (.int i) d := fun H T vx vy Q s ⟨a, vs, h0, h1, h2⟩ h3 q => by
  obtain ⟨v, e1, e2⟩ := atI_is h2 e
  exact ⟨a, vs, i, v, h0, h3, same_t s h1, e1, q v e2⟩
theorem rv_ixC {ns : List Int} {i n : Int} (e : atI ns i = some n) : RvD K (rIxL K) (.scr ns) (.int i) (.int n) := fun H T vx vy Q s ⟨a, h0, h1⟩ h3 q => by
  refine ⟨a, ns.map V.int, i, .int n, h0, h3, s.seq h1, ?_, q _ rfl⟩
  unfold atI at e ⊢
  rw [List.length_map]
  cases q : ixN ns.length i with
  | none => rw [q] at e; cases e
  | some j =>
    rw [q] at e
    have e : ns[j]? = some n := e
    show (ns.map V.int)[j]? = _
    rw [List.getElem?_map, e]
    rfl
theorem rv_ixxL {i : Int} (e : atI l i = some d) : RvD K (rIx K) (.lst l) (.int i) d := fun H T vx vy Q s h1 h2 q => .inl (rv_ixL e H T vx vy Q s h1 h2 q)
theorem rv_ixxT {i : Int} (e : atI l i = some d) : RvD K (rIx K) (.tup l) (.int i) d := fun H T vx vy Q s h1 h2 q => .inr (.inl (rv_ixT e H T vx vy Q s h1 h2 q))
theorem rv_ixxC {ns : List Int} {i n : Int} (e : atI ns i = some n) : RvD K (rIx K) (.scr ns) (.int i) (.int n) := fun H T vx vy Q s h1 h2 q => .inl (rv_ixC e H T vx vy Q s h1 h2 q)
/-- an open list's item -/
theorem ev_ixO {i : Nat} {k : Int} (e : ρ[i]? = some (.ow l)) (hb : EvD K tb ρ (.int k)) (ha : atI l k = some d) : EvD K (tOp (rIx K) (tVar i) tb) ρ d := fun M T0 H T σ X Q h q => by
  obtain ⟨p, vs, h1, h2, h4, _⟩ := h.own e
  refine ⟨.ref p, h1, hb M T0 H T σ X _ h fun w H2 T2 s2 t2 e2 i2 => ?_⟩
  obtain ⟨p', vs', g1, g2, g4, _⟩ := e2.own e
  rw [h1] at g1
  cases g1
  obtain ⟨v, e3, e4⟩ := atI_is g4 ha
  exact .inl ⟨p, vs', k, v, rfl, i2, .inl (.inl g2), e3, q v H2 T2 s2 t2 e2 e4⟩
/-- len -/
abbrev rLen (K : PySem.W.Frag) : List V → Hp → VK → Prop := fun xs H Q => ∃ p ys, xs = [.ref p] ∧ (SqL K H p ys ∨ SqT K H p ys) ∧ Q (.int ys.length) H
theorem isL_one {H : Hp} {vs : List V} (h : IsL K H [d] vs) : ∃ v, vs = [v] ∧ Is K H d v := by
  obtain ⟨v, r, e, h1, h2⟩ := h
  rw [e, show r = [] from h2]
  exact ⟨v, rfl, h1⟩
theorem isL_two {H : Hp} {vs : List V} {d' : D} (h : IsL K H [d, d'] vs) : ∃ v w, vs = [v, w] ∧ Is K H d v ∧ Is K H d' w := by
  obtain ⟨v, r, e, h1, h2⟩ := h
  obtain ⟨w, e2, h3⟩ := isL_one h2
  rw [e, e2]
  exact ⟨v, w, rfl, h1, h3⟩
theorem rc_lenL : RcD K (rLen K) [.lst l] (.int (l.length : Int)) := fun H T vs Q s h q => by
  obtain ⟨v, rfl, a, us, rfl, h1, h2⟩ := isL_one h
  exact ⟨a, us, rfl, .inl (.inl (.inl (s _ _ h1))), q _ (by rw [h2.len]; exact (rfl : V.int _ = V.int _))⟩
theorem rc_lenT : RcD K (rLen K) [.tup l] (.int (l.length : Int)) := fun H T vs Q s h q => by
  obtain ⟨v, rfl, a, us, rfl, h1, h2⟩ := isL_one h
  exact ⟨a, us, rfl, .inr (same_t s h1), q _ (by rw [h2.len]; exact (rfl : V.int _ = V.int _))⟩
theorem rc_lenC {ns : List Int} : RcD K (rLen K) [.scr ns] (.int (ns.length : Int)) := fun H T vs Q s h q => by
  obtain ⟨v, rfl, a, rfl, h1⟩ := isL_one h
  exact ⟨a, ns.map V.int, rfl, .inl (s.seq h1), q _ (by rw [List.length_map]; exact (rfl : V.int _ = V.int _))⟩
theorem ev_lenO {i : Nat} (e : ρ[i]? = some (.ow l)) : EvD K (tCB (rLen K) (tCons (tVar i) tNil)) ρ (.int (l.length : Int)) := fun M T0 H T σ X Q h q => by
  obtain ⟨p, vs, h1, h2, h4, _⟩ := h.own e
  exact ⟨.ref p, h1, p, vs, rfl, .inl (.inl (.inl h2)), q _ H T (Same.refl _) (Same.refl _) h (by rw [h4.len]; exact (rfl : V.int _ = V.int _))⟩
theorem rc_int {i : Int} : RcD K (fun xs H Q => (∃ i, xs = [.int i] ∧ Q (.int i) H) ∨ ∃ k, xs = [.bl k] ∧ Q (.int (if k then 1 else 0)) H) [.int i] (.int i) := fun H T vs Q s h q => by
  obtain ⟨v, rfl, hv⟩ := isL_one h
  exact .inl ⟨i, by rw [show v = V.int i from hv], q _ rfl⟩
theorem rc_intB {b : Bool} : RcD K (fun xs H Q => (∃ i, xs = [.int i] ∧ Q (.int i) H) ∨ ∃ k, xs = [.bl k] ∧ Q (.int (if k then 1 else 0)) H) [.bl b] (.int (if b then 1 else 0)) := fun H T vs Q s h q => by
  obtain ⟨v, rfl, hv⟩ := isL_one h
  exact .inr ⟨b, by rw [show v = V.bl b from hv], q _ rfl⟩
theorem rc_abs {i : Int} : RcD K (fun xs H Q => ∃ i, xs = [.int i] ∧ Q (.int (if i < 0 then -i else i)) H) [.int i] (.int (i.natAbs : Int)) := fun H T vs Q s h q => by
  obtain ⟨v, rfl, hv⟩ := isL_one h
  refine ⟨i, by rw [show v = V.int i from hv], q _ ?_⟩
  show V.int _ = V.int _
  congr 1
  split <;> omega
theorem rc_gcd {a b : Int} : RcD K rGcd [.int a, .int b] (.int ((Nat.gcd a.natAbs b.natAbs : Nat) : Int)) := fun H T vs Q s h q => by
  obtain ⟨v, w, rfl, hv, hw⟩ := isL_two h
  exact ⟨a, b, by rw [show v = V.int a from hv, show w = V.int b from hw], q _ rfl⟩
theorem rc_list : RcO K (fun xs H Q => ∃ p ys, xs = [.ref p] ∧ (SqL K H p ys ∨ SqT K H p ys) ∧ ∀ l, H l = none → Q (.ref l) (upd H l (.lst ys))) [.lst l] l := fun H T vs Q s h q => by
  obtain ⟨v, rfl, a, us, rfl, h1, h2⟩ := isL_one h
  exact ⟨a, us, rfl, .inl (.inl (.inl (s _ _ h1))), fun p hp => q p us hp h2⟩
theorem rc_listT : RcO K (fun xs H Q => ∃ p ys, xs = [.ref p] ∧ (SqL K H p ys ∨ SqT K H p ys) ∧ ∀ l, H l = none → Q (.ref l) (upd H l (.lst ys))) [.tup l] l := fun H T vs Q s h q => by
  obtain ⟨v, rfl, a, us, rfl, h1, h2⟩ := isL_one h
  exact ⟨a, us, rfl, .inr (same_t s h1), fun p hp => q p us hp h2⟩
theorem rvo_cat {l' : List D} (hz : l.length + l'.length ≤ 100000) : RvO K rCat (.lst l) (.lst l') (l ++ l') := fun H T vx vy Q s ⟨a, us, e1, h1, h2⟩ ⟨b, ws, e2, h3, h4⟩ q =>
  ⟨a, b, us, ws, e1, e2, s _ _ h1, s _ _ h3, by rw [h2.len, h4.len]; exact Nat.le_trans hz (by decide), fun p hp => q p _ hp (h2.app h4)⟩
theorem rvo_rep {k : Int} (h1 : -(2 ^ 63) ≤ k ∧ k < 2 ^ 63) (hz : l.length * k.toNat ≤ 100000) : RvO K rRep (.lst l) (.int k) (List.replicate k.toNat l).flatten := fun H T vx vy Q s ⟨a, us, e1, g1, g2⟩ g3 q =>
  ⟨a, k, us, e1, g3, s _ _ g1, h1.1, h1.2, by rw [g2.len]; exact Nat.le_trans hz (by decide), fun p hp => q p _ hp (by
    induction k.toNat with
    | zero => exact (rfl : [] = [])
    | succ n ih =>
      rw [List.replicate_succ, List.replicate_succ, List.flatten_cons, List.flatten_cons]
      exact g2.app ih)⟩
end

/-! ### calls of the text's own defs -/
/-- an exception's data: its class, the names and the values of its fields -/
abbrev Exn := Value × List Str × List D
def IsX (K : PySem.W.Frag) (H : Hp) (od : Option Addr) (ns : List Str) (ds : List D) : Prop := (ns = [] ∧ od = none) ∨ ∃ d vs, od = some d ∧ H d = some (.xd (ns.zip vs)) ∧ IsL K H ds vs
/-- what is handed back; T0: the heap at the entry -/
def RetR (K : PySem.W.Frag) (M : Op) (T0 H T : Hp) (v : V) : Sl → Prop
  | .no => False
  | .im d => Is K H d v ∧ Opn H T M
  | .ow l => ∃ p vs, v = .ref p ∧ IsL K H l vs ∧ Opn H T ((p, .lst vs) :: M) ∧ T0 p = none
  | .cl d => ∃ Lc, IsC K H d v Lc ∧ Opn H T (Lc ++ M) ∧ ∀ x ∈ Lc, T0 x.1 = none
/-- a promise over data: what is asked of the arguments, of what comes back (R), of what is raised (Z) -/
abbrev PrD := List D → (Sl → Prop) → (Exn → Prop) → Prop
def spD (K : PySem.W.Frag) (P : PrD) : Sp := fun vs T Q E => ∃ (M : Op) (H : Hp) (ds : List D) (R : Sl → Prop) (Z : Exn → Prop), Opn H T M ∧ IsL K H ds vs ∧ P ds R Z ∧
  (∀ s v H' T', R s → Same H H' → Same T T' → RetR K M T H' T' v s → Q v T') ∧ ∀ c ns es od H' T', Z (c, ns, es) → Same H H' → Same T T' → Opn H' T' M → IsX K H' od ns es → E c od T'
section
variable {K : PySem.W.Frag} {ρ : Rho} {x z d : D} {l : List D} {ds : List D} {tr : TA} {P : PrD} {E : XK} {M X L : Op} {T0 H H' T T' : Hp} {σ : L2.St} {v : V}
theorem EnX.ret_im (e : EnX K M T0 H T σ ρ X) (r : EnR K H ρ σ L) (f : ∀ x ∈ X ++ L, T0 x.1 = none) (s : Same H H') (t : Same T T') (q : RetR K (X ++ (L ++ M)) T H' T' v (.im d)) : EnX K M T0 H' T' σ ρ X ∧ Is K H' d v :=
  ⟨⟨⟨L, r.up s, q.2, f⟩, e.t0.trans t⟩, q.1⟩
theorem EnX.ret_ow (e : EnX K M T0 H T σ ρ X) (r : EnR K H ρ σ L) (f : ∀ x ∈ X ++ L, T0 x.1 = none) (s : Same H H') (t : Same T T') (q : RetR K (X ++ (L ++ M)) T H' T' v (.ow l)) : ∃ p vs, v = .ref p ∧ EnX K M T0 H' T' σ ρ ((p, .lst vs) :: X) ∧ IsL K H' l vs := by
  obtain ⟨p, vs, rfl, h1, h2, h3⟩ := q
  refine ⟨p, vs, rfl, ⟨⟨L, r.up s, h2, fun x hx => ?_⟩, e.t0.trans t⟩, h1⟩
  rcases List.mem_cons.mp hx with rfl | hx
  · exact e.t0.free h3
  · exact f x hx
theorem EnX.ret_cl (e : EnX K M T0 H T σ ρ X) (r : EnR K H ρ σ L) (f : ∀ x ∈ X ++ L, T0 x.1 = none) (s : Same H H') (t : Same T T') (q : RetR K (X ++ (L ++ M)) T H' T' v (.cl d)) : ∃ Lc, EnX K M T0 H' T' σ ρ (Lc ++ X) ∧ IsC K H' d v Lc := by
  obtain ⟨Lc, h1, h2, h3⟩ := q
  refine ⟨Lc, ⟨⟨L, r.up s, by rw [List.append_assoc]; exact h2, fun x hx => ?_⟩, e.t0.trans t⟩, h1⟩
  rw [List.append_assoc] at hx
  rcases List.mem_append.mp hx with hx | hx
  · exact e.t0.free (h3 x hx)
  · exact f x hx
theorem ev_call (ha : EvA K tr ρ ds) (hp : P ds (fun s => s = .im z) (fun _ => False)) : EvD K (tCall (spD K P) [] E tr) ρ z := fun M T0 H T σ X Q e q =>
  ha M T0 H T σ X _ e fun vs H1 T1 s1 t1 e1 i1 => by
    obtain ⟨L, r, o, f⟩ := e1.ex
    show spD K P (vs ++ []) T1 Q E
    rw [List.append_nil]
    refine ⟨_, H1, ds, _, _, o, i1, hp, fun s v H' T' hs s' t' hr => ?_, fun _ _ _ _ _ _ h => h.elim⟩
    subst hs
    obtain ⟨e2, iz⟩ := e1.ret_im r f s' t' hr
    exact q v H' T' (s1.trans s') (t1.trans t') e2 iz
theorem ev_callO (ha : EvA K tr ρ ds) (hp : P ds (fun s => s = .ow l) (fun _ => False)) : EvO K (tCall (spD K P) [] E tr) ρ l := fun M T0 H T σ X Q e q =>
  ha M T0 H T σ X _ e fun vs H1 T1 s1 t1 e1 i1 => by
    obtain ⟨L, r, o, f⟩ := e1.ex
    show spD K P (vs ++ []) T1 Q E
    rw [List.append_nil]
    refine ⟨_, H1, ds, _, _, o, i1, hp, fun s v H' T' hs s' t' hr => ?_, fun _ _ _ _ _ _ h => h.elim⟩
    subst hs
    obtain ⟨p, us, rfl, e2, iz⟩ := e1.ret_ow r f s' t' hr
    exact q p us H' T' (s1.trans s') (t1.trans t') e2 iz
end

/-! calls that may raise; what raises -/
section
variable {K : PySem.W.Frag} {ρ : Rho} {x z d : D} {l : List D} {ds : List D} {tr : TA} {P : PrD} {W : L2.WX}
theorem ev_callS (ha : EvA K tr ρ ds) (hp : P ds (fun s => s = .im z) (fun _ => False)) : EvD K (tCallS (spD K P) (WE W) tr) ρ z := fun M T0 H T σ X Q e q =>
  ha M T0 H T σ X _ e fun vs H1 T1 s1 t1 e1 i1 => by
    obtain ⟨L, r, o, f⟩ := e1.ex
    refine ⟨_, H1, ds, _, _, o, i1, hp, fun s v H' T' hs s' t' hr => ?_, fun _ _ _ _ _ _ h => h.elim⟩
    subst hs
    obtain ⟨e2, iz⟩ := e1.ret_im r f s' t' hr
    exact q v H' T' (s1.trans s') (t1.trans t') e2 iz
theorem ev_callSO (ha : EvA K tr ρ ds) (hp : P ds (fun s => s = .ow l) (fun _ => False)) : EvO K (tCallS (spD K P) (WE W) tr) ρ l := fun M T0 H T σ X Q e q =>
  ha M T0 H T σ X _ e fun vs H1 T1 s1 t1 e1 i1 => by
    obtain ⟨L, r, o, f⟩ := e1.ex
    refine ⟨_, H1, ds, _, _, o, i1, hp, fun s v H' T' hs s' t' hr => ?_, fun _ _ _ _ _ _ h => h.elim⟩
    subst hs
    obtain ⟨p, us, rfl, e2, iz⟩ := e1.ret_ow r f s' t' hr
    exact q p us H' T' (s1.trans s') (t1.trans t') e2 iz
/-- te raises z -/
def EvZ (K : PySem.W.Frag) (W : L2.WX) (te : TE) (ρ : Rho) (z : Exn) : Prop := ∀ (M : Op) (T0 H T : Hp) (σ : L2.St) (X : Op) (Q : VK), EnX K M T0 H T σ ρ X → (∀ od H' T', Same H H' → Same T T' → EnX K M T0 H' T' σ ρ X → IsX K H' od z.2.1 z.2.2 → W z.1 od σ T') → te σ T Q
def EvZA (K : PySem.W.Frag) (W : L2.WX) (ta : TA) (ρ : Rho) (z : Exn) : Prop := ∀ (M : Op) (T0 H T : Hp) (σ : L2.St) (X : Op) (Q : List V → Hp → Prop), EnX K M T0 H T σ ρ X → (∀ od H' T', Same H H' → Same T T' → EnX K M T0 H' T' σ ρ X → IsX K H' od z.2.1 z.2.2 → W z.1 od σ T') → ta σ T Q
theorem ez_call {z : Exn} (ha : EvA K tr ρ ds) (hp : P ds (fun _ => False) (fun z' => z' = z)) : EvZ K W (tCallS (spD K P) (WE W) tr) ρ z := fun M T0 H T σ X Q e q =>
  ha M T0 H T σ X _ e fun vs H1 T1 s1 t1 e1 i1 => by
    obtain ⟨L, r, o, f⟩ := e1.ex
    refine ⟨_, H1, ds, _, _, o, i1, hp, fun _ _ _ _ h => h.elim, fun c ns es od H' T' hz s' t' o' hx => ?_⟩
    subst hz
    exact q od H' T' (s1.trans s') (t1.trans t') ⟨⟨L, r.up s', o', f⟩, e1.t0.trans t'⟩ hx
theorem ez_args {z : Exn} {sp : Sp} {E : L2.St → XK} (ha : EvZA K W tr ρ z) : EvZ K W (tCallS sp E tr) ρ z := fun M T0 H T σ X Q e q => ha M T0 H T σ X _ e q
theorem eza_here {z : Exn} {ta : TE} (h : EvZ K W ta ρ z) : EvZA K W (tCons ta tr) ρ z := fun M T0 H T σ X Q e q => h M T0 H T σ X _ e q
theorem eza_next {z : Exn} {ta : TE} (ha : EvD K ta ρ x) (h : EvZA K W tr ρ z) : EvZA K W (tCons ta tr) ρ z := fun M T0 H T σ X Q e q =>
  ha M T0 H T σ X _ e fun v H1 T1 s1 t1 e1 i1 => h M T0 H1 T1 σ X _ e1 fun od H' T' s' t' e' hx => q od H' T' (s1.trans s') (t1.trans t') e' hx
theorem ez_lst {z : Exn} (ha : EvZA K W tr ρ z) : EvZ K W (tLst tr) ρ z := fun M T0 H T σ X Q e q => ha M T0 H T σ X _ e q
theorem ez_tup {z : Exn} (ha : EvZA K W tr ρ z) : EvZ K W (tTup tr) ρ z := fun M T0 H T σ X Q e q => ha M T0 H T σ X _ e q
theorem ez_cb {z : Exn} {r : List V → Hp → VK → Prop} (ha : EvZA K W tr ρ z) : EvZ K W (tCB r tr) ρ z := fun M T0 H T σ X Q e q => ha M T0 H T σ X _ e q
theorem ez_op1 {z : Exn} {ta tb : TE} {r : R2} (ha : EvZ K W ta ρ z) : EvZ K W (tOp r ta tb) ρ z := fun M T0 H T σ X Q e q => ha M T0 H T σ X _ e q
theorem ez_op2 {z : Exn} {ta tb : TE} {r : R2} (ha : EvD K ta ρ x) (h : EvZ K W tb ρ z) : EvZ K W (tOp r ta tb) ρ z := fun M T0 H T σ X Q e q =>
  ha M T0 H T σ X _ e fun v H1 T1 s1 t1 e1 i1 => h M T0 H1 T1 σ X _ e1 fun od H' T' s' t' e' hx => q od H' T' (s1.trans s') (t1.trans t') e' hx
end

/-! ### closed results, and what is read now (no matter who owns it) -/
section
variable (K : PySem.W.Frag)
def EvC (te : TE) (ρ : Rho) (d : D) : Prop := ∀ (M : Op) (T0 H T : Hp) (σ : L2.St) (X : Op) (Q : VK), EnX K M T0 H T σ ρ X → (∀ v Lc H' T', Same H H' → Same T T' → EnX K M T0 H' T' σ ρ (Lc ++ X) → IsC K H' d v Lc → Q v T') → te σ T Q
def EvCA (ta : TA) (ρ : Rho) (ds : List D) : Prop := ∀ (M : Op) (T0 H T : Hp) (σ : L2.St) (X : Op) (Q : List V → Hp → Prop), EnX K M T0 H T σ ρ X → (∀ vs Lc H' T', Same H H' → Same T T' → EnX K M T0 H' T' σ ρ (Lc ++ X) → IsCL K H' ds vs Lc → Q vs T') → ta σ T Q
def EvN (te : TE) (ρ : Rho) (d : D) : Prop := ∀ (M : Op) (T0 H T : Hp) (σ : L2.St) (X : Op) (Q : VK), EnX K M T0 H T σ ρ X → (∀ v H' T', Same H H' → Same T T' → EnX K M T0 H' T' σ ρ X → Is K T' d v → Q v T') → te σ T Q
def EvNA (ta : TA) (ρ : Rho) (ds : List D) : Prop := ∀ (M : Op) (T0 H T : Hp) (σ : L2.St) (X : Op) (Q : List V → Hp → Prop), EnX K M T0 H T σ ρ X → (∀ vs H' T', Same H H' → Same T T' → EnX K M T0 H' T' σ ρ X → IsL K T' ds vs → Q vs T') → ta σ T Q
end
section
variable {K : PySem.W.Frag} {ρ : Rho} {x y z d : D} {l : List D} {ds : List D} {te ta tb : TE} {tr : TA} {P : PrD} {E : XK} {r : R2} {i : Nat}
theorem ec_sc (h : EvD K te ρ d) (hs : d.sc = true) : EvC K te ρ d := fun M T0 H T σ X Q e q =>
  h M T0 H T σ X _ e fun v H1 T1 s1 t1 e1 i1 => q v [] H1 T1 s1 t1 e1 (i1.sc hs)
theorem ec_ow (h : EvO K te ρ l) (hs : ∀ d ∈ l, d.sc = true) : EvC K te ρ (.lst l) := fun M T0 H T σ X Q e q =>
  h M T0 H T σ X _ e fun p vs H1 T1 s1 t1 e1 i1 => q (.ref p) [(p, .lst vs)] H1 T1 s1 t1 e1 ⟨p, vs, [], rfl, rfl, i1.sc hs⟩
/-- known already -/
theorem ec_kn (h : EvD K te ρ d) : EvC K te ρ (.kn d) := fun M T0 H T σ X Q e q => h M T0 H T σ X _ e fun v H1 T1 s1 t1 e1 i1 => q v [] H1 T1 s1 t1 e1 ⟨i1, rfl⟩
theorem ec_is (h : EvC K te ρ x) (e : x = y) : EvC K te ρ y := e ▸ h
/-- known from now on -/
theorem ec_fz (h : EvC K te ρ d) : EvD K te ρ d := fun M T0 H T σ X Q e q =>
  h M T0 H T σ X _ e fun v Lc H1 T1 s1 t1 e1 i1 => by
    obtain ⟨H2, s2, e2, h2⟩ := e1.closeAll
    exact q v H2 T1 (s1.trans s2) t1 e2 (IsC.is d v Lc (i1.up s2) h2)
theorem eca_nil : EvCA K tNil ρ [] := fun M T0 H T σ X Q e q => q [] [] H T (Same.refl _) (Same.refl _) e ⟨rfl, rfl⟩
theorem eca_cons (ha : EvC K ta ρ x) (hr : EvCA K tr ρ ds) : EvCA K (tCons ta tr) ρ (x :: ds) := fun M T0 H T σ X Q e q =>
  ha M T0 H T σ X _ e fun v L1 H1 T1 s1 t1 e1 i1 => hr M T0 H1 T1 σ _ _ e1 fun vs L2 H2 T2 s2 t2 e2 i2 => q (v :: vs) (L1 ++ L2) H2 T2 (s1.trans s2) (t1.trans t2) (e2.perm (by
    rw [← List.append_assoc]
    exact List.perm_append_comm.append_right _)) (IsCL.cons (i1.up s2) i2)
theorem ec_tup (ha : EvCA K tr ρ ds) (hl : ds.length ≤ 1000) : EvC K (tTup tr) ρ (.tup ds) := fun M T0 H T σ X Q e q =>
  ha M T0 H T σ X _ e fun vs L H1 T1 s1 t1 e1 i1 => ⟨by rw [i1.len]; exact Nat.le_trans hl (by decide), fun p hp => q (.ref p) ((p, .tup vs) :: L) H1 _ s1 (t1.trans (same_new hp)) (e1.opened hp) ⟨p, vs, L, rfl, rfl, i1⟩⟩
theorem ec_lst (ha : EvCA K tr ρ ds) (hl : ds.length ≤ 1000) : EvC K (tLst tr) ρ (.lst ds) := fun M T0 H T σ X Q e q =>
  ha M T0 H T σ X _ e fun vs L H1 T1 s1 t1 e1 i1 => ⟨by rw [i1.len]; exact Nat.le_trans hl (by decide), fun p hp => q (.ref p) ((p, .lst vs) :: L) H1 _ s1 (t1.trans (same_new hp)) (e1.opened hp) ⟨p, vs, L, rfl, rfl, i1⟩⟩
theorem ec_call (ha : EvA K tr ρ ds) (hp : P ds (fun s => s = .cl z) (fun _ => False)) : EvC K (tCall (spD K P) [] E tr) ρ z := fun M T0 H T σ X Q e q =>
  ha M T0 H T σ X _ e fun vs H1 T1 s1 t1 e1 i1 => by
    obtain ⟨L, r, o, f⟩ := e1.ex
    show spD K P (vs ++ []) T1 Q E
    rw [List.append_nil]
    refine ⟨_, H1, ds, _, _, o, i1, hp, fun s v H' T' hs s' t' hr => ?_, fun _ _ _ _ _ _ h => h.elim⟩
    subst hs
    obtain ⟨Lc, e2, iz⟩ := e1.ret_cl r f s' t' hr
    exact q v Lc H' T' (s1.trans s') (t1.trans t') e2 iz
theorem ec_callS {W : L2.WX} (ha : EvA K tr ρ ds) (hp : P ds (fun s => s = .cl z) (fun _ => False)) : EvC K (tCallS (spD K P) (WE W) tr) ρ z := fun M T0 H T σ X Q e q =>
  ha M T0 H T σ X _ e fun vs H1 T1 s1 t1 e1 i1 => by
    obtain ⟨L, r, o, f⟩ := e1.ex
    refine ⟨_, H1, ds, _, _, o, i1, hp, fun s v H' T' hs s' t' hr => ?_, fun _ _ _ _ _ _ h => h.elim⟩
    subst hs
    obtain ⟨Lc, e2, iz⟩ := e1.ret_cl r f s' t' hr
    exact q v Lc H' T' (s1.trans s') (t1.trans t') e2 iz
/-! now -/
theorem en_d (h : EvD K te ρ d) : EvN K te ρ d := fun M T0 H T σ X Q e q => h M T0 H T σ X _ e fun v H1 T1 s1 t1 e1 i1 => q v H1 T1 s1 t1 e1 (i1.up e1.same)
theorem EnX.get_cl {M X : Op} {T0 H T : Hp} {σ : L2.St} (h : EnX K M T0 H T σ ρ X) (e : ρ[i]? = some (.cl d)) : ∃ v, σ[i]? = some (some v) ∧ Is K T d v := by
  obtain ⟨x, Ls, h1, h2, h3⟩ := h.take e
  obtain ⟨v, rfl, hc⟩ := h2.cl1
  refine ⟨v, h1, IsC.is d v Ls (hc.up h3.same) fun x hx => ?_⟩
  obtain ⟨L, r, q, f⟩ := h3.ex
  exact q.at_ x (List.mem_append_left _ (List.mem_append_left _ hx))
theorem en_cl (e : ρ[i]? = some (.cl d)) : EvN K (tVar i) ρ d := fun M T0 H T σ X Q en q => by
  obtain ⟨v, h1, h2⟩ := en.get_cl e
  exact ⟨v, h1, q v H T (Same.refl _) (Same.refl _) en h2⟩
theorem en_ow (e : ρ[i]? = some (.ow l)) : EvN K (tVar i) ρ (.lst l) := fun M T0 H T σ X Q en q => by
  obtain ⟨p, vs, h1, h2, h3, _⟩ := en.own e
  exact ⟨.ref p, h1, q _ H T (Same.refl _) (Same.refl _) en ⟨p, vs, rfl, h2, h3.up en.same⟩⟩
theorem en_op (ha : EvN K ta ρ x) (hb : EvN K tb ρ y) (hr : RvD K r x y z) : EvN K (tOp r ta tb) ρ z := fun M T0 H T σ X Q e q =>
  ha M T0 H T σ X _ e fun v H1 T1 s1 t1 e1 i1 => hb M T0 H1 T1 σ X _ e1 fun w H2 T2 s2 t2 e2 i2 => hr T2 T2 v w Q (Same.refl _) (i1.up t2) i2 fun u iu => q u H2 T2 (s1.trans s2) (t1.trans t2) e2 iu
theorem en_cb {r : List V → Hp → VK → Prop} (ha : EvNA K tr ρ ds) (hr : RcD K r ds z) : EvN K (tCB r tr) ρ z := fun M T0 H T σ X Q e q =>
  ha M T0 H T σ X _ e fun vs H1 T1 s1 t1 e1 i1 => hr T1 T1 vs Q (Same.refl _) i1 fun u iu => q u H1 T1 s1 t1 e1 iu
/-- a number, a text .. read now is one for ever -/
theorem ev_now (h : EvN K te ρ d) (hs : d.sc = true) : EvD K te ρ d := fun M T0 H T σ X Q e q => h M T0 H T σ X _ e fun v H1 T1 s1 t1 e1 i1 => q v H1 T1 s1 t1 e1 (i1.any hs)
theorem ena_nil : EvNA K tNil ρ [] := fun M T0 H T σ X Q e q => q [] H T (Same.refl _) (Same.refl _) e rfl
theorem ena_cons (ha : EvN K ta ρ x) (hr : EvNA K tr ρ ds) : EvNA K (tCons ta tr) ρ (x :: ds) := fun M T0 H T σ X Q e q =>
  ha M T0 H T σ X _ e fun v H1 T1 s1 t1 e1 i1 => hr M T0 H1 T1 σ X _ e1 fun vs H2 T2 s2 t2 e2 i2 => q (v :: vs) H2 T2 (s1.trans s2) (t1.trans t2) e2 (.cons (i1.up t2) i2)
theorem Opn.all {T : Hp} : Opn T T [] := ⟨Same.refl _, fun _ h => (nomatch h), fun _ h => (nomatch h), List.nodup_nil⟩
/-- after a call to which all was lent -/
theorem EnX.lent {M X : Op} {T0 H T T' : Hp} {σ : L2.St} (e : EnX K M T0 H T σ ρ X) (t : Same T T') : EnX K M T0 H T' σ ρ X := by
  obtain ⟨L, r, o, f⟩ := e.ex
  exact ⟨⟨L, r, ⟨o.same.trans t, o.free, fun x hx => t _ _ (o.at_ x hx), o.nd⟩, f⟩, e.t0.trans t⟩
theorem EnX.lentC {M X Lc : Op} {T0 H T T' H' : Hp} {σ : L2.St} (e : EnX K M T0 H T σ ρ X) (t : Same T T') (s : Same T H') (o' : Opn H' T' (Lc ++ [])) (f' : ∀ x ∈ Lc, T x.1 = none) : EnX K M T0 H T' σ ρ (Lc ++ X) := by
  rw [List.append_nil] at o'
  obtain ⟨L, r, o, f⟩ := e.ex
  refine ⟨⟨L, r, ⟨o.same.trans t, fun x hx => ?_, fun x hx => ?_, ?_⟩, fun x hx => ?_⟩, e.t0.trans t⟩
  · rw [List.append_assoc] at hx
    rcases List.mem_append.mp hx with hx | hx
    · exact o.same.free (f' x hx)
    · exact o.free x hx
  · rw [List.append_assoc] at hx
    rcases List.mem_append.mp hx with hx | hx
    · exact o'.at_ x hx
    · exact t _ _ (o.at_ x hx)
  · rw [List.append_assoc, List.map_append, List.nodup_append]
    refine ⟨o'.nd, o.nd, fun a ha b hb z => ?_⟩
    obtain ⟨x, hx, ex⟩ := List.mem_map.mp ha
    obtain ⟨y, hy, ey⟩ := List.mem_map.mp hb
    have h1 := f' x hx
    have h2 := o.at_ y hy
    rw [ex, z, ← ey, h2] at h1
    cases h1
  · rw [List.append_assoc] at hx
    rcases List.mem_append.mp hx with hx | hx
    · exact e.t0.free (f' x hx)
    · exact f x hx
/-- a call that may read all there is; it hands back a number, a text .. -/
theorem ev_callN (ha : EvNA K tr ρ ds) (hp : P ds (fun s => s = .im z) (fun _ => False)) (hz : z.sc = true) : EvD K (tCall (spD K P) [] E tr) ρ z := fun M T0 H T σ X Q e q =>
  ha M T0 H T σ X _ e fun vs H1 T1 s1 t1 e1 i1 => by
    show spD K P (vs ++ []) T1 Q E
    rw [List.append_nil]
    refine ⟨[], T1, ds, _, _, Opn.all, i1, hp, fun s v H' T' hs s' t' hr => ?_, fun _ _ _ _ _ _ h => h.elim⟩
    subst hs
    exact q v H1 T' s1 (t1.trans t') (e1.lent t') (hr.1.any hz)
/-- a call that may read all there is; it hands back something closed -/
theorem ec_callN (ha : EvNA K tr ρ ds) (hp : P ds (fun s => s = .cl z) (fun _ => False)) (hk : z.kf = true) : EvC K (tCall (spD K P) [] E tr) ρ z := fun M T0 H T σ X Q e q =>
  ha M T0 H T σ X _ e fun vs H1 T1 s1 t1 e1 i1 => by
    show spD K P (vs ++ []) T1 Q E
    rw [List.append_nil]
    refine ⟨[], T1, ds, _, _, Opn.all, i1, hp, fun s v H' T' hs s' t' hr => ?_, fun _ _ _ _ _ _ h => h.elim⟩
    subst hs
    obtain ⟨Lc, h1, h2, h3⟩ := hr
    exact q v Lc H1 T' s1 (t1.trans t') (e1.lentC t' s' h2 h3) (IsC.any z v Lc hk h1)
theorem ec_cbN {r : List V → Hp → VK → Prop} (ha : EvNA K tr ρ ds) (hr : RcO K r ds l) (hs : ∀ d ∈ l, d.sc = true) : EvC K (tCB r tr) ρ (.lst l) := fun M T0 H T σ X Q e q =>
  ha M T0 H T σ X _ e fun vs H1 T1 s1 t1 e1 i1 => hr T1 T1 vs Q (Same.refl _) i1 fun p us hp iu => q (.ref p) [(p, .lst us)] H1 _ s1 (t1.trans (same_new hp)) (e1.opened hp) ⟨p, us, [], rfl, rfl, IsCL.any l us [] (D.kfL_of fun d hd => D.sc_kf (hs d hd)) (iu.sc hs)⟩
end
end FS
set_option Elab.async false
set_option linter.all false
set_option maxRecDepth 100000
set_option maxHeartbeats 4000000
namespace FS
open PySem PySem.Spec PyProof.Rows L2

/-! ### statements -/
structure Pst where
  nx : Rho → Prop
  rt : Sl → Prop := fun _ => False
  bk : Rho → Prop := fun _ => False
  ct : Rho → Prop := fun _ => False
  ex : Rho → Exn → Prop := fun _ _ => False
structure Lk (K : PySem.W.Frag) (M : Op) (E : L2.WX) (T0 H : Hp) (P : Pst) (Dn : Ends) : Prop where
  nx : ∀ ρ' σ' H' T', P.nx ρ' → Same H H' → En K M T0 H' T' σ' ρ' → Dn.nx σ' T'
  rt : ∀ s v H' T', P.rt s → Same H H' → Same T0 T' → RetR K M T0 H' T' v s → Dn.rt v T'
  bk : ∀ ρ' σ' H' T', P.bk ρ' → Same H H' → En K M T0 H' T' σ' ρ' → Dn.bk σ' T'
  ct : ∀ ρ' σ' H' T', P.ct ρ' → Same H H' → En K M T0 H' T' σ' ρ' → Dn.ct σ' T'
  ex : ∀ ρ' σ' c ns es od H' T', P.ex ρ' (c, ns, es) → Same H H' → En K M T0 H' T' σ' ρ' → IsX K H' od ns es → E c od σ' T'
/-- from ρ on, the code ends as P says -/
def Ws (K : PySem.W.Frag) (E : L2.WX) (ts : TS) (ρ : Rho) (P : Pst) : Prop := ∀ (M : Op) (T0 H T : Hp) (σ : L2.St) (Dn : Ends), En K M T0 H T σ ρ → Lk K M E T0 H P Dn → ts Dn σ T

section
variable {K : PySem.W.Frag} {E : L2.WX} {ρ : Rho} {P : Pst} {M X : Op} {T0 H H' T T' : Hp} {σ : L2.St} {Dn : Ends} {te ta tb : TE} {t u : TS} {tt : TT} {d x y : D} {l : List D} {ds : List D} {tr : TA} {g : TG} {i : Nat}
theorem Lk.up (k : Lk K M E T0 H P Dn) (s : Same H H') : Lk K M E T0 H' P Dn :=
  ⟨fun ρ' σ' H2 T' p s' e => k.nx ρ' σ' H2 T' p (s.trans s') e, fun v w H2 T' p s' t' e => k.rt v w H2 T' p (s.trans s') t' e, fun ρ' σ' H2 T' p s' e => k.bk ρ' σ' H2 T' p (s.trans s') e, fun ρ' σ' H2 T' p s' e => k.ct ρ' σ' H2 T' p (s.trans s') e,
    fun ρ' σ' c ns es od H2 T' p s' e => k.ex ρ' σ' c ns es od H2 T' p (s.trans s') e⟩
theorem ws_seq (h : Ws K E t ρ { P with nx := fun ρ' => Ws K E u ρ' P }) : Ws K E (tSeq t u) ρ P := fun M T0 H T σ Dn e k =>
  h M T0 H T σ { Dn with nx := u Dn } e ⟨fun ρ' σ' H' T' p s e' => p M T0 H' T' σ' Dn e' (k.up s), k.rt, k.bk, k.ct, k.ex⟩
theorem ws_mono {P' : Pst} (h : Ws K E t ρ P) (h1 : ∀ ρ', P.nx ρ' → P'.nx ρ') (h2 : ∀ s, P.rt s → P'.rt s) (h3 : ∀ ρ', P.bk ρ' → P'.bk ρ') (h4 : ∀ ρ', P.ct ρ' → P'.ct ρ') (h5 : ∀ ρ' z, P.ex ρ' z → P'.ex ρ' z) : Ws K E t ρ P' := fun M T0 H T σ Dn e k =>
  h M T0 H T σ Dn e ⟨fun ρ' σ' H' T' p => k.nx ρ' σ' H' T' (h1 ρ' p), fun s v H' T' p => k.rt s v H' T' (h2 s p), fun ρ' σ' H' T' p => k.bk ρ' σ' H' T' (h3 ρ' p), fun ρ' σ' H' T' p => k.ct ρ' σ' H' T' (h4 ρ' p), fun ρ' σ' c ns es od H' T' p => k.ex ρ' σ' c ns es od H' T' (h5 _ _ p)⟩
theorem ws_next (h : P.nx ρ) : Ws K E tNext ρ P := fun M T0 H T σ Dn e k => k.nx ρ σ H T h (Same.refl _) e
theorem ws_break (h : P.bk ρ) : Ws K E tBreak ρ P := fun M T0 H T σ Dn e k => k.bk ρ σ H T h (Same.refl _) e
theorem ws_cont (h : P.ct ρ) : Ws K E tCont ρ P := fun M T0 H T σ Dn e k => k.ct ρ σ H T h (Same.refl _) e
theorem ws_asg (hv : EvD K te ρ d) (h : P.nx (ρ.set i (.im d))) : Ws K E (tAsg te (gName i)) ρ P := fun M T0 H T σ Dn e k =>
  hv M T0 H T σ [] _ e fun v H' T' s t' e' iv => k.nx _ _ H' T' h s (e'.set iv)
theorem ws_asgO (hv : EvO K te ρ l) (hi : i < ρ.length) (h : P.nx (ρ.set i (.ow l))) : Ws K E (tAsg te (gName i)) ρ P := fun M T0 H T σ Dn e k =>
  hv M T0 H T σ [] _ e fun p vs H' T' s t' e' iv => k.nx _ _ H' T' h s (EnX.setO e' hi iv)
theorem ws_asgC (hv : EvC K te ρ d) (hi : i < ρ.length) (h : P.nx (ρ.set i (.cl d))) : Ws K E (tAsg te (gName i)) ρ P := fun M T0 H T σ Dn e k =>
  hv M T0 H T σ [] _ e fun v Lc H' T' s t' e' iv => k.nx _ _ H' T' h s (EnX.setC e' hi iv)
theorem ws_drop (hv : EvD K te ρ d) (h : P.nx ρ) : Ws K E (tDrop te) ρ P := fun M T0 H T σ Dn e k =>
  hv M T0 H T σ [] _ e fun v H' T' s t' e' iv => k.nx _ _ H' T' h s e'
theorem ws_ret (hv : EvD K te ρ d) (h : P.rt (.im d)) : Ws K E (tRet te) ρ P := fun M T0 H T σ Dn e k =>
  hv M T0 H T σ [] _ e fun v H' T' s t' e' iv => k.rt (.im d) v H' T' h s e'.t0 ⟨iv, e'.frame⟩
theorem EnX.give (e : EnX K M T0 H T σ ρ (X ++ [])) : Opn H T (X ++ M) ∧ ∀ x ∈ X, T0 x.1 = none := by
  rw [List.append_nil] at e
  obtain ⟨L, r, q, f⟩ := e.ex
  exact ⟨q.sub ((List.Sublist.refl X).append (List.sublist_append_right L M)), fun x hx => f x (List.mem_append_left _ hx)⟩
theorem ws_retO (hv : EvO K te ρ l) (h : P.rt (.ow l)) : Ws K E (tRet te) ρ P := fun M T0 H T σ Dn e k =>
  hv M T0 H T σ [] _ e fun p vs H' T' s t' e' iv => k.rt (.ow l) (.ref p) H' T' h s e'.t0 ⟨p, vs, rfl, iv, (EnX.give (X := [(p, .lst vs)]) e').1, (EnX.give (X := [(p, .lst vs)]) e').2 _ List.mem_cons_self⟩
theorem ws_retC (hv : EvC K te ρ d) (h : P.rt (.cl d)) : Ws K E (tRet te) ρ P := fun M T0 H T σ Dn e k =>
  hv M T0 H T σ [] _ e fun v Lc H' T' s t' e' iv => k.rt (.cl d) v H' T' h s e'.t0 ⟨Lc, iv, (EnX.give e').1, (EnX.give e').2⟩
/-- return x, x an open list, a closed tree -/
theorem ws_retV (e : ρ[i]? = some (.ow l)) (h : P.rt (.ow l)) : Ws K E (tRet (tVar i)) ρ P := fun M T0 H T σ Dn en k => by
  obtain ⟨p, vs, h1, h2, h4, h5, h6, h7⟩ := en.own e
  exact ⟨.ref p, h1, k.rt (.ow l) (.ref p) H T h (Same.refl _) en.t0 ⟨p, vs, rfl, h4, (EnX.give (X := [(p, .lst vs)]) h7).1, (EnX.give (X := [(p, .lst vs)]) h7).2 _ List.mem_cons_self⟩⟩
theorem ws_retVc (e : ρ[i]? = some (.cl d)) (h : P.rt (.cl d)) : Ws K E (tRet (tVar i)) ρ P := fun M T0 H T σ Dn en k => by
  obtain ⟨x, Ls, h1, h2, h3⟩ := en.take e
  obtain ⟨v, rfl, hc⟩ := h2.cl1
  exact ⟨v, h1, k.rt (.cl d) v H T h (Same.refl _) en.t0 ⟨Ls, hc, (EnX.give h3).1, (EnX.give h3).2⟩⟩
theorem ws_retN (h : P.rt (.im .non)) : Ws K E tRetN ρ P := fun M T0 H T σ Dn e k => k.rt (.im .non) .non H T h (Same.refl _) e.t0 ⟨rfl, e.frame⟩
theorem ws_if {b : Bool} (hc : EvT K tt ρ b) (h1 : b = true → Ws K E t ρ P) (h2 : b = false → Ws K E u ρ P) : Ws K E (tIfS tt t u) ρ P := fun M T0 H T σ Dn e k =>
  hc M T0 H T σ [] _ e fun H' T' s t' e' => by
    cases b with
    | true =>
      show t Dn σ T'
      exact h1 rfl M T0 H' T' σ Dn e' (k.up s)
    | false =>
      show u Dn σ T'
      exact h2 rfl M T0 H' T' σ Dn e' (k.up s)
/-- the open list at slot i is known from now on -/
theorem ws_fz (e : ρ[i]? = some (.ow l)) (h : Ws K E t (ρ.set i (.im (.lst l))) P) : Ws K E t ρ P := fun M T0 H T σ Dn en k => by
  obtain ⟨p, vs, h1, h2, h4, h5, ⟨s, h6⟩, h7⟩ := en.own e
  exact h M T0 _ T σ Dn h6 (k.up s)
theorem ws_fzC (e : ρ[i]? = some (.cl d)) (h : Ws K E t (ρ.set i (.im d)) P) : Ws K E t ρ P := fun M T0 H T σ Dn en k => by
  obtain ⟨x, Ls, h1, h2, h3⟩ := en.take e
  obtain ⟨v, rfl, hc⟩ := h2.cl1
  obtain ⟨H2, s2, e2, h4⟩ := h3.closeAll
  have e3 := e2.set (i := i) (IsC.is (K := K) d v Ls (hc.up s2) h4)
  rw [set_self h1, List.set_set] at e3
  exact h M T0 H2 T σ Dn e3 (k.up s2)
/-- an open list of numbers is a closed tree -/
theorem ws_owcl (e : ρ[i]? = some (.ow l)) (hs : ∀ d ∈ l, d.sc = true) (h : Ws K E t (ρ.set i (.cl (.lst l))) P) : Ws K E t ρ P := fun M T0 H T σ Dn en k => by
  obtain ⟨x, Ls, h1, h2, h3⟩ := en.take e
  obtain ⟨p, vs, rfl, rfl, hl⟩ := h2.ow1
  have hi : i < (ρ.set i .no).length := by rw [List.length_set]; exact (List.getElem?_eq_some_iff.mp e).1
  have e3 := EnX.setC (Lc := [(p, .lst vs)]) (d := .lst l) (v := .ref p) h3 hi ⟨p, vs, [], rfl, rfl, hl.sc hs⟩
  rw [set_self h1, List.set_set] at e3
  exact h M T0 H T σ Dn e3 k
/-- a slot forgotten -/
theorem ws_forget (hi : i < ρ.length) (h : Ws K E t (ρ.set i .no) P) : Ws K E t ρ P := fun M T0 H T σ Dn en k => by
  obtain ⟨x, hx⟩ := get_some (l := σ) (i := i) (by rw [en.len]; exact hi)
  have e2 := en.drop (i := i) (x := x)
  rw [set_self hx] at e2
  exact h M T0 H T σ Dn e2 k
/-- xs.append(e), xs an open list -/
theorem ws_app (e : ρ[i]? = some (.ow l)) (hv : EvD K te ρ d) (hz : l.length < 100000) (h : P.nx (ρ.set i (.ow (l ++ [d])))) : Ws K E (tDrop (tBM K "list" rAppend (tVar i) (tCons te tNil))) ρ P := fun M T0 H T σ Dn en k => by
  obtain ⟨p, vs, h1, h2, h4, _⟩ := en.own e
  refine ⟨.ref p, h1, .inl ⟨rfl, vs, .inl (.inl h2)⟩, hv M T0 H T σ [] _ en fun v H' T' s t' e' iv => ?_⟩
  obtain ⟨p', vs', g1, g2, g4, g5, _⟩ := e'.own e
  rw [h1] at g1
  cases g1
  exact ⟨p, vs', v, rfl, rfl, g2, by rw [g4.len]; exact Nat.lt_of_lt_of_le hz (by decide), k.nx _ _ _ _ h s (g5 _ _ (g4.app (.one iv)))⟩
/-- xs[j] = e, xs an open list -/
theorem ws_setL {j : Nat} {z : Int} (e : ρ[i]? = some (.ow l)) (hv : EvD K te ρ d) (hi : EvD K tb ρ (.int z)) (hj : ixN l.length z = some j) (h : P.nx (ρ.set i (.ow (l.set j d)))) : Ws K E (tAsg te (gSub (tVar i) tb rSetL)) ρ P := fun M T0 H T σ Dn en k =>
  hv M T0 H T σ [] _ en fun v H1 T1 s1 t1 e1 i1 => by
    obtain ⟨p, vs, h1, h2, h4, _⟩ := e1.own e
    refine ⟨.ref p, h1, hi M T0 H1 T1 σ [] _ e1 fun w H2 T2 s2 t2 e2 i2 => ?_⟩
    obtain ⟨p', vs', g1, g2, g4, g5, _⟩ := e2.own e
    rw [h1] at g1
    cases g1
    exact ⟨p, vs', z, j, rfl, i2, g2, by rw [g4.len]; exact hj, k.nx _ _ _ _ h (s1.trans s2) (g5 _ _ (IsL.set (i1.up s2) j g4))⟩
/-- name op= e -/
theorem ws_aug {r : R2} {z : D} (e : ρ[i]? = some (.im x)) (hv : EvD K te ρ y) (hr : RvD K r x y z) (h : P.nx (ρ.set i (.im z))) : Ws K E (tAug i te r) ρ P := fun M T0 H T σ Dn en k => by
  obtain ⟨v, h1, h2⟩ := en.get e
  refine ⟨v, h1, hv M T0 H T σ [] _ en fun w H1 T1 s1 t1 e1 i1 => hr H1 T1 v w _ e1.same (h2.up s1) i1 fun u iu => k.nx _ _ H1 T1 h s1 (e1.set iu)⟩
/-! raising calls -/
def okSl (P : Rho → Prop) (ρ : Rho) (i : Nat) : Sl → Prop
  | .no => False
  | s => P (ρ.set i s)
theorem ws_asgX {Pr : PrD} (ha : EvA K tr ρ ds) (hi : i < ρ.length) (h : Pr ds (okSl P.nx ρ i) (P.ex ρ)) : Ws K E (tAsg (tCallS (spD K Pr) (WE E) tr) (gName i)) ρ P := fun M T0 H T σ Dn en k =>
  ha M T0 H T σ [] _ en fun vs H1 T1 s1 t1 e1 i1 => by
    obtain ⟨L, r, o, f⟩ := e1.ex
    refine ⟨L ++ M, H1, ds, _, _, o, i1, h, fun s v H' T' hs s' t' hr => ?_, fun c ns es od H' T' hz s' t' o' hx => k.ex ρ σ c ns es od H' T' hz (s1.trans s') ⟨⟨L, r.up s', o', f⟩, e1.t0.trans t'⟩ hx⟩
    cases s with
    | no => exact hs.elim
    | im d =>
      obtain ⟨e2, iz⟩ := e1.ret_im (X := []) r f s' t' hr
      exact k.nx _ _ H' T' hs (s1.trans s') (e2.set iz)
    | ow l =>
      obtain ⟨p, us, rfl, e2, iz⟩ := e1.ret_ow (X := []) r f s' t' hr
      exact k.nx _ _ H' T' hs (s1.trans s') (e2.setO hi iz)
    | cl d =>
      obtain ⟨Lc, e2, iz⟩ := e1.ret_cl (X := []) r f s' t' hr
      exact k.nx _ _ H' T' hs (s1.trans s') (e2.setC hi iz)
theorem ws_dropX {Pr : PrD} (ha : EvA K tr ρ ds) (h : Pr ds (fun s => s ≠ .no → P.nx ρ) (P.ex ρ)) : Ws K E (tDrop (tCallS (spD K Pr) (WE E) tr)) ρ P := fun M T0 H T σ Dn en k =>
  ha M T0 H T σ [] _ en fun vs H1 T1 s1 t1 e1 i1 => by
    obtain ⟨L, r, o, f⟩ := e1.ex
    refine ⟨L ++ M, H1, ds, _, _, o, i1, h, fun s v H' T' hs s' t' hr => ?_, fun c ns es od H' T' hz s' t' o' hx => k.ex ρ σ c ns es od H' T' hz (s1.trans s') ⟨⟨L, r.up s', o', f⟩, e1.t0.trans t'⟩ hx⟩
    cases s with
    | no => exact hr.elim
    | im d =>
      obtain ⟨e2, iz⟩ := e1.ret_im (X := []) r f s' t' hr
      exact k.nx _ _ H' T' (hs (fun z => by cases z)) (s1.trans s') e2
    | ow l =>
      obtain ⟨p, us, rfl, e2, iz⟩ := e1.ret_ow (X := []) r f s' t' hr
      exact k.nx _ _ H' T' (hs (fun z => by cases z)) (s1.trans s') (e2.sub (List.nil_sublist _))
    | cl d =>
      obtain ⟨Lc, e2, iz⟩ := e1.ret_cl (X := []) r f s' t' hr
      exact k.nx _ _ H' T' (hs (fun z => by cases z)) (s1.trans s') (e2.sub (List.nil_sublist _))
theorem ws_retX {Pr : PrD} (ha : EvA K tr ρ ds) (h : Pr ds P.rt (P.ex ρ)) : Ws K E (tRet (tCallS (spD K Pr) (WE E) tr)) ρ P := fun M T0 H T σ Dn en k =>
  ha M T0 H T σ [] _ en fun vs H1 T1 s1 t1 e1 i1 => by
    obtain ⟨L, r, o, f⟩ := e1.ex
    refine ⟨L ++ M, H1, ds, _, _, o, i1, h, fun s v H' T' hs s' t' hr => ?_, fun c ns es od H' T' hz s' t' o' hx => k.ex ρ σ c ns es od H' T' hz (s1.trans s') ⟨⟨L, r.up s', o', f⟩, e1.t0.trans t'⟩ hx⟩
    refine k.rt s v H' T' hs (s1.trans s') (e1.t0.trans t') ?_
    cases s with
    | no => exact hr
    | im d => exact ⟨hr.1, hr.2.sub (List.sublist_append_right _ _)⟩
    | ow l =>
      obtain ⟨p, us, rfl, h1, h2, h3⟩ := hr
      exact ⟨p, us, rfl, h1, h2.sub ((List.sublist_append_right _ _).cons_cons _), e1.t0.free h3⟩
    | cl d =>
      obtain ⟨Lc, h1, h2, h3⟩ := hr
      exact ⟨Lc, h1, h2.sub ((List.Sublist.refl Lc).append (List.sublist_append_right _ _)), fun x hx => e1.t0.free (h3 x hx)⟩
/-! what raises -/
theorem ws_asgZ {z : Exn} (h : EvZ K E te ρ z) (hz : P.ex ρ z) : Ws K E (tAsg te g) ρ P := fun M T0 H T σ Dn en k =>
  h M T0 H T σ [] _ en fun od H' T' s' t' e' hx => k.ex ρ σ z.1 z.2.1 z.2.2 od H' T' hz s' e' hx
theorem ws_dropZ {z : Exn} (h : EvZ K E te ρ z) (hz : P.ex ρ z) : Ws K E (tDrop te) ρ P := fun M T0 H T σ Dn en k =>
  h M T0 H T σ [] _ en fun od H' T' s' t' e' hx => k.ex ρ σ z.1 z.2.1 z.2.2 od H' T' hz s' e' hx
theorem ws_retZ {z : Exn} (h : EvZ K E te ρ z) (hz : P.ex ρ z) : Ws K E (tRet te) ρ P := fun M T0 H T σ Dn en k =>
  h M T0 H T σ [] _ en fun od H' T' s' t' e' hx => k.ex ρ σ z.1 z.2.1 z.2.2 od H' T' hz s' e' hx
/-- raise X('m') -/
abbrev tRaise0 (W : L2.WX) (c : Value) : TS := fun _ σ H => W c none σ H
theorem ws_raise0 {c : Value} (hz : P.ex ρ (c, [], [])) : Ws K E (tRaise0 E c) ρ P := fun M T0 H T σ Dn en k =>
  k.ex ρ σ c [] [] none H T hz (Same.refl _) en (.inl ⟨rfl, rfl⟩)
/-- try: .. except x as n: .. -/
theorem ws_try {tb : L2.WX → TS} {ts : Addr → Value → Option Addr → TS} {c : Value} {Pc : Rho → Exn → Prop} (hb : ∀ W, Ws K W (tb W) ρ { P with ex := Pc })
    (hc : ∀ ρ' z, Pc ρ' z → ∃ b, PySem.W.exmOne K z.1 c = some b ∧
      (b = true → ∀ a od, Ws K E (ts a z.1 od) (ρ'.set i (.im (.exc a od z.2.1 z.2.2))) { nx := fun ρ2 => P.nx (ρ2.set i .no), rt := P.rt, bk := fun ρ2 => P.bk (ρ2.set i .no), ct := fun ρ2 => P.ct (ρ2.set i .no) }) ∧ (b = false → P.ex ρ' z)) :
    Ws K E (fun Dn σ H => tb (wAs K c i ts E Dn) Dn σ H) ρ P := fun M T0 H T σ Dn en k =>
  hb _ M T0 H T σ Dn en ⟨k.nx, k.rt, k.bk, k.ct, fun ρ' σ' cl ns es od H' T' hz s' e' hx => by
    obtain ⟨b, h1, h2, h3⟩ := hc ρ' (cl, ns, es) hz
    refine ⟨b, h1, fun hbt a ha => ?_, fun hbf => k.ex ρ' σ' cl ns es od H' T' (h3 hbf) s' e' hx⟩
    have e2 := EnX.set (i := i) (d := .exc a od ns es) (v := .ref a) e' ⟨rfl, hx⟩
    refine h2 hbt a od M T0 H' T' _ _ e2 ⟨fun ρ2 σ2 H2 T2 p s2 en2 => k.nx _ _ H2 T2 p (s'.trans s2) en2.drop, fun s v H2 T2 p s2 => k.rt s v H2 T2 p (s'.trans s2), fun ρ2 σ2 H2 T2 p s2 en2 => k.bk _ _ H2 T2 p (s'.trans s2) en2.drop, fun ρ2 σ2 H2 T2 p s2 en2 => k.ct _ _ H2 T2 p (s'.trans s2) en2.drop, fun _ _ _ _ _ _ _ _ hz => hz.elim⟩⟩
/-- what is never reached -/
abbrev tNo : TS := fun _ _ _ => False
end

/-! ### what is walked -/
def Grow (H T H' T' : Hp) : Prop := (H' = H ∧ T' = T) ∨ ∃ a o, T a = none ∧ T' = upd T a o ∧ H' = upd H a o
def JD (K : PySem.W.Frag) (H1 : Hp) (J : It) (l : List D) : Prop := ∀ (i : Nat) (H T : Hp), Same H1 H → Same H T →
  (∀ d, l[i]? = some d → J.go i T ∧ ∀ x T', J.yld i T x T' → ∃ H', Grow H T H' T' ∧ Is K H' d x) ∧ (l.length ≤ i → J.stop i T)
def SrcD (K : PySem.W.Frag) (wi : TI) (ρ : Rho) (l : List D) : Prop := ∀ (M : Op) (T0 H T : Hp) (σ : L2.St) (X : Op) (R : It → Hp → Prop), EnX K M T0 H T σ ρ X → (∀ J H' T', Same H H' → Same T T' → EnX K M T0 H' T' σ ρ X → JD K H' J l → R J T') → wi σ T R
section
variable {K : PySem.W.Frag} {E : L2.WX} {ρ : Rho} {P : Pst} {M X : Op} {T0 H H' T T' : Hp} {σ : L2.St} {Dn : Ends} {te tl : TE} {t u tb : TS} {tt : TT} {d x y : D} {l : List D} {ds : List D} {ta : TA} {g : TG} {i : Nat} {wi : TI}
theorem EnX.grow (h : EnX K M T0 H T σ ρ X) (gr : Grow H T H' T') : Same H H' ∧ Same T T' ∧ EnX K M T0 H' T' σ ρ X := by
  rcases gr with ⟨rfl, rfl⟩ | ⟨a, o, ha, rfl, rfl⟩
  · exact ⟨Same.refl _, Same.refl _, h⟩
  · exact ⟨(h.new ha).1, same_new ha, (h.new ha).2⟩
theorem src_list (h : EvD K tl ρ (.lst l)) : SrcD K (iList K tl) ρ l := fun M T0 H T σ X R e q =>
  h M T0 H T σ X _ e fun v H1 T1 s1 t1 e1 ⟨a, vs, ev, h1, h2⟩ => by
    subst ev
    refine ⟨a, rfl, ⟨vs, .inl (.inl (e1.same _ _ h1))⟩, q _ H1 T1 s1 t1 e1 fun i H2 T2 sa sb => ⟨fun d hd => ?_, fun hl => ⟨vs, .inl (.inl (sb _ _ (sa _ _ h1))), by rw [h2.len]; exact hl⟩⟩⟩
    obtain ⟨v, g1, g2⟩ := h2.get hd
    have hq : SqL K T2 a vs := .inl (.inl (sb _ _ (sa _ _ h1)))
    refine ⟨⟨vs, v, hq, g1⟩, fun x T' ⟨e1, e2⟩ => ⟨H2, .inl ⟨rfl, e1⟩, ?_⟩⟩
    have := e2 vs hq
    rw [g1] at this
    cases this
    exact g2.up sa
theorem src_tup (h : EvD K tl ρ (.tup l)) : SrcD K (iTup K tl) ρ l := fun M T0 H T σ X R e q =>
  h M T0 H T σ X _ e fun v H1 T1 s1 t1 e1 ⟨a, vs, ev, h1, h2⟩ => by
    subst ev
    refine ⟨a, rfl, ⟨vs, same_t e1.same h1⟩, q _ H1 T1 s1 t1 e1 fun i H2 T2 sa sb => ⟨fun d hd => ?_, fun hl => ⟨vs, same_t (sa.trans sb) h1, by rw [h2.len]; exact hl⟩⟩⟩
    obtain ⟨v, g1, g2⟩ := h2.get hd
    have hq : SqT K T2 a vs := same_t (sa.trans sb) h1
    refine ⟨⟨vs, v, hq, g1⟩, fun x T' ⟨e1, e2⟩ => ⟨H2, .inl ⟨rfl, e1⟩, ?_⟩⟩
    have := e2 vs hq
    rw [g1] at this
    cases this
    exact g2.up sa
theorem src_scr {ns : List Int} (h : EvD K tl ρ (.scr ns)) : SrcD K (iList K tl) ρ (ns.map .int) := fun M T0 H T σ X R e q =>
  h M T0 H T σ X _ e fun v H1 T1 s1 t1 e1 ⟨a, ev, h1⟩ => by
    subst ev
    refine ⟨a, rfl, ⟨_, e1.same.seq h1⟩, q _ H1 T1 s1 t1 e1 fun i H2 T2 sa sb => ⟨fun d hd => ?_, fun hl => ⟨_, (sa.trans sb).seq h1, by rw [List.length_map] at hl ⊢; exact hl⟩⟩⟩
    have hq : SqL K T2 a (ns.map V.int) := (sa.trans sb).seq h1
    rw [List.getElem?_map] at hd
    cases hn : ns[i]? with
    | none => rw [hn] at hd; cases hd
    | some n =>
      rw [hn] at hd
      cases hd
      refine ⟨⟨_, .int n, hq, by rw [List.getElem?_map, hn]; rfl⟩, fun x T' ⟨e1, e2⟩ => ⟨H2, .inl ⟨rfl, e1⟩, ?_⟩⟩
      have := e2 _ hq
      rw [List.getElem?_map, hn] at this
      cases this
      exact rfl
/-- lo, lo + 1, .. -/
def rng (lo : Int) (n : Nat) : List D := (List.range n).map fun (k : Nat) => D.int (lo + (k : Int))
theorem rng_len {lo : Int} {n : Nat} : (rng lo n).length = n := by simp [rng]
theorem rng_get {lo : Int} {n i : Nat} {d : D} (h : (rng lo n)[i]? = some d) : i < n ∧ d = .int (lo + (i : Int)) := by
  unfold rng at h
  rw [List.getElem?_map] at h
  by_cases hi : i < n
  · rw [List.getElem?_range hi] at h
    cases h
    exact ⟨hi, rfl⟩
  · rw [List.getElem?_eq_none (by simpa using hi)] at h
    cases h
theorem jd_rng {lo : Int} {n : Nat} : JD K H (Itr lo n) (rng lo n) := fun i H2 T2 sa sb =>
  ⟨fun d hd => ⟨(rng_get hd).1, fun x T' ⟨e1, e2⟩ => ⟨H2, .inl ⟨rfl, e1⟩, by rw [(rng_get hd).2, e2]; exact rfl⟩⟩, fun hl => by rw [rng_len] at hl; exact hl⟩
theorem src_rng1 {n : Int} (h : EvA K ta ρ [.int n]) (hn : -1000000 ≤ n ∧ n ≤ 1000000) : SrcD K (iRng1 ta) ρ (rng 0 n.toNat) := fun M T0 H T σ X R e q =>
  h M T0 H T σ X _ e fun vs H1 T1 s1 t1 e1 hv => by
    obtain ⟨v, rfl, hu⟩ := isL_one hv
    exact ⟨n, by rw [show v = V.int n from hu], by omega, by omega, q _ H1 T1 s1 t1 e1 jd_rng⟩
theorem src_rng2 {lo n : Int} (h : EvA K ta ρ [.int lo, .int n]) (hn : -1000000 ≤ lo ∧ lo ≤ 1000000 ∧ -1000000 ≤ n ∧ n ≤ 1000000) : SrcD K (iRng2 ta) ρ (rng lo (n - lo).toNat) := fun M T0 H T σ X R e q =>
  h M T0 H T σ X _ e fun vs H1 T1 s1 t1 e1 hv => by
    obtain ⟨v, w, rfl, hu, hw⟩ := isL_two hv
    exact ⟨lo, n, by rw [show v = V.int lo from hu, show w = V.int n from hw], ⟨by omega, by omega, by omega, by omega⟩, q _ H1 T1 s1 t1 e1 jd_rng⟩

/-! ### targets -/
def setD (ρ : Rho) : List (Nat × D) → Rho
  | [] => ρ
  | (i, d) :: r => setD (ρ.set i (.im d)) r
def setV (σ : L2.St) : List (Nat × D) → List V → L2.St
  | (i, _) :: r, v :: vs => setV (σ.set i (some v)) r vs
  | _, _ => σ
theorem EnX.setAll : ∀ {as : List (Nat × D)} {vs : List V} {σ : L2.St} {ρ : Rho}, EnX K M T0 H T σ ρ X → IsL K H (as.map (·.2)) vs → EnX K M T0 H T (setV σ as vs) (setD ρ as) X
  | [], vs, σ, ρ, h, _ => by
    cases vs <;> exact h
  | (i, d) :: r, _, σ, ρ, h, ⟨v, vs, e, h1, h2⟩ => by
    rw [e]
    exact EnX.setAll (as := r) (h.set h1) h2
/-- the target takes d apart into these slots -/
def GDs (K : PySem.W.Frag) (g : TG) (d : D) (as : List (Nat × D)) : Prop := ∀ (H T : Hp) (σ : L2.St) (v : V) (Q : L2.St → Hp → Prop), Same H T → Is K H d v → (∀ vs, IsL K H (as.map (·.2)) vs → Q (setV σ as vs) T) → g v σ T Q
theorem gd_name {j : Nat} : GDs K (gName j) d [(j, d)] := fun H T σ v Q s h q => q [v] (.one h)
def GTs (K : PySem.W.Frag) (g : TGs) (ds : List D) (as : List (Nat × D)) : Prop := ∀ (H T : Hp) (σ : L2.St) (vs : List V) (Q : L2.St → Hp → Prop), Same H T → IsL K H ds vs → (∀ us, IsL K H (as.map (·.2)) us → Q (setV σ as us) T) → g vs σ T Q
theorem gt_nil : GTs K gNil [] [] := fun H T σ vs Q s h q => ⟨h, q [] rfl⟩
theorem setV_app : ∀ (as bs : List (Nat × D)) (us ws : List V) (σ : L2.St), us.length = as.length → setV (setV σ as us) bs ws = setV σ (as ++ bs) (us ++ ws)
  | [], bs, [], ws, σ, _ => rfl
  | (i, d) :: r, bs, u :: us, ws, σ, h => setV_app r bs us ws (σ.set i (some u)) (by simpa using h)
  | [], _, _ :: _, _, _, h => by simp at h
  | _ :: _, _, [], _, _, h => by simp at h
theorem gt_cons {g1 : TG} {gr : TGs} {as bs : List (Nat × D)} (h1 : GDs K g1 d as) (h2 : GTs K gr ds bs) : GTs K (gCons g1 gr) (d :: ds) (as ++ bs) := fun H T σ vs Q s ⟨v, r, e, i1, i2⟩ q => by
  refine ⟨v, r, e, h1 H T σ v _ s i1 fun us hu => h2 H T _ r _ s i2 fun ws hw => ?_⟩
  rw [setV_app as bs us ws σ (by rw [hu.len, List.length_map])]
  exact q (us ++ ws) (by rw [List.map_append]; exact hu.app hw)
theorem gd_tup {gr : TGs} {n : Nat} {as : List (Nat × D)} (h : GTs K gr ds as) (hn : ds.length = n) : GDs K (gTup K n gr) (.tup ds) as := fun H T σ v Q s ⟨a, vs, e, h1, h2⟩ q =>
  ⟨a, vs, e, same_t s h1, by rw [h2.len]; exact hn, h H T σ vs Q s h2 q⟩
theorem gd_tup2 {i j : Nat} {d1 d2 : D} : GDs K (gTup K 2 (gCons (gName i) (gCons (gName j) gNil))) (.tup [d1, d2]) [(i, d1), (j, d2)] := gd_tup (gt_cons gd_name (gt_cons gd_name gt_nil)) rfl
theorem gd_tup3 {i j k : Nat} {d1 d2 d3 : D} : GDs K (gTup K 3 (gCons (gName i) (gCons (gName j) (gCons (gName k) gNil)))) (.tup [d1, d2, d3]) [(i, d1), (j, d2), (k, d3)] := gd_tup (gt_cons gd_name (gt_cons gd_name (gt_cons gd_name gt_nil))) rfl
theorem ws_asgG {as : List (Nat × D)} (hv : EvD K te ρ d) (hg : GDs K g d as) (h : P.nx (setD ρ as)) : Ws K E (tAsg te g) ρ P := fun M T0 H T σ Dn e k =>
  hv M T0 H T σ [] _ e fun v H' T' s t' e' iv => hg H' T' σ v _ e'.same iv fun us hu => k.nx _ _ H' T' h s (e'.setAll hu)

/-! ### for -/
theorem ws_for (hs : SrcD K wi ρ l) (Iv : Nat → Rho → Prop) (h0 : Iv 0 ρ)
    (hb : ∀ i d ρ', l[i]? = some d → Iv i ρ' → ∃ as, GDs K g d as ∧ Ws K E tb (setD ρ' as) { P with nx := Iv (i + 1), ct := Iv (i + 1), bk := P.nx })
    (hd : ∀ ρ', Iv l.length ρ' → P.nx ρ') : Ws K E (tFor wi g tb) ρ P := fun M T0 H T σ Dn e k =>
  hs M T0 H T σ [] _ e fun J H1 T1 s1 t1 e1 hj => by
    refine ⟨fun i m σ' T' => m + i = l.length ∧ ∃ H' ρ', Same H1 H' ∧ En K M T0 H' T' σ' ρ' ∧ Iv i ρ', ⟨l.length, by omega, H1, ρ, Same.refl _, e1, h0⟩, ?_⟩
    rintro i m σ' T' ⟨hm, H', ρ', s', e', iv⟩
    obtain ⟨hgo, hstop⟩ := hj i H' T' s' e'.same
    by_cases hi : i < l.length
    · obtain ⟨d, hd1⟩ := get_some hi
      obtain ⟨g1, g2⟩ := hgo d hd1
      refine .inr ⟨g1, fun σ2 T2 => ∃ H2 ρ2, Same H1 H2 ∧ En K M T0 H2 T2 σ2 ρ2 ∧ Iv (i + 1) ρ2, fun σ2 T2 ⟨H2, ρ2, a, b, c⟩ => ⟨m - 1, by omega, by omega, H2, ρ2, a, b, c⟩, fun x T2 hy => ?_⟩
      obtain ⟨H2, gr, ix⟩ := g2 x T2 hy
      obtain ⟨s2, tg, e2⟩ := e'.grow gr
      obtain ⟨as, ga, hw⟩ := hb i d ρ' hd1 iv
      refine ga H2 T2 σ' x _ e2.same ix fun us hu => hw M T0 H2 T2 _ _ (e2.setAll hu) ?_
      have kk := k.up (s1.trans (s'.trans s2))
      exact ⟨fun ρ3 σ3 H3 T3 p s3 e3 => ⟨H3, ρ3, s'.trans (s2.trans s3), e3, p⟩, kk.rt, fun ρ3 σ3 H3 T3 p s3 e3 => kk.nx _ _ _ _ p s3 e3, fun ρ3 σ3 H3 T3 p s3 e3 => ⟨H3, ρ3, s'.trans (s2.trans s3), e3, p⟩, kk.ex⟩
    · have ei : i = l.length := by omega
      subst ei
      exact .inl ⟨hstop (Nat.le_refl _), k.nx _ _ _ _ (hd ρ' iv) (s1.trans s') e'⟩
/-- while, by an invariant with a measure -/
theorem ws_while (Iv : Nat → Rho → Prop) (m0 : Nat) (h0 : Iv m0 ρ)
    (hb : ∀ m ρ', Iv m ρ' → ∃ b, EvT K tt ρ' b ∧ (b = true → Ws K E tb ρ' { P with nx := fun ρ2 => ∃ m', m' < m ∧ Iv m' ρ2, ct := fun ρ2 => ∃ m', m' < m ∧ Iv m' ρ2, bk := P.nx }) ∧ (b = false → P.nx ρ')) : Ws K E (tWhile tt tb) ρ P := fun M T0 H T σ Dn e k => by
  refine ⟨fun m σ' T' => ∃ H' ρ', Same H H' ∧ En K M T0 H' T' σ' ρ' ∧ Iv m ρ', ⟨m0, H, ρ, Same.refl _, e, h0⟩, ?_⟩
  rintro m σ' T' ⟨H', ρ', s', e', iv⟩
  obtain ⟨b, hc, h1, h2⟩ := hb m ρ' iv
  refine hc M T0 H' T' σ' [] _ e' fun H2 T2 s2 t2 e2 => ?_
  cases b with
  | true =>
    refine ⟨fun σ3 T3 => ∃ m', m' < m ∧ ∃ H3 ρ3, Same H H3 ∧ En K M T0 H3 T3 σ3 ρ3 ∧ Iv m' ρ3, fun σ3 T3 ⟨m', hm, z⟩ => ⟨m', hm, z⟩, ?_⟩
    refine h1 rfl M T0 H2 T2 σ' _ e2 ?_
    have kk := k.up (s'.trans s2)
    exact ⟨fun ρ3 σ3 H3 T3 ⟨m', hm, p⟩ s3 e3 => ⟨m', hm, H3, ρ3, s'.trans (s2.trans s3), e3, p⟩, kk.rt, fun ρ3 σ3 H3 T3 p s3 e3 => kk.nx _ _ _ _ p s3 e3, fun ρ3 σ3 H3 T3 ⟨m', hm, p⟩ s3 e3 => ⟨m', hm, H3, ρ3, s'.trans (s2.trans s3), e3, p⟩, kk.ex⟩
  | false =>
    show Dn.nx σ' T2
    exact k.nx _ _ _ _ (h2 rfl) (s'.trans s2) e2

/-! ### comprehensions -/
def wipeD (ρ : Rho) : List Nat → Rho
  | [] => ρ
  | v :: vs => (wipeD ρ vs).set v .no
def isOw : Option Sl → Bool
  | some (.ow _) => true
  | some (.cl _) => true
  | _ => false
theorem EnR.merge : ∀ {ρ ρ2 : Rho} {σ σ2 : L2.St} {L L2 : Op}, EnR K H ρ σ L → Same H H' → EnR K H' ρ2 σ2 L2 → ρ2.length = ρ.length → (∀ i : Nat, (ρ2[i]? = ρ[i]? ∧ σ2[i]? = σ[i]?) ∨ (isOw ρ[i]? = false ∧ isOw ρ2[i]? = false)) → EnR K H' ρ σ L2
  | [], ρ2, σ, σ2, L, L2, h, s, h2, hl, hp => by
    cases h
    have : ρ2 = [] := List.length_eq_zero_iff.mp hl
    subst this
    cases h2
    exact .nil
  | a :: ρ, [], σ, σ2, L, L2, h, s, h2, hl, hp => by simp at hl
  | a :: ρ, b :: ρ2, [], σ2, L, L2, h, s, h2, hl, hp => by cases h
  | a :: ρ, b :: ρ2, x :: σ, [], L, L2, h, s, h2, hl, hp => by cases h2
  | a :: ρ, b :: ρ2, x :: σ, y :: σ2, L, L2, h, s, h2, hl, hp => by
    have hl' : ρ2.length = ρ.length := by simpa using hl
    have tl : ∀ {L L2 : Op}, EnR K H ρ σ L → EnR K H' ρ2 σ2 L2 → EnR K H' ρ σ L2 := fun h h2 => EnR.merge h s h2 hl' fun i => by simpa using hp (i + 1)
    rcases hp 0 with ⟨e1, e2⟩ | ⟨e1, e2⟩
    · have ea : b = a := Option.some.inj e1
      have ex : y = x := Option.some.inj e2
      subst ea ex
      cases h2 with
      | no h2 => cases h with | no h => exact .no (tl h h2)
      | im i2 h2 => cases h with | im _ h => exact .im i2 (tl h h2)
      | ow i2 h2 => cases h with | ow _ h => exact .ow i2 (tl h h2)
      | cl i2 h2 => cases h with | cl _ h => exact .cl i2 (tl h h2)
    · have t2 : ∃ L3, L2 = L3 ∧ EnR K H' ρ2 σ2 L3 := by
        cases h2 with
        | no h2 => exact ⟨_, rfl, h2⟩
        | im i2 h2 => exact ⟨_, rfl, h2⟩
        | ow i2 h2 => cases e2
        | cl i2 h2 => cases e2
      obtain ⟨L3, rfl, h3⟩ := t2
      cases h with
      | no h => exact .no (tl h h3)
      | im ia h => exact .im (ia.up s) (tl h h3)
      | ow ia h => cases e1
      | cl ia h => cases e1
theorem wipeD_len (ρ : Rho) : ∀ vs, (wipeD ρ vs).length = ρ.length
  | [] => rfl
  | v :: vs => by unfold wipeD; rw [List.length_set, wipeD_len ρ vs]
theorem setD_len : ∀ (as : List (Nat × D)) (ρ : Rho), (setD ρ as).length = ρ.length
  | [], _ => rfl
  | (i, d) :: r, ρ => by unfold setD; rw [setD_len r, List.length_set]
theorem wipeD_out {i : Nat} : ∀ {vs : List Nat}, i ∉ vs → (wipeD ρ vs)[i]? = ρ[i]?
  | [], _ => rfl
  | v :: vs, h => by
    have h1 : v ≠ i := fun e => h (by simp [e])
    unfold wipeD
    rw [List.getElem?_set_ne h1]
    exact wipeD_out fun z => h (List.mem_cons_of_mem _ z)
theorem setD_out {i : Nat} : ∀ {as : List (Nat × D)} {ρ : Rho}, i ∉ as.map (·.1) → (setD ρ as)[i]? = ρ[i]?
  | [], _, _ => rfl
  | (j, d) :: r, ρ, h => by
    have h1 : j ≠ i := fun e => h (by simp [e])
    unfold setD
    rw [setD_out (as := r) (fun z => h (by simp [z])), List.getElem?_set_ne h1]
theorem setV_out {i : Nat} : ∀ {as : List (Nat × D)} {us : List V} {σ : L2.St}, i ∉ as.map (·.1) → (setV σ as us)[i]? = σ[i]?
  | [], us, _, _ => by cases us <;> rfl
  | (j, d) :: r, [], _, _ => rfl
  | (j, d) :: r, u :: us, σ, h => by
    have h1 : j ≠ i := fun e => h (by simp [e])
    unfold setV
    rw [setV_out (as := r) (fun z => h (by simp [z])), List.getElem?_set_ne h1]
theorem wipeD_in {i : Nat} : ∀ {vs : List Nat}, i ∈ vs → isOw (wipeD ρ vs)[i]? = false
  | v :: vs, h => by
    unfold wipeD
    by_cases e : v = i
    · subst e
      by_cases hv : v < (wipeD ρ vs).length
      · rw [List.getElem?_set_self hv] <;> rfl
      · rw [List.getElem?_eq_none (by simpa using hv)] <;> rfl
    · rw [List.getElem?_set_ne e]
      exact wipeD_in ((List.mem_cons.mp h).resolve_left fun z => e z.symm)
theorem setD_ow {i : Nat} : ∀ {as : List (Nat × D)} {ρ : Rho}, isOw ρ[i]? = false → isOw (setD ρ as)[i]? = false
  | [], _, h => h
  | (j, d) :: r, ρ, h => by
    unfold setD
    refine setD_ow (as := r) ?_
    by_cases e : j = i
    · subst e
      by_cases hv : j < ρ.length
      · rw [List.getElem?_set_self hv] <;> rfl
      · rw [List.getElem?_eq_none (by simpa using hv)] <;> rfl
    · rw [List.getElem?_set_ne e]
      exact h
theorem wipe_idem (σ : L2.St) : ∀ vs, ∀ i : Nat, (wipe σ vs)[i]? = if i ∈ vs then (σ[i]?).map (fun _ => none) else σ[i]?
  | [], i => by simp [wipe]
  | v :: vs, i => by
    unfold wipe
    by_cases e : v = i
    · subst e
      rw [if_pos List.mem_cons_self, List.getElem?_set_self', wipe_idem σ vs v]
      split <;> (cases σ[v]? <;> rfl)
    · rw [List.getElem?_set_ne e, wipe_idem σ vs i]
      by_cases h : i ∈ vs
      · rw [if_pos h, if_pos (List.mem_cons_of_mem _ h)]
      · rw [if_neg h, if_neg fun z => h ((List.mem_cons.mp z).resolve_left fun q => e q.symm)]
theorem setV_len : ∀ (as : List (Nat × D)) (us : List V) (σ : L2.St), (setV σ as us).length = σ.length
  | [], us, _ => by cases us <;> rfl
  | (i, d) :: r, [], _ => rfl
  | (i, d) :: r, u :: us, σ => by unfold setV; rw [setV_len r, List.length_set]
theorem map_none_eq {a b : Option (Option V)} (h : a.isSome = b.isSome) : a.map (fun _ => (none : Option V)) = b.map fun _ => none := by
  cases a <;> cases b <;> simp_all
theorem wipe_setV {as : List (Nat × D)} {us : List V} {vs : List Nat} (hs : ∀ i ∈ as.map (·.1), i ∈ vs) : wipe (setV (wipe σ vs) as us) vs = wipe σ vs := by
  refine List.ext_getElem? fun i => ?_
  rw [wipe_idem, wipe_idem]
  by_cases h : i ∈ vs
  · rw [if_pos h, if_pos h]
    refine map_none_eq ?_
    have l1 : (setV (wipe σ vs) as us).length = σ.length := by rw [setV_len, wipe_length]
    by_cases hi : i < σ.length
    · rw [List.getElem?_eq_getElem (by omega), List.getElem?_eq_getElem hi] <;> rfl
    · rw [List.getElem?_eq_none (by omega), List.getElem?_eq_none (by omega)]
  · rw [if_neg h, if_neg h, setV_out (fun z => h (hs i z)), wipe_idem, if_neg h]
theorem EnX.wipe {vs : List Nat} (hv : ∀ i ∈ vs, isOw ρ[i]? = false) (h : EnX K M T0 H T σ ρ X) : EnX K M T0 H T (wipe σ vs) (wipeD ρ vs) X := by
  induction vs with
  | nil => exact h
  | cons v vs ih => exact (ih fun i hi => hv i (List.mem_cons_of_mem _ hi)).drop
theorem EnX.unwipe {vs : List Nat} {as : List (Nat × D)} {us : List V} {M' : Op} (hv : ∀ i ∈ vs, isOw ρ[i]? = false) (ha : ∀ i ∈ as.map (·.1), i ∈ vs) (h0 : EnX K M T0 H T σ ρ X) (s : Same H H') {X' : Op} (h : EnX K M T0 H' T' (setV (L2.wipe σ vs) as us) (setD (wipeD ρ vs) as) X') : EnX K M T0 H' T' σ ρ X' := by
  obtain ⟨L, r, q, f⟩ := h0.ex
  obtain ⟨L2, r2, q2, f2⟩ := h.ex
  refine ⟨⟨L2, r.merge s r2 (by rw [setD_len, wipeD_len]) fun i => ?_, q2, f2⟩, h.t0⟩
  by_cases hi : i ∈ vs
  · exact .inr ⟨hv i hi, setD_ow (wipeD_in hi)⟩
  · have hn : i ∉ as.map (·.1) := fun z => hi (ha i z)
    refine .inl ⟨by rw [setD_out hn, wipeD_out hi], by rw [setV_out hn, wipe_idem, if_neg hi]⟩
theorem same_mut {A B : Hp} {p : Addr} {o : HO} (s : Same A B) (h : A p = none) : Same A (upd B p o) := fun b x e => by
  rw [upd_ne (ne_of_none e h)]
  exact s b x e
/-- .. walked by a comprehension: nothing that is open is written meanwhile -/
def JW (K : PySem.W.Frag) (H1 T1 : Hp) (J : It) (l : List D) : Prop := ∀ (i : Nat) (H T : Hp), Same H1 H → Same H T → Same T1 T →
  (∀ d, l[i]? = some d → J.go i T ∧ ∀ x T', J.yld i T x T' → ∃ H', Grow H T H' T' ∧ Is K H' d x) ∧ (l.length ≤ i → J.stop i T)
def SrcW (K : PySem.W.Frag) (wi : TI) (ρ : Rho) (l : List D) : Prop := ∀ (M : Op) (T0 H T : Hp) (σ : L2.St) (X : Op) (R : It → Hp → Prop), EnX K M T0 H T σ ρ X → (∀ J H' T', Same H H' → Same T T' → EnX K M T0 H' T' σ ρ X → JW K H' T' J l → R J T') → wi σ T R
theorem SrcD.w (h : SrcD K wi ρ l) : SrcW K wi ρ l := fun M T0 H T σ X R e q => h M T0 H T σ X R e fun J H' T' s t e' hj => q J H' T' s t e' fun i H2 T2 a b _ => hj i H2 T2 a b
/-- an open list -/
theorem src_own (e : ρ[i]? = some (.ow l)) : SrcW K (iList K (tVar i)) ρ l := fun M T0 H T σ X R en q => by
  obtain ⟨p, vs, h1, h2, h4, _⟩ := en.own e
  refine ⟨.ref p, h1, p, rfl, ⟨vs, .inl (.inl h2)⟩, q _ H T (Same.refl _) (Same.refl _) en fun k H2 T2 sa sb st => ⟨fun d hd => ?_, fun hl => ⟨vs, .inl (.inl (st _ _ h2)), by rw [h4.len]; exact hl⟩⟩⟩
  obtain ⟨v, g1, g2⟩ := h4.get hd
  have hq : SqL K T2 p vs := .inl (.inl (st _ _ h2))
  refine ⟨⟨vs, v, hq, g1⟩, fun x T' ⟨e1, e2⟩ => ⟨H2, .inl ⟨rfl, e1⟩, ?_⟩⟩
  have := e2 vs hq
  rw [g1] at this
  cases this
  exact g2.up sa
theorem evo_lcW {α : Type} {xs : List α} {enc : α → D} {vs : List Nat} (f : α → Bool) (e : α → D) (hs : SrcW K wi ρ (xs.map enc)) (hv : ∀ i ∈ vs, isOw ρ[i]? = false)
    (ht : ∀ d ∈ xs, ∃ as, GDs K g (enc d) as ∧ (∀ i ∈ as.map (·.1), i ∈ vs) ∧ EvT K tt (setD (wipeD ρ vs) as) (f d) ∧ (f d = true → EvD K te (setD (wipeD ρ vs) as) (e d))) (hz : xs.length ≤ 100000) :
    EvO K (tLc wi g tt te vs) ρ ((xs.filter f).map e) := fun M T0 H T σ X Q en q =>
  hs M T0 H T σ X _ en fun J H1 T1 s1 t1 e1 hj D hD => by
    refine ⟨fun i m T' => m + i = xs.length ∧ Same T1 T' ∧ ∃ H' us, Same H1 H' ∧ EnX K M T0 H' T' σ ρ ((D, .lst us) :: X) ∧ IsL K H' (((xs.take i).filter f).map e) us, ⟨xs.length, by omega, same_new hD, H1, [], Same.refl _, e1.opened hD, rfl⟩, ?_⟩
    rintro i m T' ⟨hm, tt1, H', us, s', e', iu⟩
    obtain ⟨hgo, hstop⟩ := hj i H' T' s' e'.same tt1
    by_cases hi : i < xs.length
    · obtain ⟨d, hd1⟩ := get_some hi
      obtain ⟨g1, g2⟩ := hgo (enc d) (by rw [List.getElem?_map, hd1]; rfl)
      refine .inr ⟨g1, fun T2 => Same T1 T2 ∧ ∃ H2 ws, Same H1 H2 ∧ EnX K M T0 H2 T2 σ ρ ((D, .lst ws) :: X) ∧ IsL K H2 (((xs.take (i + 1)).filter f).map e) ws, fun T2 ⟨z, H2, ws, a, b, c⟩ => ⟨m - 1, by omega, by omega, z, H2, ws, a, b, c⟩, fun x T2 hy => ?_⟩
      obtain ⟨H2, gr, ix⟩ := g2 x T2 hy
      obtain ⟨s2, tg, e2⟩ := e'.grow gr
      obtain ⟨as, ga, hsub, hT, hE⟩ := ht d (List.mem_of_getElem? hd1)
      have e3 := e2.wipe hv
      refine ga H2 T2 _ x _ e3.same ix fun ws hw => ⟨wipe_setV hsub, ?_⟩
      have e4 := e3.setAll hw
      have tk : xs.take (i + 1) = xs.take i ++ [d] := by
        rw [List.take_add_one, hd1]
        rfl
      refine hT M T0 H2 T2 _ _ _ e4 fun H5 T5 s5 t5 e5 => ?_
      cases hf : f d with
      | true =>
        refine hE hf M T0 H5 T5 _ _ _ e5 fun v H6 T6 s6 t6 e6 iv => ?_
        have e7 := EnX.unwipe hv hsub e2 (s5.trans s6) (M' := M) e6
        refine ⟨us, e7.at_, ?_, same_mut (tt1.trans (tg.trans (t5.trans t6))) hD, H6, us ++ [v], s'.trans (s2.trans (s5.trans s6)), e7.write, ?_⟩
        · rw [iu.len, List.length_map]
          have h1 : ((xs.take i).filter f).length ≤ (xs.take i).length := List.length_filter_le _ _
          rw [List.length_take] at h1
          have h2 : (100000 : Nat) < sizeLine := by decide
          omega
        · rw [tk, List.filter_append, List.map_append, List.filter_cons, if_pos hf]
          exact (iu.up (s2.trans (s5.trans s6))).app (.one iv)
      | false =>
        show Same T1 T5 ∧ ∃ H2 ws, _
        have e7 := EnX.unwipe hv hsub e2 s5 (M' := M) e5
        refine ⟨tt1.trans (tg.trans t5), H5, us, s'.trans (s2.trans s5), e7, ?_⟩
        rw [tk, List.filter_append, List.map_append, List.filter_cons, if_neg (by rw [hf]; decide)]
        show IsL K H5 (_ ++ []) us
        rw [List.append_nil]
        exact iu.up (s2.trans s5)
    · have ei : i = xs.length := by omega
      subst ei
      rw [List.take_length] at iu
      exact .inl ⟨hstop (by rw [List.length_map]; exact Nat.le_refl _), q D us H' T' (s1.trans s') (t1.trans tt1) e' iu⟩
theorem evo_lc {α : Type} {xs : List α} {enc : α → D} {vs : List Nat} (f : α → Bool) (e : α → D) (hs : SrcD K wi ρ (xs.map enc)) (hv : ∀ i ∈ vs, isOw ρ[i]? = false)
    (ht : ∀ d ∈ xs, ∃ as, GDs K g (enc d) as ∧ (∀ i ∈ as.map (·.1), i ∈ vs) ∧ EvT K tt (setD (wipeD ρ vs) as) (f d) ∧ (f d = true → EvD K te (setD (wipeD ρ vs) as) (e d))) (hz : xs.length ≤ 100000) :
    EvO K (tLc wi g tt te vs) ρ ((xs.filter f).map e) := evo_lcW f e hs.w hv ht hz
theorem evo_mapW {α : Type} {xs : List α} {enc : α → D} {vs : List Nat} (e : α → D) (hs : SrcW K wi ρ (xs.map enc)) (hv : ∀ i ∈ vs, isOw ρ[i]? = false)
    (ht : ∀ d ∈ xs, ∃ as, GDs K g (enc d) as ∧ (∀ i ∈ as.map (·.1), i ∈ vs) ∧ EvD K te (setD (wipeD ρ vs) as) (e d)) (hz : xs.length ≤ 100000) :
    EvO K (tLc wi g tYes te vs) ρ (xs.map e) := by
  have h := evo_lcW (tt := tYes) (te := te) (fun _ => true) e hs hv (fun d hd => by
    obtain ⟨as, a, b, c⟩ := ht d hd
    exact ⟨as, a, b, et_yes, fun _ => c⟩) hz
  have e1 : xs.filter (fun _ => true) = xs := by simp
  rw [e1] at h
  exact h
/-- without a test -/
theorem evo_map {α : Type} {xs : List α} {enc : α → D} {vs : List Nat} (e : α → D) (hs : SrcD K wi ρ (xs.map enc)) (hv : ∀ i ∈ vs, isOw ρ[i]? = false)
    (ht : ∀ d ∈ xs, ∃ as, GDs K g (enc d) as ∧ (∀ i ∈ as.map (·.1), i ∈ vs) ∧ EvD K te (setD (wipeD ρ vs) as) (e d)) (hz : xs.length ≤ 100000) :
    EvO K (tLc wi g tYes te vs) ρ (xs.map e) := by
  have h := evo_lc (tt := tYes) (te := te) (fun _ => true) e hs hv (fun d hd => by
    obtain ⟨as, a, b, c⟩ := ht d hd
    exact ⟨as, a, b, et_yes, fun _ => c⟩) hz
  have e1 : xs.filter (fun _ => true) = xs := by simp
  rw [e1] at h
  exact h

end

section
variable {K : PySem.W.Frag} {ρ : Rho} {te : TE} {tt : TT} {l : List D} {g : TG} {wi : TI}
/-- a comprehension of closed elements -/
theorem ec_lcW {α : Type} {xs : List α} {enc : α → D} {vs : List Nat} (f : α → Bool) (e : α → D) (hs : SrcW K wi ρ (xs.map enc)) (hv : ∀ i ∈ vs, isOw ρ[i]? = false)
    (ht : ∀ d ∈ xs, ∃ as, GDs K g (enc d) as ∧ (∀ i ∈ as.map (·.1), i ∈ vs) ∧ EvT K tt (setD (wipeD ρ vs) as) (f d) ∧ (f d = true → EvC K te (setD (wipeD ρ vs) as) (e d))) (hz : xs.length ≤ 100000) :
    EvC K (tLc wi g tt te vs) ρ (.lst ((xs.filter f).map e)) := fun M T0 H T σ X Q en q =>
  hs M T0 H T σ X _ en fun J H1 T1 s1 t1 e1 hj D hD => by
    refine ⟨fun i m T' => m + i = xs.length ∧ Same T1 T' ∧ ∃ H' us Lc, Same H1 H' ∧ EnX K M T0 H' T' σ ρ ((D, .lst us) :: (Lc ++ X)) ∧ IsCL K H' (((xs.take i).filter f).map e) us Lc, ⟨xs.length, by omega, same_new hD, H1, [], [], Same.refl _, e1.opened hD, rfl, rfl⟩, ?_⟩
    rintro i m T' ⟨hm, tt1, H', us, Lc, s', e', iu⟩
    obtain ⟨hgo, hstop⟩ := hj i H' T' s' e'.same tt1
    by_cases hi : i < xs.length
    · obtain ⟨d, hd1⟩ := get_some hi
      obtain ⟨g1, g2⟩ := hgo (enc d) (by rw [List.getElem?_map, hd1]; rfl)
      refine .inr ⟨g1, fun T2 => Same T1 T2 ∧ ∃ H2 ws Lc, Same H1 H2 ∧ EnX K M T0 H2 T2 σ ρ ((D, .lst ws) :: (Lc ++ X)) ∧ IsCL K H2 (((xs.take (i + 1)).filter f).map e) ws Lc, fun T2 ⟨z, H2, ws, Lc, a, b, c⟩ => ⟨m - 1, by omega, by omega, z, H2, ws, Lc, a, b, c⟩, fun x T2 hy => ?_⟩
      obtain ⟨H2, gr, ix⟩ := g2 x T2 hy
      obtain ⟨s2, tg, e2⟩ := e'.grow gr
      obtain ⟨as, ga, hsub, hT, hE⟩ := ht d (List.mem_of_getElem? hd1)
      have e3 := e2.wipe hv
      refine ga H2 T2 _ x _ e3.same ix fun ws hw => ⟨wipe_setV hsub, ?_⟩
      have e4 := e3.setAll hw
      have tk : xs.take (i + 1) = xs.take i ++ [d] := by
        rw [List.take_add_one, hd1]
        rfl
      refine hT M T0 H2 T2 _ _ _ e4 fun H5 T5 s5 t5 e5 => ?_
      cases hf : f d with
      | true =>
        refine hE hf M T0 H5 T5 _ _ _ e5 fun v L' H6 T6 s6 t6 e6 iv => ?_
        have e7 := EnX.unwipe hv hsub e2 (s5.trans s6) (M' := M) e6
        have pm : List.Perm (L' ++ ((D, HO.lst us) :: (Lc ++ X))) ((D, HO.lst us) :: ((Lc ++ L') ++ X)) := by
          refine List.perm_middle.trans (List.Perm.cons _ ?_)
          rw [← List.append_assoc]
          exact List.perm_append_comm.append_right _
        have e8 := e7.perm pm
        refine ⟨us, e8.at_, ?_, same_mut (tt1.trans (tg.trans (t5.trans t6))) hD, H6, us ++ [v], Lc ++ L', s'.trans (s2.trans (s5.trans s6)), e8.write, ?_⟩
        · rw [iu.len, List.length_map]
          have h1 : ((xs.take i).filter f).length ≤ (xs.take i).length := List.length_filter_le _ _
          rw [List.length_take] at h1
          have h2 : (100000 : Nat) < sizeLine := by decide
          omega
        · rw [tk, List.filter_append, List.map_append, List.filter_cons, if_pos hf]
          exact (iu.up (s2.trans (s5.trans s6))).app (.one iv)
      | false =>
        show Same T1 T5 ∧ ∃ H2 ws Lc, _
        have e7 := EnX.unwipe hv hsub e2 s5 (M' := M) e5
        refine ⟨tt1.trans (tg.trans t5), H5, us, Lc, s'.trans (s2.trans s5), e7, ?_⟩
        rw [tk, List.filter_append, List.map_append, List.filter_cons, if_neg (by rw [hf]; decide)]
        show IsCL K H5 (_ ++ []) us Lc
        rw [List.append_nil]
        exact iu.up (s2.trans s5)
    · have ei : i = xs.length := by omega
      subst ei
      rw [List.take_length] at iu
      exact .inl ⟨hstop (by rw [List.length_map]; exact Nat.le_refl _), q (.ref D) ((D, .lst us) :: Lc) H' T' (s1.trans s') (t1.trans tt1) e' ⟨D, us, Lc, rfl, rfl, iu⟩⟩
theorem ec_lc {α : Type} {xs : List α} {enc : α → D} {vs : List Nat} (f : α → Bool) (e : α → D) (hs : SrcD K wi ρ (xs.map enc)) (hv : ∀ i ∈ vs, isOw ρ[i]? = false)
    (ht : ∀ d ∈ xs, ∃ as, GDs K g (enc d) as ∧ (∀ i ∈ as.map (·.1), i ∈ vs) ∧ EvT K tt (setD (wipeD ρ vs) as) (f d) ∧ (f d = true → EvC K te (setD (wipeD ρ vs) as) (e d))) (hz : xs.length ≤ 100000) :
    EvC K (tLc wi g tt te vs) ρ (.lst ((xs.filter f).map e)) := ec_lcW f e hs.w hv ht hz
theorem ec_map {α : Type} {xs : List α} {enc : α → D} {vs : List Nat} (e : α → D) (hs : SrcD K wi ρ (xs.map enc)) (hv : ∀ i ∈ vs, isOw ρ[i]? = false)
    (ht : ∀ d ∈ xs, ∃ as, GDs K g (enc d) as ∧ (∀ i ∈ as.map (·.1), i ∈ vs) ∧ EvC K te (setD (wipeD ρ vs) as) (e d)) (hz : xs.length ≤ 100000) :
    EvC K (tLc wi g tYes te vs) ρ (.lst (xs.map e)) := by
  have h := ec_lc (tt := tYes) (te := te) (fun _ => true) e hs hv (fun d hd => by
    obtain ⟨as, a, b, c⟩ := ht d hd
    exact ⟨as, a, b, et_yes, fun _ => c⟩) hz
  have e1 : xs.filter (fun _ => true) = xs := by simp
  rw [e1] at h
  exact h

end

/-! ### a def -/
/-- a def's wish about what it raises -/
abbrev upX (E : XK) : L2.WX := fun c od _ T => E c od T
section
variable {K : PySem.W.Frag} {P : PrD} {vs : List V} {T : Hp} {Q : VK} {E : XK} {t : TS} {N : List Str}
theorem read_fn (h : spD K P vs T Q E) (hw : ∀ ds R Z, P ds R Z → Ws K (upX E) t (ds.map .im ++ List.replicate (N.length - ds.length) .no) { nx := fun _ => R (.im .non), rt := R, ex := fun _ => Z }) :
    t { nx := fun _ H' => Q .non H', rt := Q } (L2.start N vs) T := by
  obtain ⟨M, H, ds, R, Z, o, hd, p, k1, k2⟩ := h
  have r := EnR.start hd (N.length - ds.length)
  have e : L2.start N vs = vs.map some ++ List.replicate (N.length - ds.length) none := by unfold L2.start; rw [hd.len]
  rw [e]
  refine hw ds R Z p M T H T _ _ ⟨⟨[], r, o, fun _ h => (nomatch h)⟩, Same.refl _⟩ ⟨fun ρ' σ' H' T' q s e' => k1 (.im .non) .non H' T' q s e'.t0 ⟨rfl, e'.frame⟩, fun s v H' T' q s' t' hr => k1 s v H' T' q s' t' hr, fun _ _ _ _ q => q.elim, fun _ _ _ _ q => q.elim, fun ρ' σ' c ns es od H' T' q s' e' hx => k2 c ns es od H' T' q s' e'.t0 e'.frame hx⟩
theorem len_fn {n : Nat} (hl : ∀ ds R Z, P ds R Z → ds.length = n) (h : spD K P vs T Q E) : vs.length = n := by
  obtain ⟨M, H, ds, R, Z, o, hd, p, _⟩ := h
  rw [hd.len]
  exact hl ds R Z p
end
end FS
set_option Elab.async false
set_option linter.all false
set_option maxRecDepth 100000
set_option maxHeartbeats 4000000
namespace FS
open PySem PySem.Spec PyProof.Rows L2

/-! ### operators, by what comes in -/
section
variable {X : Cx}
abbrev rStrCat : R2 := fun x y H Q => ∃ i j, x = .str i ∧ y = .str j ∧ i.length + j.length ≤ sizeLine ∧ Q (.str (i ++ j)) H
def rAddA (K : PySem.W.Frag) : R2 := fun x y H Q => rI0 (fun i j => .int (i + j)) x y H Q ∨ rCat x y H Q ∨ rStrCat x y H Q ∨ rCatT K x y H Q
theorem opAdd : OpR X (binaryOp .Add) (rAddA X.K) := op_add.or (op_cat.or (OpR.or op_add_str op_catT))
def rMulA : R2 := fun x y H Q => rI CMul (fun i j => .int (i * j)) x y H Q ∨ rI CMulW (fun i j => .int (i * j)) x y H Q ∨ rRep x y H Q
theorem opMul : OpR X (binaryOp .Mult) rMulA := op_mul.or (op_mulW.or op_rep)
def rSubA : R2 := rI0 fun i j => .int (i - j)
theorem opSub : OpR X (binaryOp .Sub) rSubA := op_sub
def rDivA : R2 := rI CDivW fun i j => .int (i / j)
theorem opDiv : OpR X (binaryOp .FloorDiv) rDivA := op_fdivW
def rModA : R2 := rI (fun _ j => 0 < j) fun i j => .int (i % j)
theorem opMod : OpR X (binaryOp .Mod) rModA := op_mod
def rPowA : R2 := rI CPow fun i j => .int (i ^ j.toNat)
theorem opPow : OpR X (binaryOp .Pow) rPowA := op_pow
def rLtA : R2 := rI0 fun i j => .bl (decide (i < j))
def rLeA : R2 := rI0 fun i j => .bl (decide (i ≤ j))
def rGtA : R2 := rI0 fun i j => .bl (decide (j < i))
def rGeA : R2 := rI0 fun i j => .bl (decide (j ≤ i))
theorem opLt : OpR X (compareOp .Lt) rLtA := op_lt
theorem opLe : OpR X (compareOp .LtE) rLeA := op_le
theorem opGt : OpR X (compareOp .Gt) rGtA := op_gt
theorem opGe : OpR X (compareOp .GtE) rGeA := op_ge
def rEqA (K : PySem.W.Frag) : R2 := fun x y H Q => rEq x y H Q ∨ rEqD K x y H Q
def rNeA (K : PySem.W.Frag) : R2 := fun x y H Q => rNe x y H Q ∨ rNeD K x y H Q
theorem opEq (hu : X.A.units + 64 < cLine) : OpR X (compareOp .Eq) (rEqA X.K) := op_eq.or (op_eqD hu)
theorem opNe (hu : X.A.units + 64 < cLine) : OpR X (compareOp .NotEq) (rNeA X.K) := op_ne.or (op_neD hu)
def rIsN : R2 := fun x y H Q => y = .non ∧ Q (.bl (decide (x = .non))) H
def rNotN : R2 := fun x y H Q => y = .non ∧ Q (.bl (!decide (x = .non))) H
theorem opIsN : OpR X (compareOp .Is) rIsN := op_isN
theorem opNotN : OpR X (compareOp .IsNot) rNotN := op_notN
def rNegA : V → Hp → VK → Prop := rU fun i => .int (-i)
theorem unNeg : UnR X (unaryOp .USub) rNegA := un_neg
def rLenS : List V → Hp → VK → Prop := fun xs H Q => ∃ z, xs = [.str z] ∧ z.length ≤ sizeLine ∧ Q (.int z.length) H
def rLenA (K : PySem.W.Frag) : List V → Hp → VK → Prop := fun xs H Q => rLen K xs H Q ∨ rLenS xs H Q
theorem cLen : CallR X (.builtin "len") (rLenA X.K) := call_len_seq.or call_len_str
def rIntA : List V → Hp → VK → Prop := fun xs H Q => (∃ i, xs = [.int i] ∧ Q (.int i) H) ∨ ∃ k, xs = [.bl k] ∧ Q (.int (if k then 1 else 0)) H
theorem cInt : CallR X (.type "int") rIntA := call_int1
def rAbsA : List V → Hp → VK → Prop := fun xs H Q => ∃ i, xs = [.int i] ∧ Q (.int (if i < 0 then -i else i)) H
theorem cAbs : CallR X (.builtin "abs") rAbsA := call_abs
def rListA (K : PySem.W.Frag) : List V → Hp → VK → Prop := fun xs H Q => ∃ p ys, xs = [.ref p] ∧ (SqL K H p ys ∨ SqT K H p ys) ∧ ∀ l, H l = none → Q (.ref l) (upd H l (.lst ys))
theorem cList : CallR X (.type "list") (rListA X.K) := call_list_of
/-- math.lcm, of numbers of at most 13500 bits -/
def CLcm (a b : Int) : Prop := 0 < a ∧ 0 < b ∧ a < 2 ^ 13499 ∧ b < 2 ^ 13499
def rLcmA : List V → Hp → VK → Prop := fun vs H Q => ∃ a b : Int, vs = [.int a, .int b] ∧ CLcm a b ∧ Q (.int ((Nat.lcm a.natAbs b.natAbs : Nat) : Int)) H
theorem lcm_small {a b : Nat} (ha : a < 2 ^ 13499) (hb : b < 2 ^ 13499) : (Nat.lcm a b).log2 < bitsLine := by
  have h1 : Nat.lcm a b ≤ a * b := by
    unfold Nat.lcm
    exact Nat.div_le_self _ _
  have h2 : a * b < 2 ^ 26998 := by
    have : a * b < 2 ^ 13499 * 2 ^ 13499 := Nat.mul_lt_mul'' ha hb
    rw [← Nat.pow_add] at this
    exact this
  have h3 : bitsLine = 134217728 := by decide
  by_cases h0 : Nat.lcm a b = 0
  · rw [h0, Nat.log2_zero, h3]
    decide
  · have := (Nat.log2_lt h0).mpr (Nat.lt_of_le_of_lt h1 h2)
    rw [h3]
    omega
theorem log_small {a : Nat} (ha : a < 2 ^ 13499) : ¬ a.log2 / 30 + 1 > 450 := by
  by_cases h0 : a = 0
  · subst h0
    rw [Nat.log2_zero]
    decide
  · have := (Nat.log2_lt h0).mpr ha
    omega
theorem cLcm : CallR X (.builtin "math.lcm") rLcmA := by
  intro pins s σ H vs us Q I r h
  obtain ⟨a, b, rfl, ⟨h1, h2, h3, h4⟩, q⟩ := h
  obtain ⟨t, u, rfl⟩ := Vals.int2 r
  have ha : a.natAbs < 2 ^ 13499 := by
    have : (a.natAbs : Int) < ((2 ^ 13499 : Nat) : Int) := by
      rw [Int.natAbs_of_nonneg (by omega)]
      exact_mod_cast h3
    exact_mod_cast this
  have hb : b.natAbs < 2 ^ 13499 := by
    have : (b.natAbs : Int) < ((2 ^ 13499 : Nat) : Int) := by
      rw [Int.natAbs_of_nonneg (by omega)]
      exact_mod_cast h4
    exact_mod_cast this
  have p1 : 1 ≤ a.natAbs := by omega
  have p2 : 1 ≤ b.natAbs := by omega
  have e1 : Nat.lcm 1 a.natAbs = a.natAbs := Nat.lcm_one_left _
  have m1 : max 1 a.natAbs = a.natAbs := Nat.max_eq_right p1
  have g := PySem.W.mg_run_lcm a t b u (by rw [m1]; exact log_small ha)
    (log_small (by rcases Nat.le_total a.natAbs b.natAbs with z | z; · rw [Nat.max_eq_right z]; exact hb
                   · rw [Nat.max_eq_left z]; exact ha))
    (by rw [e1, Int.natAbs_natCast]; exact lcm_small ha hb)
  rw [e1] at g
  exact PySem.call_function_meets PySem.W.MGF.kind_lcm PySem.W.MGF.plain_lcm PySem.W.MGF.entry_lcm (PySem.W.MGF.args_lcm _ _) g.meets ⟨.int _, H, I.tok _, ⟨_, rfl⟩, q⟩
end

section
variable {K : PySem.W.Frag} {ρ : Rho} {x y z d : D} {l l' : List D}
theorem rv_add {i j : Int} : RvD K (rAddA K) (.int i) (.int j) (.int (i + j)) := fun H T vx vy Q s h1 h2 q => .inl (rv_I0 (g := fun i j => V.int (i + j)) (z := .int (i + j)) (fun _ => rfl) H T vx vy Q s h1 h2 q)
theorem rvo_add (hz : l.length + l'.length ≤ 100000) : RvO K (rAddA K) (.lst l) (.lst l') (l ++ l') := fun H T vx vy Q s h1 h2 q => .inr (.inl (rvo_cat hz H T vx vy Q s h1 h2 q))
theorem rv_addS {i j : Str} (hz : i.length + j.length ≤ 10000000) : RvD K (rAddA K) (.str i) (.str j) (.str (i ++ j)) := fun H T vx vy Q s h1 h2 q =>
  .inr (.inr (.inl ⟨i, j, h1, h2, Nat.le_trans hz (by decide), q _ rfl⟩))
theorem rv_sub {i j : Int} : RvD K rSubA (.int i) (.int j) (.int (i - j)) := rv_I0 fun _ => rfl
theorem rv_mul {i j : Int} (h : CMul i j) : RvD K rMulA (.int i) (.int j) (.int (i * j)) := fun H T vx vy Q s h1 h2 q => .inl (rv_I (g := fun i j => V.int (i * j)) (z := .int (i * j)) h (fun _ => rfl) H T vx vy Q s h1 h2 q)
theorem rv_mulW {i j : Int} (h : CMulW i j) : RvD K rMulA (.int i) (.int j) (.int (i * j)) := fun H T vx vy Q s h1 h2 q => .inr (.inl (rv_I (g := fun i j => V.int (i * j)) (z := .int (i * j)) h (fun _ => rfl) H T vx vy Q s h1 h2 q))
theorem rvo_mul {k : Int} (h1 : -(2 ^ 63) ≤ k ∧ k < 2 ^ 63) (hz : l.length * k.toNat ≤ 100000) : RvO K rMulA (.lst l) (.int k) (List.replicate k.toNat l).flatten := fun H T vx vy Q s g1 g2 q => .inr (.inr (rvo_rep h1 hz H T vx vy Q s g1 g2 q))
theorem rv_div {i j : Int} (h : CDivW i j) : RvD K rDivA (.int i) (.int j) (.int (i / j)) := rv_I h fun _ => rfl
theorem rv_mod {i j : Int} (h : 0 < j) : RvD K rModA (.int i) (.int j) (.int (i % j)) := rv_I h fun _ => rfl
theorem rv_pow {i j z : Int} (h : CPow i j) (e : i ^ j.toNat = z) : RvD K rPowA (.int i) (.int j) (.int z) := e ▸ rv_I h fun _ => rfl
theorem rv_lt {i j : Int} : RvD K rLtA (.int i) (.int j) (.bl (decide (i < j))) := rv_I0 fun _ => rfl
theorem rv_le {i j : Int} : RvD K rLeA (.int i) (.int j) (.bl (decide (i ≤ j))) := rv_I0 fun _ => rfl
theorem rv_gt {i j : Int} : RvD K rGtA (.int i) (.int j) (.bl (decide (j < i))) := rv_I0 fun _ => rfl
theorem rv_ge {i j : Int} : RvD K rGeA (.int i) (.int j) (.bl (decide (j ≤ i))) := rv_I0 fun _ => rfl
theorem rv_eq {i j : Int} : RvD K (rEqA K) (.int i) (.int j) (.bl (decide (i = j))) := fun H T vx vy Q s h1 h2 q => .inl (rv_eqI H T vx vy Q s h1 h2 q)
theorem rv_ne {i j : Int} : RvD K (rNeA K) (.int i) (.int j) (.bl (!decide (i = j))) := fun H T vx vy Q s h1 h2 q => .inl (rv_neI H T vx vy Q s h1 h2 q)
theorem rv_eqStr {i j : Str} : RvD K (rEqA K) (.str i) (.str j) (.bl (decide (i = j))) := fun H T vx vy Q s h1 h2 q => .inl (rv_eqS H T vx vy Q s h1 h2 q)
theorem rv_neStr {i j : Str} : RvD K (rNeA K) (.str i) (.str j) (.bl (!decide (i = j))) := fun H T vx vy Q s h1 h2 q => .inl (rv_neS H T vx vy Q s h1 h2 q)
theorem rv_is : RvD K rIsN x .non (.bl (isNon x)) := rv_isN
theorem rv_isnot : RvD K rNotN x .non (.bl (!isNon x)) := rv_notN
theorem ru_neg {i : Int} : RuD K rNegA (.int i) (.int (-i)) := ru_I fun _ => rfl
theorem rc_len : RcD K (rLenA K) [.lst l] (.int (l.length : Int)) := fun H T vs Q s h q => .inl (rc_lenL H T vs Q s h q)
theorem rc_lent : RcD K (rLenA K) [.tup l] (.int (l.length : Int)) := fun H T vs Q s h q => .inl (rc_lenT H T vs Q s h q)
theorem rc_lenc {ns : List Int} : RcD K (rLenA K) [.scr ns] (.int (ns.length : Int)) := fun H T vs Q s h q => .inl (rc_lenC H T vs Q s h q)
theorem rc_lens {t : Str} (h : t.length ≤ 10000000) : RcD K (rLenA K) [.str t] (.int (t.length : Int)) := fun H T vs Q s i q => by
  obtain ⟨v, rfl, hv⟩ := isL_one i
  exact .inr ⟨t, by rw [show v = V.str t from hv], Nat.le_trans h (by decide), q _ rfl⟩
theorem ev_lenOw {i : Nat} (e : ρ[i]? = some (.ow l)) : EvD K (tCB (rLenA K) (tCons (tVar i) tNil)) ρ (.int (l.length : Int)) := fun M T0 H T σ X Q h q => by
  obtain ⟨p, vs, h1, h2, h4, _⟩ := h.own e
  exact ⟨.ref p, h1, .inl ⟨p, vs, rfl, .inl (.inl (.inl h2)), q _ H T (Same.refl _) (Same.refl _) h (by rw [h4.len]; exact (rfl : V.int _ = V.int _))⟩⟩
theorem rc_toint {i : Int} : RcD K rIntA [.int i] (.int i) := rc_int
theorem rc_tointB {b : Bool} : RcD K rIntA [.bl b] (.int (if b then 1 else 0)) := rc_intB
theorem rc_absv {i : Int} : RcD K rAbsA [.int i] (.int (i.natAbs : Int)) := rc_abs
theorem rc_lcm {a b : Int} (h : CLcm a b) : RcD K rLcmA [.int a, .int b] (.int ((Nat.lcm a.natAbs b.natAbs : Nat) : Int)) := fun H T vs Q s i q => by
  obtain ⟨v, w, rfl, hv, hw⟩ := isL_two i
  exact ⟨a, b, by rw [show v = V.int a from hv, show w = V.int b from hw], h, q _ rfl⟩
theorem rco_list : RcO K (rListA K) [.lst l] l := rc_list
theorem rco_listT : RcO K (rListA K) [.tup l] l := rc_listT
end

/-! ### a def that stands -/
structure FnG (P : Program) (w : World) (K : PySem.W.Frag) (mg : Str → Option Value) (base : Heap) (CX : CXT) (k : Nat) (x : Str) (ps : List Str) (sp : Sp) : Prop where
  ex : ∃ f fd, FnOk P w K mg base CX k f fd ps sp ∧ mg x = some (.ref f) ∧ PySem.W.keepIn K (.ref f) = true ∧ Binds K fd ps []
section
variable {X : Cx} {CX : CXT} {k : Nat} {sp : Sp} {E : XK} {x : Str} {e : Expr} {es : List Expr} {t : TA} {p pos : Pos} {ps : List Str}
theorem pe_g (G : FnG X.prog X.w X.K X.mg X.base CX k x ps sp) (hr : Room k X.A) (hx : Passes CX X E) (ha : PA X (e :: es) t) (hg : Gl X x := by rfl) (hdb : (x == ("__debug__" : Str)) = false := by decide)
    (he : starEach (e :: es) X.env = (false, eval e X.env) :: starEach es X.env := by rfl) (hpl : (backTo pos (starEach es X.env)).any (·.1) = false := by rfl) : PE X (.Call (.Name x p) (e :: es) [] pos) (tCall sp [] E t) := by
  obtain ⟨f, fd, F, hm, hk, hb⟩ := G.ex
  exact pe_call F hr hg hm hk hb .nil hx ha hdb he hpl
end
section
variable {P : Program} {w : World} {K : PySem.W.Frag} {mg : Str → Option Value} {base : Heap} {x qual : Str} {st : Stmt} {f : Addr} {fd : FuncData} {N ps : List Str} {k : Nat} {Pr : PrD}
/-- a def of the text, its facts behind the top -/
structure Df (K : PySem.W.Frag) (mg : Str → Option Value) (x : Str) (st : Stmt) (ps : List Str) : Prop where
  ex : ∃ f fd, Fun K x x st f fd ∧ mg x = some (.ref f) ∧ Binds K fd ps []
theorem Df.ok (F : Df K mg x st ps) (S : FnScope N ps (defScope st)) (len : ∀ ds R Z, Pr ds R Z → ds.length = ps.length)
    (hbody : ∀ (f : Addr) (cdv : Value) (A : Around) (outer : List Env) (s : Shared) (H : Hp) (E : XK), Room k (A.deeper (envOfC x (defScope st) s.heap.objs.size f cdv)) →
      ∃ t, PSs (cxOf CX0 P w K mg base N x (defScope st) f cdv A outer s H E).nox (defBody st) t ∧ ∀ ds R Z, Pr ds R Z → Ws K (upX E) t (ds.map .im ++ List.replicate (N.length - ds.length) .no) { nx := fun _ => R (.im .non), rt := R, ex := fun _ => Z }) :
    FnG P w K mg base CX0 (k + 1) x ps (spD K Pr) := by
  obtain ⟨f, fd, F, hm, hb⟩ := F.ex
  refine ⟨f, fd, F.ok S (fun vs H Q E h => len_fn len h) (fun cdv A outer s H vs Q E hr h => ?_), hm, F.kp, hb⟩
  obtain ⟨t, h1, h2⟩ := hbody f cdv A outer s H E hr
  exact ⟨t, h1, read_fn h h2⟩
theorem Df.okX (F : Df K mg x st ps) (S : FnScope N ps (defScope st)) (len : ∀ ds R Z, Pr ds R Z → ds.length = ps.length)
    (hbody : ∀ (f : Addr) (cdv : Value) (A : Around) (outer : List Env) (s : Shared) (H : Hp) (E : XK), Room k (A.deeper (envOfC x (defScope st) s.heap.objs.size f cdv)) →
      ∃ t, PSs (cxOf (L2.CX P w) P w K mg base N x (defScope st) f cdv A outer s H E) (defBody st) t ∧ ∀ ds R Z, Pr ds R Z → Ws K (upX E) t (ds.map .im ++ List.replicate (N.length - ds.length) .no) { nx := fun _ => R (.im .non), rt := R, ex := fun _ => Z }) :
    FnG P w K mg base (L2.CX P w) (k + 1) x ps (spD K Pr) := by
  obtain ⟨f, fd, F, hm, hb⟩ := F.ex
  refine ⟨f, fd, F.okX S (fun vs H Q E h => len_fn len h) (fun cdv A outer s H vs Q E hr h => ?_), hm, F.kp, hb⟩
  obtain ⟨t, h1, h2⟩ := hbody f cdv A outer s H E hr
  exact ⟨t, h1, read_fn h h2⟩
end

/-! ### short words for derivations; the written part is named, so that it may stand under a comprehension's binder -/
section
variable {X : Cx} (K : PySem.W.Frag)
theorem kAdd (hK : X.K = K := by rfl) : OpR X (binaryOp .Add) (rAddA K) := hK ▸ opAdd
theorem kEq (hu : X.A.units + 64 < cLine) (hK : X.K = K := by rfl) : OpR X (compareOp .Eq) (rEqA K) := hK ▸ opEq hu
theorem kNe (hu : X.A.units + 64 < cLine) (hK : X.K = K := by rfl) : OpR X (compareOp .NotEq) (rNeA K) := hK ▸ opNe hu
theorem kLen (hK : X.K = K := by rfl) : CallR X (.builtin "len") (rLenA K) := hK ▸ cLen
theorem kList (hK : X.K = K := by rfl) : CallR X (.type "list") (rListA K) := hK ▸ cList
theorem kIsi (hK : X.K = K := by rfl) : CallR X (.builtin "isinstance") (rIsi K) := hK ▸ call_isi
theorem kIn (hK : X.K = K := by rfl) : OpR X (compareOp .In) (rIn K false) := hK ▸ op_in_seq
theorem kNotIn (hK : X.K = K := by rfl) : OpR X (compareOp .NotIn) (rIn K true) := hK ▸ op_notIn_seq
theorem kIx (hK : X.K = K := by rfl) : IxR X (rIx K) := hK ▸ ix_seq
theorem ix {a b : Expr} {ta tb : TE} {pos : Pos} (ha : PE X a ta) (hb : PE X b tb) (hK : X.K = K := by rfl) (hs : PlainIx b := by exact fun _ _ => rfl) : PE X (.Subscript a b pos) (tOp (rIx K) ta tb) := pe_ix (kIx K hK) ha hb hs
theorem pl {tg l : Expr} {tl : TE} (hl : PE X l tl) (hK : X.K = K := by rfl) : PI X tg l (iList K tl) := hK ▸ pi_list hl
theorem pt {tg l : Expr} {tl : TE} (hl : PE X l tl) (hK : X.K = K := by rfl) : PI X tg l (iTup K tl) := hK ▸ pi_tup hl
theorem gt {es : List Expr} {k : Nat} {pos : Pos} {t : TGs} {n : Nat} (hc : X.calm = true) (h : PGs X es t) (hK : X.K = K := by rfl) (hn : (assignEach es X.env).length = n := by rfl) (hst : (assignEach es X.env).findIdx? (·.1) = none := by rfl) : PG X (.Tuple es k pos) (gTup K n t) := hK ▸ pg_tup hc h hn hst
theorem ml_append {o e : Expr} {to : TE} {ta : TA} {apos cpos : Pos} (ho : PE X o to) (ha : PA X [e] ta) (hK : X.K = K := by rfl) (hbase : attributeBase o "append" X.env (eval o X.env) = eval o X.env := by rfl)
    (hfew : ((backTo cpos (starEach [e] X.env)).all (fun x => !x.1) && (backToKw cpos (keywordEach [] X.env)).all (fun x => x.1.isSome)
      && decide ([e].length + ([] : List Keyword).length + (if ([] : List Keyword).isEmpty then 0 else 1) < 30)) = true := by rfl)
    (hline : (apos.endLine == cpos.line) = true := by rfl) (hs : starEach [e] X.env = (false, eval e X.env) :: starEach [] X.env := by rfl) (hplain : (backTo cpos (starEach [] X.env)).any (·.1) = false := by rfl) :
    PE X (.Call (.Attribute o "append" apos) [e] [] cpos) (tBM K "list" rAppend to ta) := hK ▸ pe_bm PySem.F.plainAttrs_list PySem.F.slot_list_append PySem.F.type_list_append mt_append ho ha hbase hfew hline hs hplain
end
section
variable {X : Cx}
theorem sv (i : Nat) {x : Str} {e : Expr} {te : TE} {pos pos' : Pos} (hN : X.N.Nodup) (he : PE X e te) (hi : X.N[i]? = some x := by rfl) (hx : Loc X.env.scope x := by first | exact Or.inl rfl | exact Or.inr rfl) (hs : swapsWith e (some (.Name x pos')) pos.line X.env = pure false := by rfl) (hf : X.fn x = true ∨ X.env.scope.names.lookup x = some .local := by first | exact .inl rfl | exact .inr rfl) :
    PS X (.Assign [.Name x pos'] e pos) (tAsg te (gName i)) := ps_set hN hi hx he hs hf
theorem gn (i : Nat) {x : Str} {pos : Pos} (hN : X.N.Nodup) (hi : X.N[i]? = some x := by rfl) (hx : Loc X.env.scope x := by first | exact Or.inl rfl | exact Or.inr rfl) (hf : X.fn x = true ∨ X.env.scope.names.lookup x = some .local := by first | exact .inl rfl | exact .inr rfl) : PG X (.Name x pos) (gName i) := pg_name hN hi hx hf
theorem cb {x : Str} {e : Expr} {es : List Expr} {t : TA} {id : String} {r : List V → Hp → VK → Prop} {p pos : Pos} (hc : CallR X (.builtin id) r) (hm : X.mg x = none) (ha : PA X (e :: es) t) (hg : Gl X x := by rfl) (hv : bootBuiltins x = some (.builtin id) := by decide +kernel) (hn : x ≠ "__name__" := by decide) (hdb : (x == ("__debug__" : Str)) = false := by decide)
    (he : starEach (e :: es) X.env = (false, eval e X.env) :: starEach es X.env := by rfl) (hpl : (backTo pos (starEach es X.env)).any (·.1) = false := by rfl) : PE X (.Call (.Name x p) (e :: es) [] pos) (tCB r t) := pe_callB hc hg hm hv ha hn hdb he hpl
theorem ct {x : Str} {e : Expr} {es : List Expr} {t : TA} {T : String} {r : List V → Hp → VK → Prop} {p pos : Pos} (hc : CallR X (.type T) r) (hm : X.mg x = none) (ha : PA X (e :: es) t) (hg : Gl X x := by rfl) (hv : bootBuiltins x = some (.type T) := by decide +kernel) (hn : x ≠ "__name__" := by decide) (hdb : (x == ("__debug__" : Str)) = false := by decide)
    (he : starEach (e :: es) X.env = (false, eval e X.env) :: starEach es X.env := by rfl) (hpl : (backTo pos (starEach es X.env)).any (·.1) = false := by rfl) : PE X (.Call (.Name x p) (e :: es) [] pos) (tCB r t) := pe_callTy hc hg hm hv ha hn hdb he hpl
end
theorem _root_.L2.Room.le {j k : Nat} {A : Around} (r : L2.Room k A) (h : j ≤ k := by first | decide | exact Nat.le_refl _) : L2.Room j A := r.mono h

/-! ### statements, something behind -/
section
variable {K : PySem.W.Frag} {E : L2.WX} {ρ : Rho} {P : Pst} {te ta tb : TE} {t u tz : TS} {tt : TT} {d x y : D} {l : List D} {ds : List D} {tr : TA} {g : TG} {i : Nat} {wi : TI}
theorem wq_asg (hv : EvD K te ρ d) (h : Ws K E tz (ρ.set i (.im d)) P) : Ws K E (tSeq (tAsg te (gName i)) tz) ρ P := ws_seq (ws_asg hv h)
theorem wq_asgO (hv : EvO K te ρ l) (hi : i < ρ.length) (h : Ws K E tz (ρ.set i (.ow l)) P) : Ws K E (tSeq (tAsg te (gName i)) tz) ρ P := ws_seq (ws_asgO hv hi h)
theorem wq_asgC (hv : EvC K te ρ d) (hi : i < ρ.length) (h : Ws K E tz (ρ.set i (.cl d)) P) : Ws K E (tSeq (tAsg te (gName i)) tz) ρ P := ws_seq (ws_asgC hv hi h)
theorem wq_asgG {as : List (Nat × D)} (hv : EvD K te ρ d) (hg : GDs K g d as) (h : Ws K E tz (setD ρ as) P) : Ws K E (tSeq (tAsg te g) tz) ρ P := ws_seq (ws_asgG hv hg h)
theorem wq_asgX {Pr : PrD} (ha : EvA K tr ρ ds) (hi : i < ρ.length) (h : Pr ds (okSl (fun ρ' => Ws K E tz ρ' P) ρ i) (P.ex ρ)) : Ws K E (tSeq (tAsg (tCallS (spD K Pr) (WE E) tr) (gName i)) tz) ρ P := ws_seq (ws_asgX ha hi h)
theorem wq_drop (hv : EvD K te ρ d) (h : Ws K E tz ρ P) : Ws K E (tSeq (tDrop te) tz) ρ P := ws_seq (ws_drop hv h)
theorem wq_dropX {Pr : PrD} (ha : EvA K tr ρ ds) (h : Pr ds (fun s => s ≠ .no → Ws K E tz ρ P) (P.ex ρ)) : Ws K E (tSeq (tDrop (tCallS (spD K Pr) (WE E) tr)) tz) ρ P := ws_seq (ws_dropX ha h)
theorem wq_app (e : ρ[i]? = some (.ow l)) (hv : EvD K te ρ d) (hz : l.length < 100000) (h : Ws K E tz (ρ.set i (.ow (l ++ [d]))) P) : Ws K E (tSeq (tDrop (tBM K "list" rAppend (tVar i) (tCons te tNil))) tz) ρ P := ws_seq (ws_app e hv hz h)
theorem wq_setL {j : Nat} {z : Int} (e : ρ[i]? = some (.ow l)) (hv : EvD K te ρ d) (hi : EvD K tb ρ (.int z)) (hj : ixN l.length z = some j) (h : Ws K E tz (ρ.set i (.ow (l.set j d))) P) : Ws K E (tSeq (tAsg te (gSub (tVar i) tb rSetL)) tz) ρ P := ws_seq (ws_setL e hv hi hj h)
theorem wq_aug {r : R2} {z : D} (e : ρ[i]? = some (.im x)) (hv : EvD K te ρ y) (hr : RvD K r x y z) (h : Ws K E tz (ρ.set i (.im z)) P) : Ws K E (tSeq (tAug i te r) tz) ρ P := ws_seq (ws_aug e hv hr h)
theorem wq_if {b : Bool} (hc : EvT K tt ρ b) (h1 : b = true → Ws K E t ρ { P with nx := fun ρ' => Ws K E tz ρ' P }) (h2 : b = false → Ws K E u ρ { P with nx := fun ρ' => Ws K E tz ρ' P }) : Ws K E (tSeq (tIfS tt t u) tz) ρ P := ws_seq (ws_if hc h1 h2)
theorem wq_when {b : Bool} (hc : EvT K tt ρ b) (h1 : b = true → Ws K E t ρ { P with nx := fun ρ' => Ws K E tz ρ' P }) (h2 : b = false → Ws K E tz ρ P) : Ws K E (tSeq (tIfS tt t tNext) tz) ρ P := ws_seq (ws_if hc h1 fun hb => ws_next (h2 hb))
theorem wq_for (hs : SrcD K wi ρ l) (Iv : Nat → Rho → Prop) (h0 : Iv 0 ρ)
    (hb : ∀ i d ρ', l[i]? = some d → Iv i ρ' → ∃ as, GDs K g d as ∧ Ws K E tb' (setD ρ' as) { P with nx := Iv (i + 1), ct := Iv (i + 1), bk := fun ρ' => Ws K E tz ρ' P })
    (hd : ∀ ρ', Iv l.length ρ' → Ws K E tz ρ' P) : Ws K E (tSeq (tFor wi g tb') tz) ρ P := ws_seq (ws_for hs Iv h0 hb hd)
theorem wq_while {tb : TS} (Iv : Nat → Rho → Prop) (m0 : Nat) (h0 : Iv m0 ρ)
    (hb : ∀ m ρ', Iv m ρ' → ∃ b, EvT K tt ρ' b ∧ (b = true → Ws K E tb ρ' { P with nx := fun ρ2 => ∃ m', m' < m ∧ Iv m' ρ2, ct := fun ρ2 => ∃ m', m' < m ∧ Iv m' ρ2, bk := fun ρ' => Ws K E tz ρ' P }) ∧ (b = false → Ws K E tz ρ' P)) : Ws K E (tSeq (tWhile tt tb) tz) ρ P := ws_seq (ws_while Iv m0 h0 hb)
/-- a fact of the state, written as one likes -/
theorem ws_to {ρ' : Rho} (e : ρ = ρ') (h : Ws K E t ρ' P) : Ws K E t ρ P := e ▸ h
end
/-- bounds by powers of two, small numbers -/
theorem cdiv_small {i j : Int} (h : 0 < j) (h2 : j < 2 ^ 62) : CDivW i j := wide_div (b := 62) h (by omega) (by decide) (by decide)
theorem cmul_left {i j : Int} (h : -(2 ^ 62) < i ∧ i < 2 ^ 62) : CMul i j := .inl ⟨by omega, by omega⟩
theorem cmul_right {i j : Int} (h : -(2 ^ 62) < j ∧ j < 2 ^ 62) : CMul i j := .inr ⟨by omega, by omega⟩
/-! items of plain lists -/
theorem at_map {α : Type} {f : α → D} {l : List α} {k : Nat} {x : α} (h : l[k]? = some x) : atI (l.map f) (k : Int) = some (f x) := atI_nat (by rw [List.getElem?_map, h] <;> rfl)
theorem at_ints {ns : List Int} {k : Nat} (h : k < ns.length) : atI (ns.map D.int) (k : Int) = some (.int (ns.getD k 0)) := at_map (by rw [List.getD_eq_getElem?_getD, List.getElem?_eq_getElem h] <;> rfl)
end FS
set_option Elab.async false
set_option linter.all false
set_option maxRecDepth 100000
set_option maxHeartbeats 4000000
namespace FS
open PySem PySem.Spec PyProof.Rows L2

/-! ### == of data -/
mutual
def D.py : D → PyData
  | .bl b => .bool b
  | .int i => .int i
  | .str x => .str x
  | .tup l => .tuple (D.pyL l)
  | .lst l => .list (D.pyL l)
  | _ => .none
def D.pyL : List D → List PyData
  | [] => []
  | d :: l => D.py d :: D.pyL l
end
mutual
/-- None, truth values, ints, texts, lists and tuples of these, at most n deep -/
def D.flat : Nat → D → Bool
  | _, .non => true
  | _, .bl _ => true
  | _, .int _ => true
  | _, .str x => PyData.strOk x
  | n + 1, .tup l => D.flatL n l
  | n + 1, .lst l => D.flatL n l
  | _, _ => false
def D.flatL : Nat → List D → Bool
  | _, [] => true
  | n, d :: l => D.flat n d && D.flatL n l
end
theorem flatL_iff {n : Nat} : ∀ {l : List D}, D.flatL n l = true ↔ ∀ d ∈ l, d.flat n = true
  | [] => by simp [D.flatL]
  | d :: l => by simp [D.flatL, flatL_iff (l := l)]
theorem pyL_map : ∀ l : List D, D.pyL l = l.map D.py
  | [] => rfl
  | d :: l => by rw [D.pyL, pyL_map l] <;> rfl
mutual
theorem py_can : ∀ (n : Nat) (d : D), d.flat n = true → d.py.canLay0 = true ∧ d.py.depth ≤ n
  | n, .non, _ => by cases n <;> exact ⟨rfl, Nat.zero_le _⟩
  | n, .bl _, _ => ⟨rfl, Nat.zero_le _⟩
  | n, .int _, _ => ⟨rfl, Nat.zero_le _⟩
  | n, .str x, h => by
    refine ⟨?_, Nat.zero_le _⟩
    cases n <;> exact h
  | 0, .tup l, h => by cases h
  | 0, .lst l, h => by cases h
  | n + 1, .tup l, h => by
    obtain ⟨h1, h2⟩ := py_canL n l h
    exact ⟨h1, Nat.succ_le_succ h2⟩
  | n + 1, .lst l, h => by
    obtain ⟨h1, h2⟩ := py_canL n l h
    exact ⟨h1, Nat.succ_le_succ h2⟩
  | n, .scr _, h => by cases n <;> cases h
  | n, .ty _, h => by cases n <;> cases h
  | n, .obj _, h => by cases n <;> cases h
  | n, .ins _ _ _, h => by cases n <;> cases h
  | n, .exc _ _ _ _, h => by cases n <;> cases h
  | n, .dic _ _, h => by cases n <;> cases h
  | n, .slf _ _ _ _, h => by cases n <;> cases h
  | n, .kn _, h => by cases n <;> cases h
theorem py_canL : ∀ (n : Nat) (l : List D), D.flatL n l = true → PyData.canLayAll0 (D.pyL l) = true ∧ PyData.depthAll (D.pyL l) ≤ n
  | n, [], _ => ⟨rfl, Nat.zero_le _⟩
  | n, d :: l, h => by
    have h' : d.flat n = true ∧ D.flatL n l = true := by simpa [D.flatL] using h
    obtain ⟨a1, a2⟩ := py_can n d h'.1
    obtain ⟨b1, b2⟩ := py_canL n l h'.2
    refine ⟨?_, Nat.max_le.mpr ⟨a2, b2⟩⟩
    show (d.py.canLay0 && PyData.canLayAll0 (D.pyL l)) = true
    rw [a1, b1] <;> rfl
end
theorem py_shaped {n : Nat} {d : D} (h : d.flat n = true) (hn : n ≤ 64) : SeqAt.shaped d.py = true := by
  obtain ⟨h1, h2⟩ := py_can n d h
  unfold SeqAt.shaped
  rw [h1, decide_eq_true (Nat.le_trans h2 hn)] <;> rfl
mutual
theorem is_dp {K : PySem.W.Frag} {H : Hp} : ∀ (n : Nat) (d : D) (v : V), d.flat n = true → Is K H d v → Dp K H v d.py
  | n, .non, _, _, h => by rw [show _ = V.non from h]; exact .non
  | n, .bl b, _, _, h => by rw [show _ = V.bl b from h]; exact .bl b
  | n, .int i, _, _, h => by rw [show _ = V.int i from h]; exact .int i
  | n, .str x, _, _, h => by rw [show _ = V.str x from h]; exact .str x
  | 0, .tup l, _, h, _ => by cases h
  | 0, .lst l, _, h, _ => by cases h
  | n + 1, .tup l, _, h, ⟨a, vs, e, h1, h2⟩ => by
    subst e
    exact .tup h1 (is_dpL n l vs h h2)
  | n + 1, .lst l, _, h, ⟨a, vs, e, h1, h2⟩ => by
    subst e
    exact .lst (.inl (.inl h1)) (is_dpL n l vs h h2)
  | n, .scr _, _, h, _ => by cases n <;> cases h
  | n, .ty _, _, h, _ => by cases n <;> cases h
  | n, .obj _, _, h, _ => by cases n <;> cases h
  | n, .ins _ _ _, _, h, _ => by cases n <;> cases h
  | n, .exc _ _ _ _, _, h, _ => by cases n <;> cases h
  | n, .dic _ _, _, h, _ => by cases n <;> cases h
  | n, .slf _ _ _ _, _, h, _ => by cases n <;> cases h
  | n, .kn _, _, h, _ => by cases n <;> cases h
theorem is_dpL {K : PySem.W.Frag} {H : Hp} : ∀ (n : Nat) (l : List D) (vs : List V), D.flatL n l = true → IsL K H l vs → DpAll K H vs (D.pyL l)
  | n, [], _, _, h => by rw [show _ = [] from h]; exact .nil
  | n, d :: l, _, h, ⟨v, r, e, h1, h2⟩ => by
    have h' : d.flat n = true ∧ D.flatL n l = true := by simpa [D.flatL] using h
    rw [e]
    exact .cons (is_dp n d v h'.1 h1) (is_dpL n l r h'.2 h2)
end
section
variable {K : PySem.W.Frag} {ρ : Rho} {x y z d : D} {l : List D} {n : Nat} {te ta tb : TE} {i : Nat} {E : L2.WX} {P : Pst}
theorem rv_eqD (h1 : x.flat n = true) (h2 : y.flat n = true) (hn : n ≤ 64) : RvD K (rEqA K) x y (.bl (PyData.eqv x.py y.py)) := fun H T vx vy Q s i1 i2 q =>
  .inr ⟨x.py, y.py, is_dp n x vx h1 (i1.up s), is_dp n y vy h2 (i2.up s), py_shaped h1 hn, py_shaped h2 hn, q _ rfl⟩
theorem rv_neD (h1 : x.flat n = true) (h2 : y.flat n = true) (hn : n ≤ 64) : RvD K (rNeA K) x y (.bl (!PyData.eqv x.py y.py)) := fun H T vx vy Q s i1 i2 q =>
  .inr ⟨x.py, y.py, is_dp n x vx h1 (i1.up s), is_dp n y vy h2 (i2.up s), py_shaped h1 hn, py_shaped h2 hn, q _ rfl⟩
theorem rv_eqDD (h1 : x.flat n = true) (hn : n ≤ 64) : RvD K (rEqA K) x x (.bl true) := by
  have h := rv_eqD (K := K) h1 h1 hn
  rw [SeqAt.eqv_refl _ (py_can n x h1).1] at h
  exact h
theorem rv_neDD (h1 : x.flat n = true) (hn : n ≤ 64) : RvD K (rNeA K) x x (.bl false) := by
  have h := rv_neD (K := K) h1 h1 hn
  rw [SeqAt.eqv_refl _ (py_can n x h1).1] at h
  exact h

/-! ### isinstance -/
/-- the built-in class of d -/
def D.cls : D → Option String
  | .non => some "NoneType"
  | .bl _ => some "bool"
  | .int _ => some "int"
  | .str _ => some "str"
  | .tup _ => some "tuple"
  | .lst _ => some "list"
  | _ => none
theorem tyx_of {H : Hp} {v : V} {c : String} (h : Is K H d v) (e : d.cls = some c) : TyX K H v (.type c) := by
  cases d with
  | non => cases e; rw [show v = V.non from h]; exact .base .non
  | bl b => cases e; rw [show v = V.bl b from h]; exact .base (.bl b)
  | int b => cases e; rw [show v = V.int b from h]; exact .base (.int b)
  | str b => cases e; rw [show v = V.str b from h]; exact .base (.str b)
  | tup l =>
    cases e
    obtain ⟨a, vs, rfl, h1, _⟩ := h
    rcases h1 with (h1 | ⟨o, h1⟩) | ⟨o, its, n, h1, h2, _⟩
    · exact .base (.tup h1)
    · exact .fTuple h1
    · exact .kTuple h1 h2
  | lst l =>
    cases e
    obtain ⟨a, vs, rfl, h1, _⟩ := h
    exact .base (.lst h1)
  | scr l => cases e
  | ty l => cases e
  | obj l => cases e
  | ins C ns l => cases e
  | exc a od ns l => cases e
  | dic a b => cases e
  | slf a b c f => cases e
  | kn b => cases e
theorem rc_isi {c t : String} {r : Bool} (e : d.cls = some c) (hk : kitB c t = some r) : RcD K (rIsi K) [d, .ty t] (.bl r) := fun H T vs Q s h q => by
  obtain ⟨v, w, rfl, h1, h2⟩ := isL_two h
  exact ⟨v, .ty t, .type c, .type t, r, by rw [show w = V.ty t from h2], .ty t, tyx_of (h1.up s) e, kit_ty hk, q _ rfl⟩

end
theorem rv_p6 {K : PySem.W.Frag} : RvD K rPowA (.int 10) (.int 6) (.int 1000000) := rv_pow ⟨by decide, by decide, by decide⟩ (by decide)
theorem rv_p7 {K : PySem.W.Frag} : RvD K rPowA (.int 10) (.int 7) (.int 10000000) := rv_pow ⟨by decide, by decide, by decide⟩ (by decide)
theorem rv_p8 {K : PySem.W.Frag} : RvD K rPowA (.int 10) (.int 8) (.int 100000000) := rv_pow ⟨by decide, by decide, by decide⟩ (by decide)
theorem rv_p12 {K : PySem.W.Frag} : RvD K rPowA (.int 10) (.int 12) (.int 1000000000000) := rv_pow ⟨by decide, by decide, by decide⟩ (by decide)
theorem rv_p18 {K : PySem.W.Frag} : RvD K rPowA (.int 10) (.int 18) (.int 1000000000000000000) := rv_pow ⟨by decide, by decide, by decide⟩ (by decide)
theorem rv_p20 {K : PySem.W.Frag} : RvD K rPowA (.int 10) (.int 20) (.int 100000000000000000000) := rv_pow ⟨by decide, by decide, by decide⟩ (by decide)
theorem rv_p25 {K : PySem.W.Frag} : RvD K rPowA (.int 10) (.int 25) (.int 10000000000000000000000000) := rv_pow ⟨by decide, by decide, by decide⟩ (by decide)
theorem rv_p30 {K : PySem.W.Frag} : RvD K rPowA (.int 10) (.int 30) (.int 1000000000000000000000000000000) := rv_pow ⟨by decide, by decide, by decide⟩ (by decide)
theorem rv_p39 {K : PySem.W.Frag} : RvD K rPowA (.int 10) (.int 39) (.int 1000000000000000000000000000000000000000) := rv_pow ⟨by decide, by decide, by decide⟩ (by decide)
theorem rv_p40 {K : PySem.W.Frag} : RvD K rPowA (.int 10) (.int 40) (.int 10000000000000000000000000000000000000000) := rv_pow ⟨by decide, by decide, by decide⟩ (by decide)
theorem rv_p60 {K : PySem.W.Frag} : RvD K rPowA (.int 10) (.int 60) (.int 1000000000000000000000000000000000000000000000000000000000000) := rv_pow ⟨by decide, by decide, by decide⟩ (by decide)
theorem at_getD {ns : List Int} {k : Int} (h0 : 0 ≤ k) (h : k < ns.length) : atI (ns.map D.int) k = some (.int (ns.getD k.toNat 0)) := by
  have e : k = ((k.toNat : Nat) : Int) := by omega
  have := at_ints (ns := ns) (k := k.toNat) (by omega)
  rw [← e] at this
  exact this
theorem atI_getD {ns : List Int} {k : Int} (h0 : 0 ≤ k) (h : k < ns.length) : atI ns k = some (ns.getD k.toNat 0) := by
  unfold atI ixN
  rw [if_pos h0, if_pos h]
  show ns[k.toNat]? = _
  rw [List.getD_eq_getElem?_getD, List.getElem?_eq_getElem (by omega)]
  rfl
theorem ev_ty {K : PySem.W.Frag} {ρ : Rho} {n : String} : EvD K (tC (.ty n)) ρ (.ty n) := ev_c fun _ => rfl
section
variable {K : PySem.W.Frag} {E : L2.WX} {ρ : Rho} {P : Pst} {t u tz : TS} {tt : TT} {b : Bool}
theorem ws_ifT (hc : EvT K tt ρ b) (e : b = true) (h : Ws K E t ρ P) : Ws K E (tIfS tt t u) ρ P := ws_if hc (fun _ => h) (fun z => by rw [e] at z; cases z)
theorem ws_ifF (hc : EvT K tt ρ b) (e : b = false) (h : Ws K E u ρ P) : Ws K E (tIfS tt t u) ρ P := ws_if hc (fun z => by rw [e] at z; cases z) (fun _ => h)
theorem wq_ifT (hc : EvT K tt ρ b) (e : b = true) (h : Ws K E t ρ { P with nx := fun ρ' => Ws K E tz ρ' P }) : Ws K E (tSeq (tIfS tt t u) tz) ρ P := ws_seq (ws_ifT hc e h)
theorem wq_ifF (hc : EvT K tt ρ b) (e : b = false) (h : Ws K E u ρ { P with nx := fun ρ' => Ws K E tz ρ' P }) : Ws K E (tSeq (tIfS tt t u) tz) ρ P := ws_seq (ws_ifF hc e h)
theorem wq_noif (hc : EvT K tt ρ b) (e : b = false) (h : Ws K E tz ρ P) : Ws K E (tSeq (tIfS tt t tNext) tz) ρ P := ws_seq (ws_ifF hc e (ws_next h))
end
/-- a def of which nothing is said -/
theorem Df.none {P : Program} {w : World} {K : PySem.W.Frag} {mg : Str → Option Value} {base : Heap} {x : Str} {st : Stmt} {ps : List Str} {CX : CXT} {k : Nat} (F : Df K mg x st ps) : FnG P w K mg base CX k x ps (spD K fun _ _ _ => False) := by
  obtain ⟨f, fd, F, hm, hb⟩ := F.ex
  exact ⟨f, fd, ⟨fun vs H Q E h => by
    obtain ⟨_, _, _, _, _, _, _, h, _⟩ := h
    exact h.elim, fun A outer s H args us vs Q E hr he hb hv h => by
    obtain ⟨_, _, _, _, _, _, _, h, _⟩ := h
    exact h.elim⟩, hm, F.kp, hb⟩
/-! data of ints, None, tuples and lists, at most n levels deep -/
mutual
def D.pl : Nat → D → Bool
  | _, .non => true
  | _, .int _ => true
  | n + 1, .tup l => D.plL n l && decide (l.length ≤ 100000)
  | n + 1, .lst l => D.plL n l && decide (l.length ≤ 100000)
  | _, _ => false
def D.plL : Nat → List D → Bool
  | _, [] => true
  | n, d :: l => D.pl n d && D.plL n l
end
theorem D.plL_get {n : Nat} : ∀ {l : List D} {i : Nat} {d : D}, D.plL n l = true → l[i]? = some d → D.pl n d = true
  | [], _, _, _, h => by simp at h
  | x :: l, 0, d, h, e => by
    rw [D.plL, Bool.and_eq_true] at h
    cases e
    exact h.1
  | x :: l, i + 1, d, h, e => by
    rw [D.plL, Bool.and_eq_true] at h
    exact D.plL_get h.2 e
theorem D.plL_of {n : Nat} : ∀ {l : List D}, (∀ d ∈ l, D.pl n d = true) → D.plL n l = true
  | [], _ => by simp [D.plL]
  | x :: l, h => by rw [D.plL, h x List.mem_cons_self, D.plL_of fun d hd => h d (List.mem_cons_of_mem _ hd)] <;> rfl
theorem D.pl_int {n : Nat} {i : Int} : D.pl n (.int i) = true := by cases n <;> rfl
theorem D.pl_non {n : Nat} : D.pl n .non = true := by cases n <;> rfl
theorem isi_non_int {K : PySem.W.Frag} : RcD K (rIsi K) [D.non, .ty "int"] (.bl false) := rc_isi rfl (by decide +kernel)
theorem isi_non_bool {K : PySem.W.Frag} : RcD K (rIsi K) [D.non, .ty "bool"] (.bl false) := rc_isi rfl (by decide +kernel)
theorem isi_non_str {K : PySem.W.Frag} : RcD K (rIsi K) [D.non, .ty "str"] (.bl false) := rc_isi rfl (by decide +kernel)
theorem isi_non_tuple {K : PySem.W.Frag} : RcD K (rIsi K) [D.non, .ty "tuple"] (.bl false) := rc_isi rfl (by decide +kernel)
theorem isi_non_list {K : PySem.W.Frag} : RcD K (rIsi K) [D.non, .ty "list"] (.bl false) := rc_isi rfl (by decide +kernel)
theorem isi_bl_int {K : PySem.W.Frag} {b : Bool} : RcD K (rIsi K) [D.bl b, .ty "int"] (.bl true) := rc_isi rfl (by decide +kernel)
theorem isi_bl_bool {K : PySem.W.Frag} {b : Bool} : RcD K (rIsi K) [D.bl b, .ty "bool"] (.bl true) := rc_isi rfl (by decide +kernel)
theorem isi_bl_str {K : PySem.W.Frag} {b : Bool} : RcD K (rIsi K) [D.bl b, .ty "str"] (.bl false) := rc_isi rfl (by decide +kernel)
theorem isi_bl_tuple {K : PySem.W.Frag} {b : Bool} : RcD K (rIsi K) [D.bl b, .ty "tuple"] (.bl false) := rc_isi rfl (by decide +kernel)
theorem isi_bl_list {K : PySem.W.Frag} {b : Bool} : RcD K (rIsi K) [D.bl b, .ty "list"] (.bl false) := rc_isi rfl (by decide +kernel)
theorem isi_int_int {K : PySem.W.Frag} {i : Int} : RcD K (rIsi K) [D.int i, .ty "int"] (.bl true) := rc_isi rfl (by decide +kernel)
theorem isi_int_bool {K : PySem.W.Frag} {i : Int} : RcD K (rIsi K) [D.int i, .ty "bool"] (.bl false) := rc_isi rfl (by decide +kernel)
theorem isi_int_str {K : PySem.W.Frag} {i : Int} : RcD K (rIsi K) [D.int i, .ty "str"] (.bl false) := rc_isi rfl (by decide +kernel)
theorem isi_int_tuple {K : PySem.W.Frag} {i : Int} : RcD K (rIsi K) [D.int i, .ty "tuple"] (.bl false) := rc_isi rfl (by decide +kernel)
theorem isi_int_list {K : PySem.W.Frag} {i : Int} : RcD K (rIsi K) [D.int i, .ty "list"] (.bl false) := rc_isi rfl (by decide +kernel)
theorem isi_str_int {K : PySem.W.Frag} {t : Str} : RcD K (rIsi K) [D.str t, .ty "int"] (.bl false) := rc_isi rfl (by decide +kernel)
theorem isi_str_bool {K : PySem.W.Frag} {t : Str} : RcD K (rIsi K) [D.str t, .ty "bool"] (.bl false) := rc_isi rfl (by decide +kernel)
theorem isi_str_str {K : PySem.W.Frag} {t : Str} : RcD K (rIsi K) [D.str t, .ty "str"] (.bl true) := rc_isi rfl (by decide +kernel)
theorem isi_str_tuple {K : PySem.W.Frag} {t : Str} : RcD K (rIsi K) [D.str t, .ty "tuple"] (.bl false) := rc_isi rfl (by decide +kernel)
theorem isi_str_list {K : PySem.W.Frag} {t : Str} : RcD K (rIsi K) [D.str t, .ty "list"] (.bl false) := rc_isi rfl (by decide +kernel)
theorem isi_tup_int {K : PySem.W.Frag} {l : List D} : RcD K (rIsi K) [D.tup l, .ty "int"] (.bl false) := rc_isi rfl (by decide +kernel)
theorem isi_tup_bool {K : PySem.W.Frag} {l : List D} : RcD K (rIsi K) [D.tup l, .ty "bool"] (.bl false) := rc_isi rfl (by decide +kernel)
theorem isi_tup_str {K : PySem.W.Frag} {l : List D} : RcD K (rIsi K) [D.tup l, .ty "str"] (.bl false) := rc_isi rfl (by decide +kernel)
theorem isi_tup_tuple {K : PySem.W.Frag} {l : List D} : RcD K (rIsi K) [D.tup l, .ty "tuple"] (.bl true) := rc_isi rfl (by decide +kernel)
theorem isi_tup_list {K : PySem.W.Frag} {l : List D} : RcD K (rIsi K) [D.tup l, .ty "list"] (.bl false) := rc_isi rfl (by decide +kernel)
theorem isi_lst_int {K : PySem.W.Frag} {l : List D} : RcD K (rIsi K) [D.lst l, .ty "int"] (.bl false) := rc_isi rfl (by decide +kernel)
theorem isi_lst_bool {K : PySem.W.Frag} {l : List D} : RcD K (rIsi K) [D.lst l, .ty "bool"] (.bl false) := rc_isi rfl (by decide +kernel)
theorem isi_lst_str {K : PySem.W.Frag} {l : List D} : RcD K (rIsi K) [D.lst l, .ty "str"] (.bl false) := rc_isi rfl (by decide +kernel)
theorem isi_lst_tuple {K : PySem.W.Frag} {l : List D} : RcD K (rIsi K) [D.lst l, .ty "tuple"] (.bl false) := rc_isi rfl (by decide +kernel)
theorem isi_lst_list {K : PySem.W.Frag} {l : List D} : RcD K (rIsi K) [D.lst l, .ty "list"] (.bl true) := rc_isi rfl (by decide +kernel)
end FS
set_option Elab.async false
set_option linter.all false
set_option maxRecDepth 100000
set_option maxHeartbeats 4000000
namespace FS
open PySem PySem.Spec PyProof.Rows L2

/-! ### parts of open trees, by path -/
section
variable {K : PySem.W.Frag} {E : L2.WX} {ρ : Rho} {P : Pst} {M X : Op} {T0 H H' T T' : Hp} {σ : L2.St} {te ta tb to : TE} {t u : TS} {d s x y : D} {l : List D} {ds : List D} {tr : TA} {i j : Nat} {π : List Nat}
theorem EnX.spot (h : EnX K M T0 H T σ ρ X) (e : ρ[i]? = some (.cl d)) (hd : D.at π d = some s) : ∃ v u Ls L0, σ[i]? = some (some v) ∧ IsC K H s u Ls ∧ Nav T π v u ∧ EnX K M T0 H T σ (ρ.set i .no) (Ls ++ (L0 ++ X)) ∧
    ∀ H' T' X' s' Ls', Same H H' → EnX K M T0 H' T' σ (ρ.set i .no) (Ls' ++ (L0 ++ X')) → IsC K H' s' u Ls' → EnX K M T0 H' T' σ (ρ.set i (.cl (D.put π d s'))) X' := by
  obtain ⟨x, Lt, h1, h2, h3⟩ := h.take e
  obtain ⟨v, rfl, hc⟩ := h2.cl1
  obtain ⟨u, Ls, L0, k1, k2, k3, k4⟩ := hc.focus hd
  have hi : i < (ρ.set i .no).length := by rw [List.length_set]; exact (List.getElem?_eq_some_iff.mp e).1
  refine ⟨v, u, Ls, L0, h1, k1, k3 T fun x hx => ?_, ?_, fun H' T' X' s' Ls' sm h' ic => ?_⟩
  · obtain ⟨L, r, q, f⟩ := h3.ex
    exact q.at_ x (List.mem_append_left _ (List.mem_append_left _ hx))
  · refine h3.perm ?_
    rw [← List.append_assoc]
    exact k2.append_right X
  · obtain ⟨L', q1, q2⟩ := k4 H' s' Ls' sm ic
    have h'' : EnX K M T0 H' T' σ (ρ.set i .no) (L' ++ X') := h'.perm (by
      rw [← List.append_assoc]
      exact (q2.symm.append_right X'))
    have q3 := EnX.setC (i := i) h'' hi q1
    rw [set_self h1, List.set_set] at q3
    exact q3
theorem EnX.here (h : EnX K M T0 H T σ ρ X) {Ls R : Op} (e : X = Ls ++ R) : ∀ x ∈ Ls, T x.1 = some x.2 := fun x hx => by
  obtain ⟨L, r, q, f⟩ := h.ex
  exact q.at_ x (List.mem_append_left _ (by rw [e]; exact List.mem_append_left _ hx))
/-- te is the part at π of the open tree in slot i -/
def EvL (K : PySem.W.Frag) (te : TE) (ρ : Rho) (i : Nat) (π : List Nat) : Prop := ∀ (M : Op) (T0 H T : Hp) (σ : L2.St) (X : Op) (Q : VK), EnX K M T0 H T σ ρ X → (∀ u H' T', Same H H' → Same T T' → EnX K M T0 H' T' σ ρ X → (∃ v, σ[i]? = some (some v) ∧ Nav T' π v u) → Q u T') → te σ T Q
theorem el_var (e : ρ[i]? = some (.cl d)) : EvL K (tVar i) ρ i [] := fun M T0 H T σ X Q h q => by
  obtain ⟨v, u, Ls, L0, h1, h2, h3, _⟩ := h.spot (π := []) e rfl
  exact ⟨v, h1, q v H T (Same.refl _) (Same.refl _) h ⟨v, h1, rfl⟩⟩
theorem Nav.snoc {v a : V} : ∀ {π : List Nat} {v w : V} {a : Addr}, Nav T π v (.ref a) → ((∃ vs, (T a = some (.lst vs) ∨ T a = some (.tup vs)) ∧ vs[j]? = some w) ∨ (∃ C dx fs n, T a = some (.ins C dx fs) ∧ fs[j]? = some (n, w)) ∨ (∃ kvs k, T a = some (.dK kvs) ∧ kvs[j]? = some (k, w))) → Nav T (π ++ [j]) v w
  | [], v, w, a, h, q => ⟨a, w, h, q, rfl⟩
  | k :: π, v, w, a, ⟨b, z, e, h, n⟩, q => ⟨b, z, e, h, Nav.snoc (v := v) (a := v) n q⟩
theorem at_snoc : ∀ {π : List Nat} {d s t : D}, D.at π d = some s → D.at [j] s = some t → D.at (π ++ [j]) d = some t
  | [], d, s, t, e, h => by
    have e : d = s := Option.some.inj e
    rw [e]
    exact h
  | k :: π, d, s, t, e, h => by
    cases d with
    | tup l =>
      obtain ⟨x, hx, e⟩ := Option.bind_eq_some_iff.mp (show (l[k]?).bind (D.at π) = some s from e)
      exact Option.bind_eq_some_iff.mpr ⟨x, hx, at_snoc e h⟩
    | lst l =>
      obtain ⟨x, hx, e⟩ := Option.bind_eq_some_iff.mp (show (l[k]?).bind (D.at π) = some s from e)
      exact Option.bind_eq_some_iff.mpr ⟨x, hx, at_snoc e h⟩
    | ins C ns l =>
      have e : (if k < ns.length then (l[k]?).bind (D.at π) else none) = some s := e
      by_cases hk : k < ns.length
      · rw [if_pos hk] at e
        obtain ⟨x, hx, e⟩ := Option.bind_eq_some_iff.mp e
        show (if k < ns.length then (l[k]?).bind (D.at (π ++ [j])) else none) = some t
        rw [if_pos hk]
        exact Option.bind_eq_some_iff.mpr ⟨x, hx, at_snoc e h⟩
      · rw [if_neg hk] at e
        cases e
    | slf a C ns l =>
      have e : (if k < ns.length then (l[k]?).bind (D.at π) else none) = some s := e
      by_cases hk : k < ns.length
      · rw [if_pos hk] at e
        obtain ⟨x, hx, e⟩ := Option.bind_eq_some_iff.mp e
        show (if k < ns.length then (l[k]?).bind (D.at (π ++ [j])) else none) = some t
        rw [if_pos hk]
        exact Option.bind_eq_some_iff.mpr ⟨x, hx, at_snoc e h⟩
      · rw [if_neg hk] at e
        cases e
    | dic ns l =>
      have e : (if k < ns.length then (l[k]?).bind (D.at π) else none) = some s := e
      by_cases hk : k < ns.length
      · rw [if_pos hk] at e
        obtain ⟨x, hx, e⟩ := Option.bind_eq_some_iff.mp e
        show (if k < ns.length then (l[k]?).bind (D.at (π ++ [j])) else none) = some t
        rw [if_pos hk]
        exact Option.bind_eq_some_iff.mpr ⟨x, hx, at_snoc e h⟩
      · rw [if_neg hk] at e
        cases e
    | non => cases e
    | bl b => cases e
    | int b => cases e
    | str b => cases e
    | scr b => cases e
    | ty b => cases e
    | obj b => cases e
    | exc a b c f => cases e
    | kn b => cases e
theorem atI_of {vs : List V} {k : Int} {w : V} (h : ixN vs.length k = some j) (e : vs[j]? = some w) : atI vs k = some w := by
  unfold atI
  rw [h]
  exact e
/-- PATH[k], a list -/
theorem el_ix {k : Int} (e : ρ[i]? = some (.cl d)) (ha : EvL K ta ρ i π) (hd : D.at π d = some (.lst l)) (hb : EvD K tb ρ (.int k)) (hj : ixN l.length k = some j) : EvL K (tOp (rIx K) ta tb) ρ i (π ++ [j]) := fun M T0 H T σ X Q h q =>
  ha M T0 H T σ X _ h fun u H1 T1 s1 t1 e1 ⟨v, n1, n2⟩ => hb M T0 H1 T1 σ X _ e1 fun w H2 T2 s2 t2 e2 iw => by
    obtain ⟨v', u', Ls, L0, h1, ⟨a, vs, Lt, eu, eL, hl⟩, h3, h4, _⟩ := e2.spot e hd
    rw [n1] at h1
    cases h1
    have eu' := Nav.eq (n2.up t2) h3
    subst eu'
    subst eu
    have hT : T2 a = some (.lst vs) := h4.here rfl (a, .lst vs) (by rw [eL]; exact List.mem_cons_self)
    have hlen := hl.len
    have hjl : j < vs.length := by
      rw [hlen]
      unfold ixN at hj
      split at hj
      · split at hj
        · cases hj
          omega
        · cases hj
      · split at hj
        · cases hj
          omega
        · cases hj
    obtain ⟨z, hz⟩ := get_some hjl
    refine .inl ⟨a, vs, k, z, rfl, iw, .inl (.inl hT), atI_of (by rw [hlen]; exact hj) hz, q z H2 T2 (s1.trans s2) (t1.trans t2) e2 ⟨v, n1, ?_⟩⟩
    exact Nav.snoc (v := z) (a := z) h3 (.inl ⟨vs, .inl hT, hz⟩)
/-- PATH[k], a tuple -/
theorem el_ixT {k : Int} (e : ρ[i]? = some (.cl d)) (ha : EvL K ta ρ i π) (hd : D.at π d = some (.tup l)) (hb : EvD K tb ρ (.int k)) (hj : ixN l.length k = some j) : EvL K (tOp (rIx K) ta tb) ρ i (π ++ [j]) := fun M T0 H T σ X Q h q =>
  ha M T0 H T σ X _ h fun u H1 T1 s1 t1 e1 ⟨v, n1, n2⟩ => hb M T0 H1 T1 σ X _ e1 fun w H2 T2 s2 t2 e2 iw => by
    obtain ⟨v', u', Ls, L0, h1, ⟨a, vs, Lt, eu, eL, hl⟩, h3, h4, _⟩ := e2.spot e hd
    rw [n1] at h1
    cases h1
    have eu' := Nav.eq (n2.up t2) h3
    subst eu'
    subst eu
    have hT : T2 a = some (.tup vs) := h4.here rfl (a, .tup vs) (by rw [eL]; exact List.mem_cons_self)
    have hlen := hl.len
    have hjl : j < vs.length := by
      rw [hlen]
      unfold ixN at hj
      split at hj
      · split at hj
        · cases hj
          omega
        · cases hj
      · split at hj
        · cases hj
          omega
        · cases hj
    obtain ⟨z, hz⟩ := get_some hjl
    refine .inr (.inl ⟨a, vs, k, z, rfl, iw, .inl (.inl hT), atI_of (by rw [hlen]; exact hj) hz, q z H2 T2 (s1.trans s2) (t1.trans t2) e2 ⟨v, n1, ?_⟩⟩)
    exact Nav.snoc (v := z) (a := z) h3 (.inl ⟨vs, .inr hT, hz⟩)
/-- which field -/
def fldAt (ns : List Str) (f : Str) : Option Nat := ns.findIdx? (· == f)
theorem fld_look {α : Type} : ∀ {ns : List Str} {vs : List α} {f : Str} {j : Nat} {w : α}, fldAt ns f = some j → vs[j]? = some w → (ns.zip vs).lookup f = some w ∧ ∃ n, (ns.zip vs)[j]? = some (n, w)
  | [], _, _, _, _, h, _ => by simp [fldAt] at h
  | n :: ns, [], _, _, _, _, h => by simp at h
  | n :: ns, v :: vs, f, j, w, h, e => by
    unfold fldAt at h
    rw [List.findIdx?_cons] at h
    by_cases hn : (n == f) = true
    · rw [if_pos hn] at h
      cases h
      have hn' : n = f := by simpa using hn
      have e : v = w := Option.some.inj e
      subst e
      subst hn'
      exact ⟨by simp [List.lookup], ⟨n, rfl⟩⟩
    · rw [if_neg hn] at h
      obtain ⟨k, hk, ek⟩ := Option.map_eq_some_iff.mp h
      subst ek
      obtain ⟨h1, m, h2⟩ := fld_look (ns := ns) (vs := vs) (f := f) (j := k) (w := w) hk (by simpa using e)
      have hn' : (f == n) = false := by
        have : ¬ n = f := by simpa using hn
        simpa using fun z => this z.symm
      refine ⟨?_, ⟨m, by simpa using h2⟩⟩
      rw [List.zip_cons_cons, List.lookup_cons, hn']
      exact h1
theorem fldAt_lt {ns : List Str} {f : Str} (h : fldAt ns f = some j) : j < ns.length := by
  unfold fldAt at h
  exact (List.findIdx?_eq_some_iff_findIdx_eq.mp h).1
/-- PATH.f -/
theorem el_fld {C : Addr} {ns : List Str} {f : Str} (e : ρ[i]? = some (.cl d)) (ha : EvL K ta ρ i π) (hd : D.at π d = some (.ins C ns l)) (hj : fldAt ns f = some j) (hl0 : j < l.length) (c : Cls K C) (n : NoAttr K C f) : EvL K (tFld K ta f) ρ i (π ++ [j]) := fun M T0 H T σ X Q h q =>
  ha M T0 H T σ X _ h fun u H1 T1 s1 t1 e1 ⟨v, n1, n2⟩ => by
    obtain ⟨v', u', Ls, L0, h1, ⟨a, dx, vs, Lt, eu, eL, hl⟩, h3, h4, _⟩ := e1.spot e hd
    rw [n1] at h1
    cases h1
    have eu' := Nav.eq n2 h3
    subst eu'
    subst eu
    have hT : T1 a = some (.ins C dx (ns.zip vs)) := h4.here rfl (a, .ins C dx (ns.zip vs)) (by rw [eL]; exact List.mem_cons_self)
    obtain ⟨z, hz⟩ := get_some (l := vs) (i := j) (by rw [hl.len]; exact hl0)
    obtain ⟨g1, m, g2⟩ := fld_look hj hz
    exact ⟨a, C, dx, _, z, rfl, hT, c, n, g1, q z H1 T1 s1 t1 e1 ⟨v, n1, Nav.snoc (v := z) (a := z) h3 (.inr (.inl ⟨C, dx, _, m, hT, g2⟩))⟩⟩
/-- what is read there now -/
theorem en_spot (e : ρ[i]? = some (.cl d)) (ha : EvL K ta ρ i π) (hd : D.at π d = some s) : EvN K ta ρ s := fun M T0 H T σ X Q h q =>
  ha M T0 H T σ X _ h fun u H1 T1 s1 t1 e1 ⟨v, n1, n2⟩ => by
    obtain ⟨v', u', Ls, L0, h1, hc, h3, h4, _⟩ := e1.spot e hd
    rw [n1] at h1
    cases h1
    have eu' := Nav.eq n2 h3
    subst eu'
    exact q u H1 T1 s1 t1 e1 (IsC.is s u Ls (hc.up e1.same) (h4.here rfl))
theorem ev_spot (e : ρ[i]? = some (.cl d)) (ha : EvL K ta ρ i π) (hd : D.at π d = some (.kn s)) : EvD K ta ρ s := fun M T0 H T σ X Q h q =>
  ha M T0 H T σ X _ h fun u H1 T1 s1 t1 e1 ⟨v, n1, n2⟩ => by
    obtain ⟨v', u', Ls, L0, h1, hc, h3, h4, _⟩ := e1.spot e hd
    rw [n1] at h1
    cases h1
    have eu' := Nav.eq n2 h3
    subst eu'
    exact q u H1 T1 s1 t1 e1 hc.1
theorem ev_spotS (e : ρ[i]? = some (.cl d)) (ha : EvL K ta ρ i π) (hd : D.at π d = some s) (hs : s.sc = true) : EvD K ta ρ s := ev_now (en_spot e ha hd) hs

/-! ### changes in place -/
/-- PATH.append(e) -/
theorem ws_appP (e : ρ[i]? = some (.cl d)) (hp : EvL K to ρ i π) (hd : D.at π d = some (.lst l)) (hv : EvC K te ρ x) (hz : l.length < 100000) (h : P.nx (ρ.set i (.cl (D.put π d (.lst (l ++ [x])))))) :
    Ws K E (tDrop (tBM K "list" rAppend to (tCons te tNil))) ρ P := fun M T0 H T σ Dn en k =>
  hp M T0 H T σ [] _ en fun u H1 T1 s1 t1 e1 ⟨v, n1, n2⟩ => by
    obtain ⟨v', u', Ls, L0, h1, ⟨a, vs, Lt, eu, eL, hl⟩, h3, h4, _⟩ := e1.spot e hd
    rw [n1] at h1
    cases h1
    have eu' := Nav.eq n2 h3
    subst eu'
    subst eu
    have hT : T1 a = some (.lst vs) := h4.here rfl (a, .lst vs) (by rw [eL]; exact List.mem_cons_self)
    refine ⟨.inl ⟨rfl, vs, .inl (.inl hT)⟩, hv M T0 H1 T1 σ [] _ e1 fun w Lw H2 T2 s2 t2 e2 iw => ?_⟩
    obtain ⟨v2, u2, Ls2, L02, g1, ⟨a2, vs2, Lt2, eu2, eL2, hl2⟩, g3, g4, g5⟩ := e2.spot e hd
    rw [n1] at g1
    cases g1
    have ea := Nav.eq (h3.up t2) g3
    rw [eu2] at ea
    cases ea
    subst eu2
    subst eL2
    have hT2 : T2 a = some (.lst vs2) := g4.here rfl (a, .lst vs2) List.mem_cons_self
    refine ⟨a, vs2, w, rfl, rfl, hT2, by rw [hl2.len]; exact Nat.lt_of_lt_of_le hz (by decide), k.nx _ σ H2 _ h (s1.trans s2) ?_⟩
    refine g5 H2 _ [] (.lst (l ++ [x])) ((a, .lst (vs2 ++ [w])) :: (Lt2 ++ Lw)) (Same.refl _) ?_ ⟨a, _, _, rfl, rfl, hl2.app (.one iw)⟩
    have g6 := EnX.write (o' := .lst (vs2 ++ [w])) g4
    refine g6.perm (List.Perm.cons _ ?_)
    show List.Perm (Lt2 ++ (L02 ++ (Lw ++ []))) ((Lt2 ++ Lw) ++ (L02 ++ []))
    rw [List.append_nil, List.append_nil, List.append_assoc]
    exact List.Perm.append_left _ List.perm_append_comm
/-- PATH[k] = e -/
theorem ws_setP {k : Int} {y0 : D} (e : ρ[i]? = some (.cl d)) (hv : EvC K te ρ x) (hp : EvL K to ρ i π) (hd : D.at π d = some (.lst l)) (hb : EvD K tb ρ (.int k)) (hj : ixN l.length k = some j) (h0 : l[j]? = some y0) (h : P.nx (ρ.set i (.cl (D.put π d (.lst (l.set j x)))))) :
    Ws K E (tAsg te (gSub to tb rSetL)) ρ P := fun M T0 H T σ Dn en kk =>
  hv M T0 H T σ [] _ en fun w Lw H0 T00 s0 t0 e0 iw => hp M T0 H0 T00 σ _ _ e0 fun u H1 T1 s1 t1 e1 ⟨v, n1, n2⟩ => hb M T0 H1 T1 σ _ _ e1 fun z H2 T2 s2 t2 e2 iz => by
    obtain ⟨v2, u2, Ls2, L02, g1, ⟨a2, vs2, Lt2, eu2, eL2, hl2⟩, g3, g4, g5⟩ := e2.spot e hd
    rw [n1] at g1
    cases g1
    have ea := Nav.eq (n2.up t2) g3
    subst ea
    subst eu2
    subst eL2
    have hT2 : T2 a2 = some (.lst vs2) := g4.here rfl (a2, .lst vs2) List.mem_cons_self
    obtain ⟨w0, Lo, L1, L2, q1, q2, q3, q4⟩ := hl2.part h0
    refine ⟨a2, vs2, k, j, rfl, iz, hT2, by rw [hl2.len]; exact hj, kk.nx _ σ H2 _ h (s0.trans (s1.trans s2)) ?_⟩
    refine g5 H2 _ [] (.lst (l.set j x)) ((a2, .lst (vs2.set j w)) :: (L1 ++ (Lw ++ L2))) (Same.refl _) ?_ ⟨a2, _, _, rfl, rfl, q4 H2 x w Lw (Same.refl _) (iw.up (s1.trans s2))⟩
    have g6 := EnX.write (o' := .lst (vs2.set j w)) g4
    subst q3
    have sb : List.Sublist ((a2, HO.lst (vs2.set j w)) :: ((L1 ++ L2) ++ (L02 ++ (Lw ++ [])))) (((a2, HO.lst (vs2.set j w)) :: (L1 ++ (Lo ++ L2))) ++ (L02 ++ (Lw ++ []))) := by
      refine List.Sublist.cons_cons _ ?_
      exact (((List.Sublist.refl _).append (List.sublist_append_right _ _))).append (List.Sublist.refl _)
    refine (g6.sub sb).perm (List.Perm.cons _ ?_)
    show List.Perm ((L1 ++ L2) ++ (L02 ++ (Lw ++ []))) ((L1 ++ (Lw ++ L2)) ++ (L02 ++ []))
    have e1 : (L1 ++ L2) ++ (L02 ++ (Lw ++ [])) = L1 ++ ((L2 ++ L02) ++ Lw) := by simp [List.append_assoc]
    have e2 : (L1 ++ (Lw ++ L2)) ++ (L02 ++ []) = L1 ++ (Lw ++ (L2 ++ L02)) := by simp [List.append_assoc]
    rw [e1, e2]
    exact List.Perm.append_left _ List.perm_append_comm
end
/-! ### fields, methods, making -/
section
variable {K : PySem.W.Frag} {E : L2.WX} {XE' : XK} {ρ : Rho} {P : Pst} {M X : Op} {T0 H H' T T' : Hp} {σ : L2.St} {te ta tb to : TE} {t u : TS} {d s x y z : D} {l : List D} {ds : List D} {tr : TA} {i j : Nat} {C : Addr} {ns : List Str} {f : Str}
theorem is_fld {v : V} {dd : D} (h : Is K H (.ins C ns l) v) (hj : fldAt ns f = some j) (hd : l[j]? = some dd) : ∃ a dx fs w, v = .ref a ∧ H a = some (.ins C dx fs) ∧ fs.lookup f = some w ∧ Is K H dd w := by
  obtain ⟨a, dx, vs, rfl, h1, h2⟩ := h
  obtain ⟨w, e1, e2⟩ := h2.get hd
  exact ⟨a, dx, _, w, rfl, h1, (fld_look hj e1).1, e2⟩
theorem ev_fld (ha : EvD K ta ρ (.ins C ns l)) (hj : fldAt ns f = some j) (hd : l[j]? = some d) (c : Cls K C) (n : NoAttr K C f) : EvD K (tFld K ta f) ρ d := fun M T0 H T σ X Q h q =>
  ha M T0 H T σ X _ h fun v H1 T1 s1 t1 e1 i1 => by
    obtain ⟨a, dx, fs, w, rfl, g1, g2, g3⟩ := is_fld i1 hj hd
    exact ⟨a, C, dx, fs, w, rfl, e1.same _ _ g1, c, n, g2, q w H1 T1 s1 t1 e1 g3⟩
theorem en_fld (ha : EvN K ta ρ (.ins C ns l)) (hj : fldAt ns f = some j) (hd : l[j]? = some d) (c : Cls K C) (n : NoAttr K C f) : EvN K (tFld K ta f) ρ d := fun M T0 H T σ X Q h q =>
  ha M T0 H T σ X _ h fun v H1 T1 s1 t1 e1 i1 => by
    obtain ⟨a, dx, fs, w, rfl, g1, g2, g3⟩ := is_fld i1 hj hd
    exact ⟨a, C, dx, fs, w, rfl, g1, c, n, g2, q w H1 T1 s1 t1 e1 g3⟩
theorem putF_zip : ∀ {ns : List Str} {vs : List V} {f : Str} {w : V}, ns.length = vs.length → f ∉ ns → putF f w (ns.zip vs) = (ns ++ [f]).zip (vs ++ [w])
  | [], [], f, w, _, _ => rfl
  | n :: ns, v :: vs, f, w, h, hn => by
    have h1 : ¬ n = f := fun e => hn (by simp [e])
    have ih := putF_zip (ns := ns) (vs := vs) (f := f) (w := w) (by simpa using h) (fun q => hn (List.mem_cons_of_mem _ q))
    show putF f w ((n, v) :: ns.zip vs) = (n, v) :: (ns ++ [f]).zip (vs ++ [w])
    rw [← ih]
    exact if_neg h1
  | [], v :: vs, _, _, h, _ => by simp at h
  | n :: ns, [], _, _, h, _ => by simp at h
/-- x.f of an instance that is being made -/
theorem el_self {a : Addr} (e : ρ[i]? = some (.cl (.slf a C ns l))) (hj : fldAt ns f = some j) (hl0 : j < l.length) (c : Cls K C) (n : NoAttr K C f) : EvL K (tFld K (tVar i) f) ρ i [j] := fun M T0 H T σ X Q h q => by
  obtain ⟨v, u, Ls, L0, h1, ⟨eu, dx, vs, Lt, eL, hl⟩, h3, h4, _⟩ := h.spot (π := []) e rfl
  have ev : v = u := h3
  subst ev
  subst eu
  have hT : T a = some (.ins C dx (ns.zip vs)) := h4.here rfl (a, .ins C dx (ns.zip vs)) (by rw [eL]; exact List.mem_cons_self)
  obtain ⟨z, hz⟩ := get_some (l := vs) (i := j) (by rw [hl.len]; exact hl0)
  obtain ⟨g1, m, g2⟩ := fld_look hj hz
  exact ⟨.ref a, h1, a, C, dx, _, z, rfl, hT, c, n, g1, q z H T (Same.refl _) (Same.refl _) h ⟨_, h1, a, z, rfl, .inr (.inl ⟨C, dx, _, m, hT, g2⟩), rfl⟩⟩
/-- x.f = e, x an instance that is being made, without f -/
theorem ws_fld {a : Addr} (e : ρ[i]? = some (.cl (.slf a C ns l))) (hv : EvC K te ρ x) (hn : ns.length = l.length) (hf : f ∉ ns) (hz : ns.length < 1000) (c : Cls K C) (n : NoAttr K C f) (h : P.nx (ρ.set i (.cl (.slf a C (ns ++ [f]) (l ++ [x]))))) :
    Ws K E (sFld K (tVar i) te f) ρ P := fun M T0 H T σ Dn en kk =>
  hv M T0 H T σ [] _ en fun w Lw H1 T1 s1 t1 e1 iw => by
    obtain ⟨v, u, Ls, L0, h1, ⟨eu, dx, vs, Lt, eL, hl⟩, h3, h4, h5⟩ := e1.spot (π := []) e rfl
    have ev : v = u := h3
    subst ev
    subst eu
    subst eL
    have hT : T1 a = some (.ins C dx (ns.zip vs)) := h4.here rfl (a, .ins C dx (ns.zip vs)) List.mem_cons_self
    have hlv : ns.length = vs.length := by rw [hn, hl.len]
    refine ⟨.ref a, h1, a, C, dx, _, rfl, hT, c, n, by rw [List.length_zip]; exact Nat.lt_of_le_of_lt (Nat.min_le_left _ _) hz, kk.nx _ σ H1 _ h s1 ?_⟩
    rw [putF_zip hlv hf]
    refine h5 H1 _ [] (.slf a C (ns ++ [f]) (l ++ [x])) ((a, .ins C dx ((ns ++ [f]).zip (vs ++ [w]))) :: (dx, .own a) :: (Lt ++ Lw)) (Same.refl _) ?_ ⟨rfl, dx, _, _, rfl, hl.app (.one iw)⟩
    have g6 := EnX.write (o' := .ins C dx ((ns ++ [f]).zip (vs ++ [w]))) h4
    refine g6.perm (List.Perm.cons _ (List.Perm.cons _ ?_))
    show List.Perm (Lt ++ (L0 ++ (Lw ++ []))) ((Lt ++ Lw) ++ (L0 ++ []))
    rw [List.append_nil, List.append_nil, List.append_assoc]
    exact List.Perm.append_left _ List.perm_append_comm
/-! methods: the instance is the first argument -/
theorem look_none {ns : List Str} {vs : List V} {m : Str} (h : m ∉ ns) : (ns.zip vs).lookup m = none := by
  rw [List.lookup_eq_none_iff]
  intro p hp
  have := (List.of_mem_zip (show (p.1, p.2) ∈ ns.zip vs from hp)).1
  simpa using fun e : m = p.1 => h (e ▸ this)
theorem ev_meth {m : Str} {P : PrD} {Ex : XK} (ha : EvD K ta ρ (.ins C ns l)) (hm : m ∉ ns) (hr : EvA K tr ρ ds) (hp : P (.ins C ns l :: ds) (fun s => s = .im z) (fun _ => False)) : EvD K (tMeth C m (spD K P) [] Ex ta tr) ρ z := fun M T0 H T σ X Q e q =>
  ha M T0 H T σ X _ e fun v H0 T0' s0 t0 e0 i0 => by
    obtain ⟨a, dx, us, rfl, g1, g2⟩ := i0
    refine ⟨a, dx, _, rfl, e0.same _ _ g1, look_none hm, hr M T0 H0 T0' σ X _ e0 fun vs H1 T1 s1 t1 e1 i1 => ?_⟩
    obtain ⟨L, r, o, f⟩ := e1.ex
    show spD K P (.ref a :: (vs ++ [])) T1 Q Ex
    rw [List.append_nil]
    refine ⟨_, H1, .ins C ns l :: ds, _, _, o, .cons ((show Is K H0 (.ins C ns l) (.ref a) from ⟨a, dx, us, rfl, g1, g2⟩).up s1) i1, hp, fun s v H' T' hs s' t' hr => ?_, fun _ _ _ _ _ _ h => h.elim⟩
    subst hs
    obtain ⟨e2, iz⟩ := e1.ret_im r f s' t' hr
    exact q v H' T' (s0.trans (s1.trans s')) (t0.trans (t1.trans t')) e2 iz
theorem ec_meth {m : Str} {P : PrD} {Ex : XK} (ha : EvD K ta ρ (.ins C ns l)) (hm : m ∉ ns) (hr : EvA K tr ρ ds) (hp : P (.ins C ns l :: ds) (fun s => s = .cl z) (fun _ => False)) : EvC K (tMeth C m (spD K P) [] Ex ta tr) ρ z := fun M T0 H T σ X Q e q =>
  ha M T0 H T σ X _ e fun v H0 T0' s0 t0 e0 i0 => by
    obtain ⟨a, dx, us, rfl, g1, g2⟩ := i0
    refine ⟨a, dx, _, rfl, e0.same _ _ g1, look_none hm, hr M T0 H0 T0' σ X _ e0 fun vs H1 T1 s1 t1 e1 i1 => ?_⟩
    obtain ⟨L, r, o, f⟩ := e1.ex
    show spD K P (.ref a :: (vs ++ [])) T1 Q Ex
    rw [List.append_nil]
    refine ⟨_, H1, .ins C ns l :: ds, _, _, o, .cons ((show Is K H0 (.ins C ns l) (.ref a) from ⟨a, dx, us, rfl, g1, g2⟩).up s1) i1, hp, fun s v H' T' hs s' t' hr => ?_, fun _ _ _ _ _ _ h => h.elim⟩
    subst hs
    obtain ⟨Lc, e2, iz⟩ := e1.ret_cl r f s' t' hr
    exact q v Lc H' T' (s0.trans (s1.trans s')) (t0.trans (t1.trans t')) e2 iz
/-- the promise of an __init__: R says what instance is made -/
def spMk (K : PySem.W.Frag) (C : Addr) (P : List D → (D → Prop) → (Exn → Prop) → Prop) : Sp := fun vs T Q Ex => ∃ (x dx : Addr) (us : List V) (M : Op) (H T0 : Hp) (ds : List D) (R : D → Prop) (Z : Exn → Prop), vs = .ref x :: us ∧ Opn H T ((x, .ins C dx []) :: (dx, .own x) :: M) ∧ IsL K H ds us ∧ T0 x = none ∧ T0 dx = none ∧ Same T0 T ∧ P ds R Z ∧
  (∀ d Lc H' T', R d → Same H H' → Same T0 T' → IsC K H' d (.ref x) Lc → Opn H' T' (Lc ++ M) → (∀ p ∈ Lc, T0 p.1 = none) → Q .non T') ∧ ∀ c ns es od H' T', Z (c, ns, es) → Same H H' → Same T0 T' → Opn H' T' M → IsX K H' od ns es → Ex c od T'
theorem ec_make {P : List D → (D → Prop) → (Exn → Prop) → Prop} {Ex : XK} (hr : EvA K tr ρ ds) (hp : P ds (fun d => d = z) (fun _ => False)) : EvC K (tMake C (spMk K C P) [] Ex tr) ρ z := fun M T0 H T σ X Q e q =>
  hr M T0 H T σ X _ e fun vs H1 T1 s1 t1 e1 i1 => fun x dx hx hdx hne => by
    obtain ⟨L, r, o, f⟩ := e1.ex
    show spMk K C P (.ref x :: (vs ++ [])) _ _ Ex
    rw [List.append_nil]
    have o1 := o.opened (o := .own x) hdx
    have hx1 : (upd T1 dx (.own x)) x = none := by rw [upd_ne (Ne.symm hne)]; exact hx
    have o2 := o1.opened (o := .ins C dx []) hx1
    refine ⟨x, dx, vs, _, H1, T1, ds, _, _, rfl, o2, i1, hx, hdx, (same_new hdx).trans (same_new hx1), hp, fun d Lc H' T' hd s' t' ic o' f' => ?_, fun _ _ _ _ _ _ h => h.elim⟩
    subst hd
    refine ⟨rfl, q (.ref x) Lc H' T' (s1.trans s') (t1.trans t') ⟨⟨L, r.up s', ?_, fun y hy => ?_⟩, e1.t0.trans t'⟩ ic⟩
    · rw [List.append_assoc]
      exact o'
    · rw [List.append_assoc] at hy
      rcases List.mem_append.mp hy with hy | hy
      · exact e1.t0.free (f' y hy)
      · exact f y hy
/-- an __init__'s body -/
theorem read_init {P : List D → (D → Prop) → (Exn → Prop) → Prop} {vs : List V} {Q : VK} {Ex : XK} {N : List Str} (h : spMk K C P vs T Q Ex)
    (hw : ∀ a ds R Z, P ds R Z → Ws K (upX Ex) t (.cl (.slf a C [] []) :: (ds.map .im ++ List.replicate (N.length - (ds.length + 1)) .no)) { nx := fun ρ' => ∃ ns l, ρ'[0]? = some (.cl (.slf a C ns l)) ∧ R (.ins C ns l), ex := fun _ => Z }) :
    t { nx := fun _ H' => Q .non H', rt := Q } (L2.start N vs) T := by
  obtain ⟨x, dx, us, M, H, T0, ds, R, Z, rfl, o, hi, hx, hdx, hs, p, k1, k2⟩ := h
  have r := EnR.start hi (N.length - (ds.length + 1))
  have e : L2.start N (.ref x :: us) = some (.ref x) :: (us.map some ++ List.replicate (N.length - (ds.length + 1)) none) := by
    unfold L2.start
    rw [List.length_cons, hi.len]
    rfl
  rw [e]
  have ic : IsC K H (.slf x C [] []) (.ref x) [(x, .ins C dx []), (dx, .own x)] := ⟨rfl, dx, [], [], rfl, rfl, rfl⟩
  have r2 := EnR.cl ic r
  refine hw x ds R Z p M T0 H T _ _ ⟨⟨_, r2, o, fun y hy => ?_⟩, hs⟩ ⟨fun ρ' σ' H' T' ⟨ns, l, q1, q2⟩ s' e' => ?_, fun _ _ _ _ q => q.elim, fun _ _ _ _ q => q.elim, fun _ _ _ _ q => q.elim, fun ρ' σ' c ns es od H' T' q s' e' hx => k2 c ns es od H' T' q s' e'.t0 e'.frame hx⟩
  · rw [List.append_nil] at hy
    have hy : y ∈ [(x, HO.ins C dx []), (dx, HO.own x)] := by simpa using hy
    rcases List.mem_cons.mp hy with rfl | hy
    · exact hx
    · have hy := List.mem_singleton.mp hy
      subst hy
      exact hdx
  · obtain ⟨x', Ls, h1, h2, h3⟩ := e'.take q1
    obtain ⟨v, rfl, hc⟩ := h2.cl1
    obtain ⟨rfl, dx', vs', Lt, rfl, hl⟩ := hc
    obtain ⟨g1, g2⟩ := EnX.give h3
    exact k1 (.ins C ns l) _ H' T' q2 s' e'.t0 ⟨x, dx', vs', Lt, rfl, rfl, hl⟩ g1 g2
end
end FS
set_option Elab.async false
set_option linter.all false
set_option maxRecDepth 100000
set_option maxHeartbeats 4000000
namespace FS
open PySem PySem.Spec PyProof.Rows L2

/-- a statement that is never reached -/
theorem ps_no {X : Cx} {st : Stmt} : PS X st tNo := ⟨fun pins s σ H D I h => h.elim⟩

/-! ### more built-ins -/
theorem vals_of_get : ∀ {xs : List V} {us : List Value}, xs.length = us.length → (∀ (i : Nat) (x : V) (u : Value), xs[i]? = some x → us[i]? = some u → RelV x u) → Vals xs us
  | [], [], _, _ => .nil
  | x :: xs, u :: us, h, q => .cons (q 0 x u rfl rfl) (vals_of_get (by simpa using h) fun i y v h1 h2 => q (i + 1) y v (by simpa using h1) (by simpa using h2))
  | [], _ :: _, h, _ => by simp at h
  | _ :: _, [], h, _ => by simp at h
section
variable {X : Cx}
def rRng1 : List V → Hp → VK → Prop := fun vs H Q => ∃ j : Int, vs = [V.int j] ∧ ∀ p, H p = none → Q (.ref p) (upd H p (.rng 0 j))
theorem cRng1 : CallR X (.type "range") rRng1 := by
  intro pins s σ H vs us Q I r h
  obtain ⟨j, rfl, q⟩ := h
  obtain ⟨u, rfl, t, rfl⟩ := vals1 r
  refine call_range_1 ⟨.ref s.heap.objs.size, upd H s.heap.objs.size (.rng 0 j), I.laid (t' := s.toks + 1 + 1) (fun b o e => Heap.get?_push_of_some _ e) (Nat.le_refl _) ?_, rfl, q _ (I.hok.fresh (Nat.le_refl _))⟩
  exact ⟨s.toks, t, s.toks + 1, Heap.get?_push_size _ rfl⟩
def rngV (n : Nat) : List V := (List.range n).map fun k : Nat => V.int (0 + (k : Int))
def rListRng : List V → Hp → VK → Prop := fun xs H Q => ∃ (p : Addr) (j : Int), xs = [.ref p] ∧ H p = some (.rng 0 j) ∧ 0 ≤ j ∧ j ≤ 100000 ∧ ∀ l, H l = none → Q (.ref l) (upd H l (.lst (rngV j.toNat)))
theorem rng_vals {n : Nat} {acc : Array Value} (h : ItemsOf (fun i v => ∃ t, v = .int (0 + i * 1) t) acc n) : Vals (rngV n) acc.toList := by
  obtain ⟨h1, h2⟩ := h
  refine vals_of_get (by rw [rngV, List.length_map, List.length_range, Array.length_toList, h1]) fun i x u hx hu => ?_
  obtain ⟨t, rfl⟩ := h2 i u (by simpa using hu)
  rw [rngV, List.getElem?_map] at hx
  obtain ⟨k, hk, rfl⟩ := Option.map_eq_some_iff.mp hx
  have : k = i := by
    have hi : i < n := by
      have := (List.getElem?_eq_some_iff.mp hk).1
      rwa [List.length_range] at this
    rw [List.getElem?_range hi] at hk
    exact (Option.some.inj hk).symm
  subst this
  refine ⟨t, ?_⟩
  rw [Int.mul_one]
theorem cListRng (hc : X.A.handled = none) : CallR X (.type "list") rListRng := by
  intro pins s σ H xs us Q I r h
  obtain ⟨p, j, rfl, hp, h0, h1, q⟩ := h
  obtain ⟨u, rfl, rx⟩ := vals1 r
  cases rx
  obtain ⟨t, v, w, hr⟩ := (show ObjOk X.prog X.w H s.heap p (.rng 0 j) from I.hok p _ hp)
  have hn : Builtin.Range.rangeSize 0 j 1 = ((j.toNat : Nat) : Int) := by rw [rangeSize_one]; split <;> omega
  refine call_list_range hc hr (small_one (by decide) (by decide) (by omega) (by omega)) hn (by omega) fun h' tk acc' c' kp e it => ?_
  refine ⟨.ref s.heap.objs.size, _, I.laid (t' := tk) kp (Nat.le_refl _) (show ObjOk X.prog X.w _ h' _ (.lst (rngV j.toNat)) from ⟨?_, acc'.toList, c', rng_vals it, by simpa using e⟩), rfl, q _ (I.hok.fresh (Nat.le_refl _))⟩
  rw [rngV, List.length_map, List.length_range]
  have : (100000 : Nat) ≤ sizeLine := by decide
  omega
end
section
variable {K : PySem.W.Frag} {E : L2.WX} {ρ : Rho} {P : Pst} {te ta tb to : TE} {tz : TS} {tt : TT} {d s x y z : D} {l l' : List D} {ds : List D} {tr : TA} {i j : Nat}
theorem isL_rng {H : Hp} (n : Nat) : IsL K H (rng 0 n) (rngV n) := by
  unfold rng rngV
  generalize List.range n = r
  induction r with
  | nil => exact (rfl : [] = [])
  | cons a r ih => exact ⟨_, _, rfl, rfl, ih⟩
/-- list(range(n)) -/
theorem evo_rng {n : Int} (h : EvA K tr ρ [.int n]) (h0 : 0 ≤ n) (h1 : n ≤ 100000) : EvO K (tCB rListRng (tCons (tCB rRng1 tr) tNil)) ρ (rng 0 n.toNat) := fun M T0 H T σ X Q e q =>
  h M T0 H T σ X _ e fun vs H1 T1 s1 t1 e1 i1 => by
    obtain ⟨v, rfl, hv⟩ := isL_one i1
    refine ⟨n, by rw [show v = V.int n from hv], fun p hp => ?_⟩
    obtain ⟨s2, e2⟩ := e1.new (o := .rng 0 n) hp
    refine ⟨p, n, rfl, upd_same, h0, h1, fun p2 hp2 => ?_⟩
    exact q p2 _ _ _ (s1.trans s2) (t1.trans ((same_new hp).trans (same_new hp2))) (e2.opened hp2) (isL_rng _)
/-! sums and the like -/
theorem seq_of {H T : Hp} {v : V} {ns : List Int} (h : Is K H (.lst (ns.map .int)) v) (s : Same H T) : ∃ a, v = .ref a ∧ SqL K T a (ns.map V.int) := by
  obtain ⟨a, vs, rfl, h1, h2⟩ := h
  rw [isL_ints_inv h2] at h1
  exact ⟨a, rfl, .inl (.inl (s _ _ h1))⟩
theorem rc_sum {ns : List Int} : RcD K (rSum K) [.lst (ns.map .int)] (.int ns.sum) := fun H T vs Q s h q => by
  obtain ⟨v, rfl, hv⟩ := isL_one h
  obtain ⟨a, rfl, hq⟩ := seq_of hv s
  exact ⟨a, ns, rfl, hq, q _ rfl⟩
theorem rc_max {ns : List Int} {m : Int} (hm : m ∈ ns) (h0 : ∀ y ∈ ns, y ≤ m) : RcD K (rMax K) [.lst (ns.map .int)] (.int m) := fun H T vs Q s h q => by
  obtain ⟨v, rfl, hv⟩ := isL_one h
  obtain ⟨a, rfl, hq⟩ := seq_of hv s
  refine ⟨a, ns, rfl, hq, List.length_pos_of_mem hm, fun k hk h1 => ?_⟩
  have : k = m := Int.le_antisymm (h0 k hk) (h1 m hm)
  rw [this]
  exact q _ rfl
theorem rc_min {ns : List Int} {m : Int} (hm : m ∈ ns) (h0 : ∀ y ∈ ns, m ≤ y) : RcD K (rMin K) [.lst (ns.map .int)] (.int m) := fun H T vs Q s h q => by
  obtain ⟨v, rfl, hv⟩ := isL_one h
  obtain ⟨a, rfl, hq⟩ := seq_of hv s
  refine ⟨a, ns, rfl, hq, List.length_pos_of_mem hm, fun k hk h1 => ?_⟩
  have : k = m := Int.le_antisymm (h1 m hm) (h0 k hk)
  rw [this]
  exact q _ rfl
theorem sorted_uniq : ∀ {l l' : List Int}, l'.Perm l → l'.Pairwise (· ≤ ·) → l.Pairwise (· ≤ ·) → l' = l := fun h h1 h2 => List.Perm.eq_of_pairwise (fun a b _ _ x y => Int.le_antisymm x y) h1 h2 h
theorem rco_sorted {ns ns' : List Int} (hp : ns'.Perm ns) (hs : ns'.Pairwise (· ≤ ·)) : RcO K (rSortedI K) [.lst (ns.map .int)] (ns'.map .int) := fun H T vs Q s h q => by
  obtain ⟨v, rfl, hv⟩ := isL_one h
  obtain ⟨a, rfl, hq⟩ := seq_of hv s
  refine ⟨a, ns, rfl, hq, fun zs p h1 h2 hn => ?_⟩
  have : zs = ns' := sorted_uniq (h1.trans hp.symm) h2 hs
  rw [this]
  exact q p _ hn (isL_ints _)
theorem is_bls {H : Hp} : ∀ {bs : List Bool} {vs : List V}, IsL K H (bs.map .bl) vs → vs = bs.map V.bl
  | [], _, h => h
  | n :: r, _, ⟨v, q, e, h1, h2⟩ => by rw [e, show v = V.bl n from h1, is_bls h2] <;> rfl
theorem rc_any {bs : List Bool} : RcD K (rAny K) [.lst (bs.map .bl)] (.bl (bs.any id)) := fun H T vs Q s h q => by
  obtain ⟨v, rfl, a, us, rfl, h1, h2⟩ := isL_one h
  rw [is_bls h2] at h1
  exact ⟨a, bs, rfl, .inl (.inl (s _ _ h1)), q _ rfl⟩
theorem rc_all {bs : List Bool} : RcD K (rAll K) [.lst (bs.map .bl)] (.bl (bs.all id)) := fun H T vs Q s h q => by
  obtain ⟨v, rfl, a, us, rfl, h1, h2⟩ := isL_one h
  rw [is_bls h2] at h1
  exact ⟨a, bs, rfl, .inl (.inl (s _ _ h1)), q _ rfl⟩
theorem inV_int {x : Int} : ∀ {ns : List Int}, inV (.int x) (ns.map V.int) = decide (x ∈ ns)
  | [] => by simp [inV]
  | n :: r => by
    have ih := inV_int (x := x) (ns := r)
    unfold inV at ih ⊢
    rw [List.map_cons, List.any_cons, ih]
    by_cases h : n = x
    · subst h
      simp [eqV]
    · have h' : ¬ x = n := fun e => h e.symm
      have : eqV (.int n) (.int x) = false := by simp [eqV, h]
      rw [this]
      simp [h']
theorem flat_ints {ns : List Int} : (ns.map V.int).all flatV = true := by
  induction ns with
  | nil => rfl
  | cons a r ih => rw [List.map_cons, List.all_cons, ih] <;> rfl
theorem rv_in {x : Int} {ns : List Int} : RvD K (rIn K false) (.int x) (.lst (ns.map .int)) (.bl (decide (x ∈ ns))) := fun H T vx vy Q s h1 h2 q => by
  obtain ⟨a, rfl, hq⟩ := seq_of h2 s
  refine ⟨a, _, rfl, .inl hq, by rw [show vx = V.int x from h1] <;> rfl, flat_ints, ?_⟩
  rw [show vx = V.int x from h1, inV_int]
  exact q _ rfl
theorem rv_notin {x : Int} {ns : List Int} : RvD K (rIn K true) (.int x) (.lst (ns.map .int)) (.bl (!decide (x ∈ ns))) := fun H T vx vy Q s h1 h2 q => by
  obtain ⟨a, rfl, hq⟩ := seq_of h2 s
  refine ⟨a, _, rfl, .inl hq, by rw [show vx = V.int x from h1] <;> rfl, flat_ints, ?_⟩
  rw [show vx = V.int x from h1, inV_int]
  exact q _ rfl
/-! extend -/
theorem ws_ext (e : ρ[i]? = some (.ow l)) (hv : EvD K te ρ (.lst l')) (hz : l.length + l'.length ≤ 100000) (h : P.nx (ρ.set i (.ow (l ++ l')))) : Ws K E (tDrop (tBM K "list" rExtend (tVar i) (tCons te tNil))) ρ P := fun M T0 H T σ Dn en k => by
  obtain ⟨p, vs, h1, h2, h4, _⟩ := en.own e
  refine ⟨.ref p, h1, .inl ⟨rfl, vs, .inl (.inl h2)⟩, hv M T0 H T σ [] _ en fun v H' T' s t' e' ⟨a, us, ev, g1, g2⟩ => ?_⟩
  subst ev
  obtain ⟨p', vs', q1, q2, q4, q5, _⟩ := e'.own e
  rw [h1] at q1
  cases q1
  exact ⟨p, a, vs', us, rfl, rfl, q2, e'.same _ _ g1, by rw [q4.len, g2.len]; exact Nat.le_trans hz (by decide), k.nx _ _ _ _ h s (q5 _ _ (q4.app g2))⟩
theorem wq_ext (e : ρ[i]? = some (.ow l)) (hv : EvD K te ρ (.lst l')) (hz : l.length + l'.length ≤ 100000) (h : Ws K E tz (ρ.set i (.ow (l ++ l'))) P) : Ws K E (tSeq (tDrop (tBM K "list" rExtend (tVar i) (tCons te tNil))) tz) ρ P := ws_seq (ws_ext e hv hz h)
theorem wq_appP {π : List Nat} (e : ρ[i]? = some (.cl d)) (hp : EvL K to ρ i π) (hd : D.at π d = some (.lst l)) (hv : EvC K te ρ x) (hz : l.length < 100000) (h : Ws K E tz (ρ.set i (.cl (D.put π d (.lst (l ++ [x]))))) P) :
    Ws K E (tSeq (tDrop (tBM K "list" rAppend to (tCons te tNil))) tz) ρ P := ws_seq (ws_appP e hp hd hv hz h)
theorem wq_fld {C a : Addr} {ns : List Str} {f : Str} (e : ρ[i]? = some (.cl (.slf a C ns l))) (hv : EvC K te ρ x) (hn : ns.length = l.length) (hf : f ∉ ns) (hz : ns.length < 1000) (c : Cls K C) (n : NoAttr K C f) (h : Ws K E tz (ρ.set i (.cl (.slf a C (ns ++ [f]) (l ++ [x])))) P) :
    Ws K E (tSeq (sFld K (tVar i) te f) tz) ρ P := ws_seq (ws_fld e hv hn hf hz c n h)

/-! ### dicts with int keys -/
def ik (ks : List Int) : List Key := ks.map .inl
theorem valV_zip : ∀ {ks : List Int} {vs : List V} {x : Int}, ks.length = vs.length → valV ((ik ks).zip vs) (.inl x) = (ks.findIdx? (· == x)).bind (vs[·]?)
  | [], [], x, _ => rfl
  | k :: ks, v :: vs, x, h => by
    have ih := valV_zip (ks := ks) (vs := vs) (x := x) (by simpa using h)
    show valV ((Sum.inl k, v) :: (ik ks).zip vs) (.inl x) = _
    rw [List.findIdx?_cons]
    by_cases e : k = x
    · subst e
      rw [valV_pos rfl]
      simp
    · rw [valV_neg (by simpa using e), ih]
      have : (k == x) = false := by simpa using e
      rw [this]
      simp only [Bool.false_eq_true, if_false]
      cases ks.findIdx? (· == x) <;> rfl
  | [], _ :: _, _, h => by simp at h
  | _ :: _, [], _, h => by simp at h
theorem ec_dnew : EvC K tDNewK ρ (.dic (ik []) []) := fun M T0 H T σ X Q e q => fun p hp => q (.ref p) [(p, .dK [])] H _ (Same.refl _) (same_new hp) (e.opened hp) ⟨p, [], [], rfl, rfl, rfl, rfl⟩
/-- x in d, d open -/
theorem dic_open {M X : Op} {T0 H T : Hp} {σ : L2.St} {ks : List Key} (en : EnX K M T0 H T σ ρ X) (e : ρ[i]? = some (.cl (.dic ks l))) : ∃ a vs Lt L0, σ[i]? = some (some (.ref a)) ∧ T a = some (.dK (ks.zip vs)) ∧ vs.length = l.length ∧ IsCL K H l vs Lt ∧
    EnX K M T0 H T σ (ρ.set i .no) (((a, .dK (ks.zip vs)) :: Lt) ++ (L0 ++ X)) ∧
    ∀ H' T' X' s' Ls', Same H H' → EnX K M T0 H' T' σ (ρ.set i .no) (Ls' ++ (L0 ++ X')) → IsC K H' s' (.ref a) Ls' → EnX K M T0 H' T' σ (ρ.set i (.cl s')) X' := by
  obtain ⟨v, u, Ls, L0, h1, ⟨a, vs, Lt, eu, eL, hl⟩, h3, h4, h5⟩ := en.spot (π := []) e rfl
  have ev : v = u := h3
  subst ev
  subst eu
  subst eL
  exact ⟨a, vs, Lt, L0, h1, h4.here rfl (a, .dK (ks.zip vs)) List.mem_cons_self, hl.len, hl, h4, h5⟩
theorem et_notind {ks : List Int} {xv : Int} (e : ρ[i]? = some (.cl (.dic (ik ks) l))) (hl : ks.length = l.length) (hv : EvD K te ρ (.int xv)) : EvD K (tDNotIn te (tVar i)) ρ (.bl (!decide (xv ∈ ks))) := fun M T0 H T σ X Q en q =>
  hv M T0 H T σ X _ en fun v H1 T1 s1 t1 e1 i1 => by
    obtain ⟨a, vs, Lt, L0, h1, h2, h3, _⟩ := dic_open e1 e
    refine ⟨.ref a, h1, a, valV ((ik ks).zip vs) (.inl xv), rfl, ?_, ?_⟩
    · rw [show v = kV (.inl xv) from i1]
      exact DGet.k h2
    · rw [valV_zip (by omega)]
      have : ((ks.findIdx? (· == xv)).bind (vs[·]?)).isSome = decide (xv ∈ ks) := by
        by_cases hm : xv ∈ ks
        · have hi : ks.findIdx? (· == xv) = some (ks.findIdx (· == xv)) := by
            rw [List.findIdx?_eq_some_iff_findIdx_eq]
            exact ⟨List.findIdx_lt_length_of_exists ⟨xv, hm, by simp⟩, rfl⟩
          have hlt : ks.findIdx (· == xv) < vs.length := by
            have := List.findIdx_lt_length_of_exists (p := (· == xv)) ⟨xv, hm, by simp⟩
            omega
          rw [hi, decide_eq_true hm]
          show (vs[ks.findIdx (· == xv)]?).isSome = true
          rw [List.getElem?_eq_getElem hlt] <;> rfl
        · have hi : ks.findIdx? (· == xv) = none := by
            rw [List.findIdx?_eq_none_iff]
            intro y hy
            simp only [beq_eq_false_iff_ne, ne_eq]
            exact fun z => hm (z ▸ hy)
          rw [hi, decide_eq_false hm] <;> rfl
      rw [this]
      exact q _ H1 T1 s1 t1 e1 rfl
theorem putK_new : ∀ {ks : List Int} {vs : List V} {x : Int} {v : V}, ks.length = vs.length → x ∉ ks → putK ((ik ks).zip vs) (.inl x) v = (ik (ks ++ [x])).zip (vs ++ [v]) := by
  intro ks vs x v h hn
  have ha : (((ik ks).zip vs).any fun kv => decide (kv.1 = (Sum.inl x : Key))) = false := by
    rw [List.any_eq_false]
    intro p hp
    have := (List.of_mem_zip (show (p.1, p.2) ∈ (ik ks).zip vs from hp)).1
    simp only [decide_eq_true_eq]
    intro z
    rw [z] at this
    obtain ⟨y, hy, ey⟩ := List.mem_map.mp this
    cases ey
    exact hn hy
  unfold putK
  rw [ha]
  simp only [Bool.false_eq_true, if_false]
  unfold ik
  rw [List.map_append, List.zip_append (by rw [List.length_map, h])]
  rfl
/-- d[x] = e, x new -/
theorem ws_dput {ks : List Int} {xv : Int} (e : ρ[i]? = some (.cl (.dic (ik ks) l))) (hl : ks.length = l.length) (hz : ks.length < 100000) (hn : xv ∉ ks) (hv : EvD K te ρ d) (hs : d.sc = true) (hx : EvD K tb ρ (.int xv)) (h : P.nx (ρ.set i (.cl (.dic (ik (ks ++ [xv])) (l ++ [d]))))) :
    Ws K E (sDPut (tVar i) tb te) ρ P := fun M T0 H T σ Dn en k =>
  hv M T0 H T σ [] _ en fun v H1 T1 s1 t1 e1 i1 => by
    obtain ⟨a, vs, Lt, L0, h1, _⟩ := dic_open e1 e
    refine ⟨.ref a, h1, hx M T0 H1 T1 σ [] _ e1 fun w H2 T2 s2 t2 e2 i2 => ?_⟩
    obtain ⟨a2, vs2, Lt2, L02, g1, g2, g3, g4, g5, g6⟩ := dic_open e2 e
    rw [h1] at g1
    cases g1
    refine ⟨a, upd T2 a (.dK ((ik (ks ++ [xv])).zip (vs2 ++ [v]))), rfl, ?_, ?_⟩
    · rw [show w = kV (.inl xv) from i2, ← putK_new (by omega) hn]
      refine DPut.k g2 ?_
      have : (100000 : Nat) ≤ sizeLine := by decide
      rw [List.length_zip]
      unfold ik
      rw [List.length_map]
      omega
    · refine k.nx _ σ H2 _ h (s1.trans s2) (g6 H2 _ [] (.dic (ik (ks ++ [xv])) (l ++ [d])) ((a, .dK ((ik (ks ++ [xv])).zip (vs2 ++ [v]))) :: (Lt2 ++ [])) (Same.refl _) ?_ ⟨a, _, _, rfl, rfl, g4.app (.one ((i1.up s2).sc hs))⟩)
      have g7 := EnX.write (o' := .dK ((ik (ks ++ [xv])).zip (vs2 ++ [v]))) g5
      rw [List.append_nil]
      exact g7
/-- d[x], d known -/
theorem ev_dget {ks : List Int} {xv : Int} {jj : Nat} (hd : EvD K ta ρ (.dic (ik ks) l)) (hx : EvD K tb ρ (.int xv)) (hl : ks.length = l.length) (hj : ks.findIdx? (· == xv) = some jj) (hg : l[jj]? = some d) : EvD K (tDGet ta tb) ρ d := fun M T0 H T σ X Q en q =>
  hd M T0 H T σ X _ en fun v H1 T1 s1 t1 e1 ⟨a, vs, ev, g1, g2⟩ => hx M T0 H1 T1 σ X _ e1 fun w H2 T2 s2 t2 e2 i2 => by
    subst ev
    obtain ⟨u, g3, g4⟩ := g2.get hg
    refine ⟨a, u, rfl, ?_, q u H2 T2 (s1.trans s2) (t1.trans t2) e2 (g4.up s2)⟩
    have := DGet.k (k := .inl xv) (e2.same _ _ (s2 _ _ g1))
    rw [valV_zip (by rw [hl, g2.len]), hj] at this
    rw [show w = kV (.inl xv) from i2]
    rw [show (some jj).bind (vs[·]?) = some u from g3] at this
    exact this
end

/-! ### methods and makers that stand -/
structure FnM (P : Program) (w : World) (K : PySem.W.Frag) (mg : Str → Option Value) (base : Heap) (CX : CXT) (k : Nat) (C : Addr) (m : Str) (ps : List Str) (sp : Sp) : Prop where
  ex : ∃ f fd, FnOk P w K mg base CX k f fd ps sp ∧ Meth K C m f ∧ Binds K fd ps []
structure FnI (P : Program) (w : World) (K : PySem.W.Frag) (mg : Str → Option Value) (base : Heap) (CX : CXT) (k : Nat) (C : Addr) (x : Str) (ps : List Str) (sp : Sp) : Prop where
  ex : ∃ f fd, FnOk P w K mg base CX k f fd ps sp ∧ Mk K C f ∧ mg x = some (.ref C) ∧ Binds K fd ps []
section
variable {X : Cx} {CX : CXT} {k : Nat} {sp : Sp} {E : XK} {x m : Str} {o e : Expr} {es : List Expr} {t : TA} {ta : TE} {p apos pos : Pos} {ps : List Str} {C : Addr}
theorem pe_m {pl : Sem Bool} (G : FnM X.prog X.w X.K X.mg X.base CX k C m ps sp) (c : Cls X.K C) (hr : Room k X.A) (hx : Passes CX X E) (he : PE X o ta) (ha : PA X (e :: es) t)
    (hst : starEach (e :: es) X.env = (false, eval e X.env) :: starEach es X.env := by rfl) (hpl : (backTo pos (starEach es X.env)).any (·.1) = false := by rfl)
    (ht : eval (.Call (.Attribute o m apos) (e :: es) [] pos) X.env = (do
      let ov ← eval o X.env
      standAt apos.atName
      let (f, first) ← holding [ov] (getMethod ov m pl)
      callWith pos f first (backTo pos (starEach (e :: es) X.env)) (backToKw pos (keywordEach [] X.env))) := by rfl) : PE X (.Call (.Attribute o m apos) (e :: es) [] pos) (tMeth C m sp [] E ta t) := by
  obtain ⟨f, fd, F, hm, hb⟩ := G.ex
  exact pe_meth he c hm F hr hb .nil hx ha hst hpl ht
theorem pe_m0 {pl : Sem Bool} (G : FnM X.prog X.w X.K X.mg X.base CX k C m ps sp) (c : Cls X.K C) (hr : Room k X.A) (hx : Passes CX X E) (he : PE X o ta)
    (ht : eval (.Call (.Attribute o m apos) [] [] pos) X.env = (do
      let ov ← eval o X.env
      standAt apos.atName
      let (f, first) ← holding [ov] (getMethod ov m pl)
      callWith pos f first (backTo pos (starEach [] X.env)) (backToKw pos (keywordEach [] X.env))) := by rfl) : PE X (.Call (.Attribute o m apos) [] [] pos) (tMeth C m sp [] E ta tNil) := by
  obtain ⟨f, fd, F, hm, hb⟩ := G.ex
  exact pe_meth0 he c hm F hr hb .nil hx ht
theorem pe_mk (G : FnI X.prog X.w X.K X.mg X.base CX k C x ps sp) (hr : Room (k + 1) X.A) (hx : Passes CX X E) (ha : PA X (e :: es) t) (hg : Gl X x := by rfl) (hdb : (x == ("__debug__" : Str)) = false := by decide)
    (he : starEach (e :: es) X.env = (false, eval e X.env) :: starEach es X.env := by rfl) (hpl : (backTo pos (starEach es X.env)).any (·.1) = false := by rfl) : PE X (.Call (.Name x p) (e :: es) [] pos) (tMake C sp [] E t) := by
  obtain ⟨f, fd, F, hm, hC, hb⟩ := G.ex
  exact pe_make hm F hr hg hC hb .nil hx ha hdb he hpl
end
section
variable {P : Program} {w : World} {K : PySem.W.Frag} {mg : Str → Option Value} {base : Heap} {x m qual : Str} {st : Stmt} {N ps : List Str} {k : Nat} {Pr : PrD} {C : Addr}
/-- a method's facts -/
structure Dm (K : PySem.W.Frag) (C : Addr) (m qual : Str) (st : Stmt) (ps : List Str) : Prop where
  ex : ∃ f fd, Fun K m qual st f fd ∧ Meth K C m f ∧ Binds K fd ps []
/-- an __init__'s -/
structure Di (K : PySem.W.Frag) (mg : Str → Option Value) (C : Addr) (x qual : Str) (st : Stmt) (ps : List Str) : Prop where
  ex : ∃ f fd, Fun K "__init__" qual st f fd ∧ Mk K C f ∧ mg x = some (.ref C) ∧ Binds K fd ps []
theorem Dm.ok (F : Dm K C m qual st ps) (S : FnScope N ps (defScope st)) (len : ∀ ds R Z, Pr ds R Z → ds.length = ps.length)
    (hbody : ∀ (f : Addr) (cdv : Value) (A : Around) (outer : List Env) (s : Shared) (H : Hp) (E : XK), Room k (A.deeper (envOfC qual (defScope st) s.heap.objs.size f cdv)) →
      ∃ t, PSs (cxOf CX0 P w K mg base N qual (defScope st) f cdv A outer s H E).nox (defBody st) t ∧ ∀ ds R Z, Pr ds R Z → Ws K (upX E) t (ds.map .im ++ List.replicate (N.length - ds.length) .no) { nx := fun _ => R (.im .non), rt := R, ex := fun _ => Z }) :
    FnM P w K mg base CX0 (k + 1) C m ps (spD K Pr) := by
  obtain ⟨f, fd, F, hm, hb⟩ := F.ex
  refine ⟨f, fd, F.ok S (fun vs H Q E h => len_fn len h) (fun cdv A outer s H vs Q E hr h => ?_), hm, hb⟩
  obtain ⟨t, h1, h2⟩ := hbody f cdv A outer s H E hr
  exact ⟨t, h1, read_fn h h2⟩
theorem len_mk {P : List D → (D → Prop) → (Exn → Prop) → Prop} {n : Nat} (hl : ∀ ds R Z, P ds R Z → ds.length + 1 = n) {vs : List V} {T : Hp} {Q : VK} {E : XK} (h : spMk K C P vs T Q E) : vs.length = n := by
  obtain ⟨x, dx, us, M, H, T0, ds, R, Z, rfl, o, hi, _, _, _, p, _⟩ := h
  rw [List.length_cons, hi.len]
  exact hl ds R Z p
theorem Di.ok {Pm : List D → (D → Prop) → (Exn → Prop) → Prop} (F : Di K mg C x qual st ps) (S : FnScope N ps (defScope st)) (len : ∀ ds R Z, Pm ds R Z → ds.length + 1 = ps.length)
    (hbody : ∀ (f : Addr) (cdv : Value) (A : Around) (outer : List Env) (s : Shared) (H : Hp) (E : XK), Room k (A.deeper (envOfC qual (defScope st) s.heap.objs.size f cdv)) →
      ∃ t, PSs (cxOf CX0 P w K mg base N qual (defScope st) f cdv A outer s H E).nox (defBody st) t ∧ ∀ a ds R Z, Pm ds R Z → Ws K (upX E) t (.cl (.slf a C [] []) :: (ds.map .im ++ List.replicate (N.length - (ds.length + 1)) .no)) { nx := fun ρ' => ∃ ns l, ρ'[0]? = some (.cl (.slf a C ns l)) ∧ R (.ins C ns l), ex := fun _ => Z }) :
    FnI P w K mg base CX0 (k + 1) C x ps (spMk K C Pm) := by
  obtain ⟨f, fd, F, hm, hC, hb⟩ := F.ex
  refine ⟨f, fd, F.ok S (fun vs H Q E h => len_mk len h) (fun cdv A outer s H vs Q E hr h => ?_), hm, hC, hb⟩
  obtain ⟨t, h1, h2⟩ := hbody f cdv A outer s H E hr
  exact ⟨t, h1, read_init h h2⟩
end
end FS
set_option Elab.async false
set_option linter.all false
set_option maxRecDepth 100000
set_option maxHeartbeats 4000000
namespace FS
open PySem PySem.Spec PyProof.Rows L2
/-! ### more short words for derivations -/
section
variable {X : Cx} (K : PySem.W.Frag)
theorem cListRngC (hc : X.calm = true) : CallR X (.type "list") rListRng := fun pins s σ H xs us Q I r h => cListRng (I.ok.hd hc) pins s σ H xs us Q I r h
theorem kSum (hc : X.calm = true) (hK : X.K = K := by rfl) : CallR X (.builtin "sum") (rSum K) := hK ▸ cr_sum hc
theorem kMax (hc : X.calm = true) (hK : X.K = K := by rfl) : CallR X (.builtin "max") (rMax K) := hK ▸ cr_max hc
theorem kMin (hc : X.calm = true) (hK : X.K = K := by rfl) : CallR X (.builtin "min") (rMin K) := hK ▸ cr_min hc
theorem kAny (hc : X.calm = true) (hK : X.K = K := by rfl) : CallR X (.builtin "any") (rAny K) := hK ▸ cr_any hc
theorem kAll (hc : X.calm = true) (hK : X.K = K := by rfl) : CallR X (.builtin "all") (rAll K) := hK ▸ cr_all hc
theorem kSorted (hK : X.K = K := by rfl) : CallR X (.builtin "sorted") (rSortedI K) := hK ▸ cr_sortedI
def rLenD : List V → Hp → VK → Prop := fun xs H Q => ∃ a kvs, xs = [V.ref a] ∧ H a = some (.dK kvs) ∧ Q (.int kvs.length) H
theorem kLenD : CallR X (.builtin "len") rLenD := call_lenD
theorem fl {o : Expr} {f : Str} {pos : Pos} {ta : TE} (he : PE X o ta) (hK : X.K = K := by rfl) (hb : attributeBase o f X.env (eval o X.env) = eval o X.env := by rfl) : PE X (.Attribute o f pos) (tFld K ta f) := hK ▸ pe_fld he hb
theorem fs {o value : Expr} {f : Str} {pos pos' : Pos} {ta tv : TE} (ha : PE X o ta) (hv : PE X value tv) (hK : X.K = K := by rfl) (hs : swapsWith value (some (.Attribute o f pos')) pos.line X.env = pure false := by rfl) : PS X (.Assign [.Attribute o f pos'] value pos) (sFld K ta tv f) := hK ▸ ps_fld ha hv hs
theorem ml_extend {o e : Expr} {to : TE} {ta : TA} {apos cpos : Pos} (ho : PE X o to) (ha : PA X [e] ta) (hK : X.K = K := by rfl) (hbase : attributeBase o "extend" X.env (eval o X.env) = eval o X.env := by rfl)
    (hfew : ((backTo cpos (starEach [e] X.env)).all (fun x => !x.1) && (backToKw cpos (keywordEach [] X.env)).all (fun x => x.1.isSome)
      && decide ([e].length + ([] : List Keyword).length + (if ([] : List Keyword).isEmpty then 0 else 1) < 30)) = true := by rfl)
    (hline : (apos.endLine == cpos.line) = true := by rfl) (hs : starEach [e] X.env = (false, eval e X.env) :: starEach [] X.env := by rfl) (hplain : (backTo cpos (starEach [] X.env)).any (·.1) = false := by rfl) :
    PE X (.Call (.Attribute o "extend" apos) [e] [] cpos) (tBM K "list" rExtend to ta) := hK ▸ pe_bm PySem.F.plainAttrs_list PySem.F.slot_list_extend PySem.F.type_list_extend mt_extend ho ha hbase hfew hline hs hplain
end
section
variable {X : Cx}
/-- a name of the module that is an int -/
theorem gl {x : Str} {i : Int} {pos : Pos} (h : ∃ t, X.mg x = some (.int i t)) (hg : Gl X x := by rfl) (hd : (x == ("__debug__" : Str)) = false := by decide) : PE X (.Name x pos) (tC (.int i)) := by
  obtain ⟨t, h⟩ := h
  exact pe_glob hg h ⟨t, rfl⟩ hd
theorem dput {o i value : Expr} {pos pos' : Pos} {td ty tv : TE} (hu : X.A.units + 64 < cLine) (ho : PE X o td) (hi : PE X i ty) (hv : PE X value tv) (hs : swapsWith value (some (.Subscript o i pos')) pos.line X.env = pure false := by rfl) : PS X (.Assign [.Subscript o i pos'] value pos) (sDPut td ty tv) := ps_dput (by omega) ho hi hv hs
theorem din {o i : Expr} {td ty : TE} (hu : X.A.units + 64 < cLine) (hi : PE X i ty) (ho : PE X o td) : PC X .In i o (tDIn ty td) := pc_din (by omega) hi ho
theorem dnotin {o i : Expr} {td ty : TE} (hu : X.A.units + 64 < cLine) (hi : PE X i ty) (ho : PE X o td) : PC X .NotIn i o (tDNotIn ty td) := pc_dnotin (by omega) hi ho
theorem dget {o i : Expr} {pos : Pos} {td ty : TE} (hu : X.A.units + 64 < cLine) (ho : PE X o td) (hi : PE X i ty) (hs : NoSl i := by exact fun _ _ => rfl) : PE X (.Subscript o i pos) (tDGet td ty) := pe_dget (by omega) ho hi hs
end
section
variable {K : PySem.W.Frag} {ρ : Rho} {i : Nat} {l : List D} {ks : List Key}
theorem ev_lenD (e : ρ[i]? = some (.cl (.dic ks l))) (hl : ks.length = l.length) : EvD K (tCB rLenD (tCons (tVar i) tNil)) ρ (.int (l.length : Int)) := fun M T0 H T σ X Q en q => by
  obtain ⟨a, vs, Lt, L0, h1, h2, h3, _⟩ := dic_open en e
  refine ⟨.ref a, h1, a, _, rfl, h2, q _ H T (Same.refl _) (Same.refl _) en ?_⟩
  show V.int _ = V.int _
  rw [List.length_zip, h3, hl, Nat.min_self]
end
end FS
set_option Elab.async false
set_option linter.all false
set_option maxRecDepth 100000
set_option maxHeartbeats 4000000
set_option exponentiation.threshold 20000
namespace FS
/-! ### drawn numbers -/
def drawsBig : Int → List Int → List Int
  | _, [] => []
  | r, s :: t => r % s :: drawsBig (r / s) t
def drawsLow : Int → Int → List Int → List Int
  | _, _, [] => []
  | seed, k, s :: t => ((((seed * 48271 + 11 * k + 7) % 2147483647) * 69621 + 3 * k + 1) % 2147483629 / 7) % s :: drawsLow ((seed * 48271 + 11 * k + 7) % 2147483647) (k + 1) t
def draws (c : Int) (sizes : List Int) : List Int := if (1000000000000000000 : Int) ≤ c then drawsBig (c - 1000000000000000000) sizes else drawsLow (c % 2147483647) 0 sizes
theorem drawsBig_len : ∀ (s : List Int) (r : Int), (drawsBig r s).length = s.length
  | [], _ => rfl
  | _ :: t, _ => by rw [drawsBig, List.length_cons, List.length_cons, drawsBig_len t]
theorem drawsLow_len : ∀ (s : List Int) (r k : Int), (drawsLow r k s).length = s.length
  | [], _, _ => rfl
  | _ :: t, _, _ => by rw [drawsLow, List.length_cons, List.length_cons, drawsLow_len t]
theorem draws_len (c : Int) (s : List Int) : (draws c s).length = s.length := by
  unfold draws
  split
  · exact drawsBig_len _ _
  · exact drawsLow_len _ _ _
theorem drawsBig_bd : ∀ (s : List Int) (r : Int) (i : Nat), (∀ x ∈ s, 0 < x) → i < s.length → 0 ≤ (drawsBig r s).getD i 0 ∧ (drawsBig r s).getD i 0 < s.getD i 0
  | [], _, _, _, h => by simp at h
  | x :: t, r, 0, hp, _ => by
    have := hp x List.mem_cons_self
    exact ⟨Int.emod_nonneg _ (by omega), Int.emod_lt_of_pos _ this⟩
  | x :: t, r, i + 1, hp, h => by
    have := drawsBig_bd t (r / x) i (fun y hy => hp y (List.mem_cons_of_mem _ hy)) (by simpa using h)
    simpa [drawsBig] using this
theorem drawsLow_bd : ∀ (s : List Int) (r k : Int) (i : Nat), (∀ x ∈ s, 0 < x) → i < s.length → 0 ≤ (drawsLow r k s).getD i 0 ∧ (drawsLow r k s).getD i 0 < s.getD i 0
  | [], _, _, _, _, h => by simp at h
  | x :: t, r, k, 0, hp, _ => by
    have := hp x List.mem_cons_self
    exact ⟨Int.emod_nonneg _ (by omega), Int.emod_lt_of_pos _ this⟩
  | x :: t, r, k, i + 1, hp, h => by
    have := drawsLow_bd t ((r * 48271 + 11 * k + 7) % 2147483647) (k + 1) i (fun y hy => hp y (List.mem_cons_of_mem _ hy)) (by simpa using h)
    simpa [drawsLow] using this
theorem draws_bd (c : Int) (s : List Int) (i : Nat) (hp : ∀ x ∈ s, 0 < x) (h : i < s.length) : 0 ≤ (draws c s).getD i 0 ∧ (draws c s).getD i 0 < s.getD i 0 := by
  unfold draws
  split
  · exact drawsBig_bd _ _ _ hp h
  · exact drawsLow_bd _ _ _ _ hp h

/-! ### Euclid's turns: x, y behind i turns -/
structure Eu (a b x y i : Nat) : Prop where
  g : Nat.gcd x y = Nat.gcd a b
  z : i = 0 → x = a ∧ y = b
  s : 1 ≤ i → y < x ∨ (x = 0 ∧ y = 0 ∧ b = 0) ∨ y = 0
  p : 1 ≤ i → x * y * 2 ^ (i - 1) ≤ b * b
theorem Eu.start (a b : Nat) : Eu a b a b 0 := ⟨rfl, fun _ => ⟨rfl, rfl⟩, fun h => by omega, fun h => by omega⟩
theorem Eu.turn {a b x y i : Nat} (h : Eu a b x y i) (hy : y ≠ 0) : Eu a b y (x % y) (i + 1) := by
  refine ⟨?_, fun h => by omega, fun _ => .inl (Nat.mod_lt _ (by omega)), fun _ => ?_⟩
  · rw [← h.g, Nat.gcd_comm x y, Nat.gcd_rec y x, Nat.gcd_comm]
  · by_cases hi : i = 0
    · obtain ⟨rfl, rfl⟩ := h.z hi
      subst hi
      have : x % y ≤ y := Nat.le_of_lt (Nat.mod_lt _ (by omega))
      show y * (x % y) * 2 ^ 0 ≤ y * y
      rw [Nat.pow_zero, Nat.mul_one]
      exact Nat.mul_le_mul_left _ this
    · have hp := h.p (by omega)
      have hs : y < x := by
        rcases h.s (by omega) with q | ⟨_, q, _⟩ | q
        · exact q
        · exact absurd q hy
        · exact absurd q hy
      have h2 : 2 * (x % y) ≤ x := by
        have e := Nat.div_add_mod x y
        have h1 : x % y < y := Nat.mod_lt _ (by omega)
        have h3 : 1 ≤ x / y := Nat.div_pos (by omega) (by omega)
        have h4 : y * 1 ≤ y * (x / y) := Nat.mul_le_mul_left y h3
        omega
      have e : i + 1 - 1 = (i - 1) + 1 := by omega
      rw [e, Nat.pow_succ]
      calc y * (x % y) * (2 ^ (i - 1) * 2) = y * (2 * (x % y)) * 2 ^ (i - 1) := by
            rw [Nat.mul_comm (2 ^ (i - 1)) 2, ← Nat.mul_assoc, Nat.mul_assoc y (x % y) 2, Nat.mul_comm (x % y) 2]
        _ ≤ y * x * 2 ^ (i - 1) := Nat.mul_le_mul_right _ (Nat.mul_le_mul_left _ h2)
        _ = x * y * 2 ^ (i - 1) := by rw [Nat.mul_comm y x]
        _ ≤ b * b := hp
theorem Eu.stop {a b x y i : Nat} (h : Eu a b x y i) (hy : y = 0) : x = Nat.gcd a b := by rw [← h.g, hy, Nat.gcd_zero_right]
/-- behind enough turns nothing is left -/
theorem Eu.done {a b x y n k : Nat} (h : Eu a b x y n) (hb : b < 2 ^ k) (hn : 2 * k + 1 ≤ n) : y = 0 := by
  rcases Nat.eq_zero_or_pos y with q | q
  · exact q
  · exfalso
    have hp := h.p (by omega)
    have hx : 1 ≤ x := by
      rcases h.s (by omega) with z | ⟨_, z, _⟩ | z <;> omega
    have h1 : 1 ≤ x * y := Nat.mul_pos hx q
    have h2 : 2 ^ (n - 1) ≤ x * y * 2 ^ (n - 1) := Nat.le_mul_of_pos_left _ h1
    have h3 : b * b < 2 ^ (2 * k) := by
      rw [Nat.two_mul, Nat.pow_add]
      exact Nat.mul_lt_mul'' hb hb
    have h4 : 2 ^ (2 * k) ≤ 2 ^ (n - 1) := Nat.pow_le_pow_right (by decide) (by omega)
    omega

/-! ### numbers -/
abbrev Num := Int × Int
def numD (x : Num) : D := .tup [.int x.1, .int x.2]
def mk (n d : Int) : Num := (n / (Nat.gcd n.natAbs d.natAbs : Nat), d / (Nat.gcd n.natAbs d.natAbs : Nat))
/-- a number of at most k bits above and below -/
structure Good (k : Nat) (x : Num) : Prop where
  pos : 0 < x.2
  up : x.1.natAbs < 2 ^ k
  dn : x.2 < 2 ^ k
  co : Nat.gcd x.1.natAbs x.2.natAbs = 1
theorem gcd_pos' {n d : Int} (h : 0 < d) : 0 < Nat.gcd n.natAbs d.natAbs := Nat.gcd_pos_of_pos_right _ (by omega)
theorem natAbs_div {n : Int} {g : Nat} (hg : 0 < g) (hd : g ∣ n.natAbs) : (n / (g : Int)).natAbs = n.natAbs / g := by
  have : (g : Int) ∣ n := Int.ofNat_dvd_left.mpr hd
  rw [Int.natAbs_ediv_of_dvd this, Int.natAbs_natCast]
theorem mk_good {n d : Int} {k : Nat} (h : 0 < d) (hn : n.natAbs < 2 ^ k) (hd : d < 2 ^ k) : Good k (mk n d) := by
  have g0 := gcd_pos' (n := n) h
  have e1 : (mk n d).1.natAbs = n.natAbs / Nat.gcd n.natAbs d.natAbs := natAbs_div g0 (Nat.gcd_dvd_left _ _)
  have e2 : (mk n d).2.natAbs = d.natAbs / Nat.gcd n.natAbs d.natAbs := natAbs_div g0 (Nat.gcd_dvd_right _ _)
  have hdd : ((Nat.gcd n.natAbs d.natAbs : Nat) : Int) ∣ d := Int.ofNat_dvd_left.mpr (Nat.gcd_dvd_right _ _)
  refine ⟨?_, ?_, ?_, ?_⟩
  · exact Int.ediv_pos_of_pos_of_dvd h (by omega) hdd
  · rw [e1]
    exact Nat.lt_of_le_of_lt (Nat.div_le_self _ _) hn
  · refine Int.lt_of_le_of_lt ?_ hd
    exact Int.ediv_le_self _ (by omega)
  · rw [e1, e2, Nat.gcd_div (Nat.gcd_dvd_left _ _) (Nat.gcd_dvd_right _ _)]
    exact Nat.div_self g0
end FS
set_option Elab.async false
set_option linter.all false
set_option maxRecDepth 100000
set_option maxHeartbeats 4000000
namespace FS
open PySem PySem.Spec PyProof.Rows L2
/-! ### the end -/
section
variable {P : Program} {w : World} {K : PySem.W.Frag} {mg : Str → Option Value} {base h : Heap} {x : Str} {st : Stmt} {f : Addr} {fd : FuncData} {N ps : List Str} {k : Nat} {Pr : PrD}
theorem df_of {oc : Value} {od an : Option Addr} {osl : Array (Option Value)} {kV doc pm cdv ct : Value} (X : K.In h) (G : h.Ns mainGlobals mg) (a : PySem.W.nsIn K mainGlobals x = some (some (.ref f))) (l : K.lookup f = some ⟨oc, od, .func (PySem.W.fnOf x x (defArgs st) (defBody st) (defScope st) .none kV doc pm an cdv ct), osl⟩)
    (c : PySem.W.codeIn K cdv x = true) (k : PySem.W.keepIn K (.ref f) = true) (b : ∀ (kV doc pm : Value) (an : Option Addr) (cdv ct : Value) (us : List Value), us.length = ps.length → bindArgs (PySem.W.fnOf x x (defArgs st) (defBody st) (defScope st) .none kV doc pm an cdv ct) ⟨us, []⟩ = pure (ps.zip us)) : Df K mg x st ps :=
  ⟨f, _, fun_mk l c k, PySem.W.mg_of X G a, (fun_mk l c k).binds b⟩
theorem okD (F : Fun K x x st f fd) (S : FnScope N ps (defScope st)) (len : ∀ ds R Z, Pr ds R Z → ds.length = ps.length)
    (hbody : ∀ (f : Addr) (cdv : Value) (A : Around) (outer : List Env) (s : Shared) (H : Hp) (E : XK), Room k (A.deeper (envOfC x (defScope st) s.heap.objs.size f cdv)) →
      ∃ t, PSs (cxOf CX0 P w K mg base N x (defScope st) f cdv A outer s H E).nox (defBody st) t ∧ ∀ ds R Z, Pr ds R Z → Ws K (upX E) t (ds.map .im ++ List.replicate (N.length - ds.length) .no) { nx := fun _ => R (.im .non), rt := R, ex := fun _ => Z }) :
    FnOk P w K mg base CX0 (k + 1) f fd ps (spD K Pr) :=
  F.ok S (fun vs H Q E h => len_fn len h) fun cdv A outer s H vs Q E hr h => by
    obtain ⟨t, h1, h2⟩ := hbody f cdv A outer s H E hr
    exact ⟨t, h1, read_fn h h2⟩
/-- what is asked of a law -/
def P_law : PrD := fun ds R _ => ∃ ns : List Int, ds = [.scr ns] ∧ R (.im (.bl true))
theorem sp_law {H : Hp} {a : Addr} {ns : List Int} (hS : SqL K H a (ns.map V.int)) : spD K P_law [.ref a] H (fun v _ => v = .bl true) fun _ _ _ => False :=
  ⟨[], H, [.scr ns], fun s => s = .im (.bl true), fun _ => False, Opn.all, .one ⟨a, rfl, hS⟩, ⟨ns, rfl, rfl⟩, fun s v H' T' hs _ _ hr => by
    subst hs
    exact hr.1, fun _ _ _ _ _ _ h => h.elim⟩
theorem law_end {k : Nat} {l : PySem.W.OpenLaw} {oc : Value} {od an : Option Addr} {osl : Array (Option Value)} {kV doc pm cdv ct : Value} {fa : Addr} (X : K.In h) (G : h.Ns mainGlobals mg) (hfa : mg "law" = some (.ref fa)) (a : PySem.W.nsIn K mainGlobals "law" = some (some (.ref f))) (lk : K.lookup f = some ⟨oc, od, .func (PySem.W.fnOf "law" "law" (defArgs st) (defBody st) (defScope st) .none kV doc pm an cdv ct), osl⟩)
    (c : PySem.W.codeIn K cdv "law" = true) (kp : PySem.W.keepIn K (.ref f) = true) (CX : CXT)
    (b : ∀ (s : Shared) (v : Value), BindsTo s (PySem.W.fnOf "law" "law" (defArgs st) (defBody st) (defScope st) .none kV doc pm an cdv ct) ⟨[v], []⟩ [("script", v)])
    (ok : ∀ (fd : FuncData) (base : Heap), Fun K "law" "law" st f fd → FnOk l.prog w K mg base CX k f fd ["script"] (spD K P_law)) :
    ∃ fd : FuncData, (∀ (s : Shared) (v : Value), BindsTo s fd ⟨[v], []⟩ [("script", v)]) ∧ ∀ base : Heap, K.In base → base.Ns mainGlobals mg → FnOk l.prog w K mg base CX k fa fd ["script"] (spD K P_law) := by
  have e := hfa.symm.trans (PySem.W.mg_of X G a)
  cases e
  exact ⟨_, b, fun base _ _ => ok _ base (fun_mk lk c kp)⟩
end
end FS
set_option Elab.async false
set_option linter.all false
set_option maxRecDepth 100000
set_option maxHeartbeats 4000000
set_option exponentiation.threshold 20000
namespace FS
open PySem PySem.Spec PyProof.Rows L2
theorem map_get {α : Type} {f : α → D} {l : List α} {i : Nat} {d : D} (h : (l.map f)[i]? = some d) : ∃ x, l[i]? = some x ∧ d = f x := by
  rw [List.getElem?_map] at h
  cases e : l[i]? with
  | none => rw [e] at h; cases h
  | some x =>
    rw [e] at h
    exact ⟨x, rfl, (Option.some.inj h).symm⟩
theorem drop_get {α : Type} {l : List α} {i : Nat} {x : α} (h : l[i]? = some x) : l.drop i = x :: l.drop (i + 1) := by
  obtain ⟨hi, e⟩ := List.getElem?_eq_some_iff.mp h
  rw [List.drop_eq_getElem_cons hi, e]
theorem ws_cut {K : PySem.W.Frag} {E : L2.WX} {t u : TS} {ρ : Rho} {P : Pst} (ρm : Rho) (h : Ws K E t ρ { P with nx := fun ρ' => ρ' = ρm }) (h2 : Ws K E u ρm P) : Ws K E (tSeq t u) ρ P :=
  ws_seq (ws_mono h (fun ρ' e => by rw [show ρ' = ρm from e]; exact h2) (fun _ q => q) (fun _ q => q) (fun _ q => q) fun _ _ q => q)
/-- .. where some slots are told loosely -/
theorem ws_mid {K : PySem.W.Frag} {E : L2.WX} {t u : TS} {ρ : Rho} {P : Pst} (I : Rho → Prop) (h : Ws K E t ρ { P with nx := I }) (h2 : ∀ ρ', I ρ' → Ws K E u ρ' P) : Ws K E (tSeq t u) ρ P :=
  ws_seq (ws_mono h (fun ρ' q => h2 ρ' q) (fun _ q => q) (fun _ q => q) (fun _ q => q) fun _ _ q => q)
def cell (ns : List Int) (k : Int) : Int := if k < ns.length then ns.getD k.toNat 0 else 31 * k + 5
theorem cdiv_200 {i j : Int} (h : 0 < j) (h2 : j < 2 ^ 200) : CDivW i j := wide_div (b := 200) h (by omega) (by decide) (by decide)
theorem scal_ints (l : List Int) : ∀ d ∈ l.map D.int, d.sc = true := by
  intro d hd
  obtain ⟨x, _, rfl⟩ := List.mem_map.mp hd
  rfl
theorem cast_lt {a k : Nat} (h : a < 2 ^ k) : (a : Int) < 2 ^ k := by exact_mod_cast h
theorem abs_lt {d : Int} {k : Nat} (h0 : 0 ≤ d) (h : d < 2 ^ k) : d.natAbs < 2 ^ k := by
  have : (d.natAbs : Int) < ((2 ^ k : Nat) : Int) := by
    rw [Int.natAbs_of_nonneg h0]
    exact_mod_cast h
  exact_mod_cast this
theorem div_up {f : Nat} {d : Int} {k : Nat} (h : f < 2 ^ k) (hd : 0 < d) : ((f : Int) / d).natAbs < 2 ^ k := by
  have e : ((f : Int) / d) = ((f / d.natAbs : Nat) : Int) := by
    have : d = ((d.natAbs : Nat) : Int) := by omega
    rw [Int.natCast_ediv, ← this]
  rw [e, Int.natAbs_natCast]
  exact Nat.lt_of_le_of_lt (Nat.div_le_self _ _) h
theorem EvC.is {K : PySem.W.Frag} {ρ : Rho} {te : TE} {x y : D} (h : EvC K te ρ x) (e : x = y) : EvC K te ρ y := e ▸ h
theorem ev_er {K : PySem.W.Frag} {ρ : Rho} {te : TE} {d : D} (h : EvD K te ρ d) : EvD K te ρ d.er := fun M T0 H T σ X Q e q => h M T0 H T σ X _ e fun v H1 T1 s1 t1 e1 i1 => q v H1 T1 s1 t1 e1 (Is.er d v i1)
theorem erL_kn {α : Type} {f : α → D} : ∀ l : List α, D.erL (l.map fun x => .kn (f x)) = l.map f
  | [] => rfl
  | x :: l => by rw [List.map_cons, List.map_cons, D.erL, erL_kn l] <;> rfl
/-! rows of numbers -/
def intsD (l : List Int) : D := .lst (l.map .int)
def natsD (l : List Nat) : D := .lst (l.map fun n : Nat => .int (n : Int))
def nats (l : List Nat) : List Int := l.map fun n : Nat => (n : Int)
theorem natsD_eq (l : List Nat) : natsD l = intsD (nats l) := by
  unfold natsD intsD nats
  rw [List.map_map]
  rfl
theorem rng_nats (n : Nat) : rng 0 n = (nats (List.range n)).map .int := by
  unfold rng nats
  rw [List.map_map]
  refine List.map_congr_left fun k _ => ?_
  show D.int (0 + (k : Int)) = D.int (k : Int)
  rw [Int.zero_add]
theorem mem_nats {l : List Nat} {x : Nat} : (x : Int) ∈ nats l ↔ x ∈ l := by
  unfold nats
  rw [List.mem_map]
  exact ⟨fun ⟨y, h, e⟩ => by rw [← Int.ofNat.inj e]; exact h, fun h => ⟨x, h, rfl⟩⟩
theorem at_nats {l : List Nat} {k x : Nat} (h : l[k]? = some x) : atI (l.map fun n : Nat => D.int (n : Int)) (k : Int) = some (.int (x : Int)) := at_map (f := fun n : Nat => D.int (n : Int)) h
theorem kf_ints (l : List Int) : (intsD l).kf = true := D.kf_lst fun d hd => D.sc_kf (scal_ints l d hd)
/-- what a filter leaves when one more is looked at -/
theorem filter_range_succ {n : Nat} {p : Nat → Bool} : (List.range (n + 1)).filter p = (List.range n).filter p ++ if p n then [n] else [] := by
  rw [List.range_succ, List.filter_append, List.filter_cons]
  cases p n <;> rfl
theorem rv_p9 {K : PySem.W.Frag} : RvD K rPowA (.int 10) (.int 9) (.int 1000000000) := rv_pow ⟨by decide, by decide, by decide⟩ (by decide)
theorem rv_p31 {K : PySem.W.Frag} : RvD K rPowA (.int 10) (.int 31) (.int 10000000000000000000000000000000) := rv_pow ⟨by decide, by decide, by decide⟩ (by decide)
theorem rv_p51 {K : PySem.W.Frag} : RvD K rPowA (.int 10) (.int 51) (.int 1000000000000000000000000000000000000000000000000000) := rv_pow ⟨by decide, by decide, by decide⟩ (by decide)
end FS
set_option Elab.async false
set_option linter.all false
set_option maxRecDepth 100000
set_option maxHeartbeats 4000000
/-! Errors with fields: made, raised, caught, asked. -/
namespace FS
open PySem PySem.Spec PyProof.Rows L2

/-! ### Up.__init__(self, ..), Up an own class over ValueError that has no __init__ -/
structure UpC (K : PySem.W.Frag) (mg : Str → Option Value) (x : Str) (CF : Addr) : Prop where
  mg : mg x = some (.ref CF)
  rd : PySem.W.readsIn K CF (.type "type") = true
  ga : PySem.W.specialIn K (.ref CF) "__getattribute__" = some (some (.builtin "type.__getattribute__"))
  fi : PySem.W.findCls K (.ref CF) (.type "type") "__init__" = some (.val (.builtin "ValueError.__init__"))
section
variable {X : Cx} {e : Expr} {es : List Expr} {ta : TA} {x : Str} {CF : Addr} {p1 p2 pos : Pos}
theorem pe_up {pl : Sem Bool} (U : UpC X.K X.mg x CF) (hg : Gl X x) (ha : PA X (e :: es) ta) (hdb : (x == ("__debug__" : Str)) = false := by decide)
    (hc : eval (.Call (.Attribute (.Name x p1) "__init__" p2) (e :: es) [] pos) X.env = (eval (.Name x p1) X.env >>= fun ov => standAt p2.atName >>= fun _ => holding [ov] (getMethod ov "__init__" pl) >>= fun r => callWith pos r.1 r.2 (backTo pos (starEach (e :: es) X.env)) (backToKw pos (keywordEach [] X.env))) := by rfl)
    (hs : starEach (e :: es) X.env = (false, eval e X.env) :: starEach es X.env := by rfl) (hpl : (backTo pos (starEach es X.env)).any (·.1) = false := by rfl) : PE X (.Call (.Attribute (.Name x p1) "__init__" p2) (e :: es) [] pos) (tVeI X.K ta) := ⟨fun pins s σ H Q I h => by
  refine PySem.W.methodCall_KW (pl := pl) (ld_glob I hg U.mg (PySem.W.method_cls I.kIn U.ga (PySem.W.cls_value I.kIn U.rd U.fi rfl ?_)) hdb) hc
  refine PyProof.Rows.callWith_method1 (id := "ValueError.__init__") (thn (ha.run pos pins _ σ H _ (I.tok _) h) ?_) hs hpl
  rintro us s1 ⟨vs, H1, I1, r1, a, C, ws, ev, hl, T, ea, q⟩
  subst ev
  match us, r1 with
  | _, .cons ra rr =>
    cases (show _ = Value.ref a from ra)
    have hz : _ ≤ 1000 := rr.length ▸ hl
    exact oinit_ok T I1 ea (Nat.le_trans hz (by decide)) fun s' J => ⟨.non, H1, J, rfl, q⟩⟩
end

/-! ### an __init__ that keeps its arguments -/
/-- the exception at a, its fields told from the last one on -/
def xmade (H : Hp) (a C dx : Addr) (fs : List (Str × V)) : Hp := upd (upd H dx (exd dx fs)) a (exo a C (some dx))
def spXI (C : Addr) (ns : List Str) : Sp := fun vs H Q _ => ∃ (a : Addr) (ws : List V), vs = .ref a :: ws ∧ ws.length = ns.length ∧ H a = some (exo a C none) ∧ ∀ dx, H dx = none → dx ≠ a → Q .non (xmade H a C dx (ns.reverse.zip ws.reverse))
theorem xmade_more {H : Hp} {a C dx : Addr} {fs fs' : List (Str × V)} (h : dx ≠ a) : upd (xmade H a C dx fs) dx (exd dx fs') = xmade H a C dx fs' := by
  funext b
  unfold xmade
  by_cases h1 : b = dx
  · subst h1
    rw [upd_same, upd_ne h, upd_same]
  · rw [upd_ne h1]
    by_cases h2 : b = a
    · subst h2
      rw [upd_same, upd_same]
    · rw [upd_ne h2, upd_ne h2, upd_ne h1, upd_ne h1]
section
variable {K : PySem.W.Frag} {C : Addr} {f g : Str} {H : Hp} {vs : List V} {Q : VK} {E : XK} {m : Str}
/-- the body's reading: one field -/
theorem xi_1 (T : OexC K C) (n1 : PySem.W.findIn K (.ref C) f = some none) (h : spXI C [f] vs H Q E) :
    tSeq (tDrop (tVeI K (tCons (tVar 0) (tCons (tC (.str m)) tNil)))) (tOst K f (tVar 0) (tVar 1)) { nx := fun _ H' => Q .non H', rt := Q } (L2.start ["self", f] vs) H := by
  obtain ⟨a, ws, rfl, hl, ha, q⟩ := h
  obtain ⟨w, rfl⟩ := List.length_eq_one_iff.mp hl
  refine ⟨.ref a, rfl, a, C, [.str m], rfl, by simp, T, ha, ?_⟩
  exact ⟨w, rfl, .ref a, rfl, a, C, rfl, T, n1, .inl ⟨ha, fun dx h1 h2 => q dx h1 h2⟩⟩
theorem xi_2 (T : OexC K C) (n1 : PySem.W.findIn K (.ref C) f = some none) (n2 : PySem.W.findIn K (.ref C) g = some none) (h : spXI C [f, g] vs H Q E) :
    tSeq (tDrop (tVeI K (tCons (tVar 0) (tCons (tC (.str m)) tNil)))) (tSeq (tOst K f (tVar 0) (tVar 1)) (tOst K g (tVar 0) (tVar 2))) { nx := fun _ H' => Q .non H', rt := Q } (L2.start ["self", f, g] vs) H := by
  obtain ⟨a, ws, rfl, hl, ha, q⟩ := h
  obtain ⟨w, u, rfl⟩ : ∃ w u, ws = [w, u] := by
    match ws, hl with
    | [w, u], _ => exact ⟨w, u, rfl⟩
  refine ⟨.ref a, rfl, a, C, [.str m], rfl, by simp, T, ha, ?_⟩
  refine ⟨w, rfl, .ref a, rfl, a, C, rfl, T, n1, .inl ⟨ha, fun dx h1 h2 => ?_⟩⟩
  refine ⟨u, rfl, .ref a, rfl, a, C, rfl, T, n2, .inr ⟨dx, [(f, w)], upd_same, ?_, by simp, ?_⟩⟩
  · rw [upd_ne h2, upd_same]
  · have := q dx h1 h2
    rw [← xmade_more (fs := [(f, w)]) h2] at this
    exact this
end

/-! ### a class of errors -/
/-- an own class with an __init__ of its own -/
structure Dx (K : PySem.W.Frag) (mg : Str → Option Value) (x : Str) (C : Addr) (qual : Str) (st : Stmt) (ps : List Str) : Prop where
  ex : ∃ f fd, Fun K "__init__" qual st f fd ∧ PySem.W.findIn K (.ref C) "__init__" = some (some (.ref f)) ∧ PySem.W.typeIn K (.ref f) = some (.type "function") ∧ Binds K fd ps []
  mg : mg x = some (.ref C)
  oex : OexC K C
/-- .. that stands: it keeps the fields ns -/
structure FnX (P : Program) (w : World) (K : PySem.W.Frag) (mg : Str → Option Value) (base : Heap) (k : Nat) (x : Str) (C : Addr) (ns : List Str) : Prop where
  ex : ∃ f fd ps, FnOk P w K mg base CX0 k f fd ps (spXI C ns) ∧ PySem.W.findIn K (.ref C) "__init__" = some (some (.ref f)) ∧ PySem.W.typeIn K (.ref f) = some (.type "function") ∧ Binds K fd ps []
  mg : mg x = some (.ref C)
  oex : OexC K C
section
variable {P : Program} {w : World} {K : PySem.W.Frag} {mg : Str → Option Value} {base : Heap} {x qual f g m : Str} {st : Stmt} {C : Addr}
theorem Dx.ok1 (F : Dx K mg x C qual st ["self", f]) (S : FnScope ["self", f] ["self", f] (defScope st)) (n1 : PySem.W.findIn K (.ref C) f = some none)
    (hbody : ∀ (f' : Addr) (cdv : Value) (A : Around) (outer : List Env) (s : Shared) (H : Hp) (E : XK), Room 0 (A.deeper (envOfC qual (defScope st) s.heap.objs.size f' cdv)) →
      PSs (cxOf CX0 P w K mg base ["self", f] qual (defScope st) f' cdv A outer s H E).nox (defBody st) (tSeq (tDrop (tVeI K (tCons (tVar 0) (tCons (tC (.str m)) tNil)))) (tOst K f (tVar 0) (tVar 1)))) : FnX P w K mg base 1 x C [f] := by
  obtain ⟨f', fd, F', h1, h2, hb⟩ := F.ex
  refine ⟨⟨f', fd, _, F'.ok S (fun vs H Q E h => ?_) (fun cdv A outer s H vs Q E hr h => ⟨_, hbody f' cdv A outer s H E hr, xi_1 F.oex n1 h⟩), h1, h2, hb⟩, F.mg, F.oex⟩
  obtain ⟨a, ws, rfl, hl, _⟩ := h
  rw [List.length_cons, hl]
  rfl
theorem Dx.ok2 (F : Dx K mg x C qual st ["self", f, g]) (S : FnScope ["self", f, g] ["self", f, g] (defScope st)) (n1 : PySem.W.findIn K (.ref C) f = some none) (n2 : PySem.W.findIn K (.ref C) g = some none)
    (hbody : ∀ (f' : Addr) (cdv : Value) (A : Around) (outer : List Env) (s : Shared) (H : Hp) (E : XK), Room 0 (A.deeper (envOfC qual (defScope st) s.heap.objs.size f' cdv)) →
      PSs (cxOf CX0 P w K mg base ["self", f, g] qual (defScope st) f' cdv A outer s H E).nox (defBody st) (tSeq (tDrop (tVeI K (tCons (tVar 0) (tCons (tC (.str m)) tNil)))) (tSeq (tOst K f (tVar 0) (tVar 1)) (tOst K g (tVar 0) (tVar 2))))) : FnX P w K mg base 1 x C [f, g] := by
  obtain ⟨f', fd, F', h1, h2, hb⟩ := F.ex
  refine ⟨⟨f', fd, _, F'.ok S (fun vs H Q E h => ?_) (fun cdv A outer s H vs Q E hr h => ⟨_, hbody f' cdv A outer s H E hr, xi_2 F.oex n1 n2 h⟩), h1, h2, hb⟩, F.mg, F.oex⟩
  obtain ⟨a, ws, rfl, hl, _⟩ := h
  rw [List.length_cons, hl]
  rfl
end
section
variable {X : Cx} {k : Nat} {x : Str} {C f : Addr} {ns ps : List Str} {sp : Sp} {fd : FuncData} {e : Expr} {es : List Expr} {t : TA} {p pos : Pos} {W : WX}
/-- an error with fields is made; its context is None -/
theorem pmk_xN (T : OexC X.K C) (iC : PySem.W.findIn X.K (.ref C) "__init__" = some (some (.ref f))) (tI : PySem.W.typeIn X.K (.ref f) = some (.type "function")) (F : FnOk X.prog X.w X.K X.mg X.base CX0 k f fd ps sp) (hr : Room (k + 1) X.A) (hb : Binds X.K fd ps []) (hx : Passes CX0 X (fun _ _ _ => False))
    (hg : Gl X x) (hm : X.mg x = some (.ref C)) (ha : PA X (e :: es) t) (hdb : (x == ("__debug__" : Str)) = false) (he : starEach (e :: es) X.env = (false, eval e X.env) :: starEach es X.env) (hpl : (backTo pos (starEach es X.env)).any (·.1) = false) : L2N.PMk X (.Call (.Name x p) (e :: es) [] pos) (tMkO C sp [] t) := fun pins s σ H Q I h => by
  obtain ⟨nm, qn, N, bs, bm, sn, sub, ab, col, dd, k0, k1, k2, k3, k5, hC, hbm⟩ := T.cls
  refine wpAny_Call_Name_kw (ld_glob I hg hm (PySem.W.callWith_K (h₀ := X.base) I.ok.mod.kin T.kC (thn (ha.run pos pins s σ H _ I h) ?_) he hpl) hdb)
  rintro us ⟨hp, gs, dr, tk, os⟩ ⟨vs, H1, I1, r1, hz, q1⟩
  refine ⟨I1.kIn, ?_⟩
  have hsz : hp.objs.size ≤ hp.objs.size + 1 := Nat.le_succ _
  have hq := q1 (hp.objs.size + 1) (I1.hok.fresh hsz)
  rw [List.append_nil] at hq
  have kk : ∀ b o, hp.get? b = some o → ((hp.push (PySem.W.kdv_tup us)).push (PySem.HandSPX.excO C hp.objs.size)).get? b = some o := fun b o z => Heap.get?_push_of_some _ (Heap.get?_push_of_some _ z)
  have J : Inv X pins σ (upd H1 (hp.objs.size + 1) (exo (hp.objs.size + 1) C none)) ⟨(hp.push (PySem.W.kdv_tup us)).push (PySem.HandSPX.excO C hp.objs.size), gs, dr, tk, os⟩ :=
    I1.laid (t' := tk) (h' := (hp.push (PySem.W.kdv_tup us)).push (PySem.HandSPX.excO C hp.objs.size)) kk hsz (exo_ok (t1 := hp.objs.size) (by heap_get))
  have rr : Vals (V.ref (hp.objs.size + 1) :: vs) (Value.ref (hp.objs.size + 1) :: us) := .cons rfl r1
  have hb2 := hb _ (Value.ref (hp.objs.size + 1) :: us) J.kIn (by rw [List.append_nil]; exact rr.length.symm.trans (F.len _ _ _ _ hq))
  rw [List.append_nil] at hb2
  refine wpAny_call (PySem.HandSPX.call_own PySem.F.excBase_ValueError (fun Y => PySem.HandSPX.refsVE_contains Y bm hbm) (I1.kIn _ _ hC) (PySem.W.looks_findIn I1.kIn iC) (fun self => PySem.W.bind_fn I1.kIn self tI) (Nat.le_trans (r1.length ▸ hz) (by decide))
    (codeAny_mono (F.run _ X.stack _ _ ⟨_, []⟩ _ _ _ (fun _ _ _ => False) (hr.make C us []) (J.env0.make C us []) hb2 rr hq) fun r s' z => ?_))
  match r with
  | .error er => exact hx pins σ _ _ er s' J z
  | .ok .next => exact False.elim z
  | .ok .brk => exact False.elim z
  | .ok .cont => exact False.elim z
  | .ok (.ret u) =>
    obtain ⟨v, H2, os2, bare2, un2, hok2, rv, ev, d, fs, ea, ed, hd1, q2⟩ := z
    subst ev
    obtain ⟨h2, g2, d2, t2, os'⟩ := s'
    obtain ⟨t0, G, J2, kG, ge, hoe, na⟩ := mk_end0 (d2 := d2) (t2 := t2) I1 hsz kk un2 hok2 os2 bare2 ea ed hd1
    exact ⟨rv, _, _, _, ⟨G, g2, d2, t2, os'⟩, _, .ref C, some d, rfl, J2, kG, ge, hoe, ⟨rfl, rfl, fun vs z => by cases z; rfl⟩, rfl, rfl, na, rfl, bare2, raises_own T.exC T.tyC, q2⟩
/-- raise C(e, ..) -/
theorem ps_rx (G : FnX X.prog X.w X.K X.mg X.base k x C ns) (hc : X.calm = true) (hr : Room (k + 1) X.A) (tk : L2N.Takes X W) (hx : Passes CX0 X (fun _ _ _ => False)) (ha : PA X (e :: es) t) {pos2 : Pos} (hg : Gl X x := by rfl) (hdb : (x == ("__debug__" : Str)) = false := by decide)
    (he : starEach (e :: es) X.env = (false, eval e X.env) :: starEach es X.env := by rfl) (hpl : (backTo pos (starEach es X.env)).any (·.1) = false := by rfl) :
    PS X (.Raise (some (.Call (.Name x p) (e :: es) [] pos)) none pos2) (fun _ σ H => tMkO C (spXI C ns) [] t σ H fun cls d H' => W cls d σ H') := by
  obtain ⟨f, fd, ps, F, h1, h2, hb⟩ := G.ex
  exact L2N.ps_raise hc tk (pmk_xN G.oex h1 h2 F hr hb hx hg G.mg ha hdb he hpl)
end
section
variable {K : PySem.W.Frag} {E : WX} {ρ : Rho} {P : Pst} {tr : TA} {ds : List D} {C : Addr} {ns : List Str}
theorem IsL.rev {H : Hp} : ∀ {l : List D} {vs : List V}, IsL K H l vs → IsL K H l.reverse vs.reverse
  | [], _, h => by rw [show _ = [] from h]; exact (rfl : [] = [])
  | d :: l, _, ⟨v, r, e, h1, h2⟩ => by
    rw [e, List.reverse_cons, List.reverse_cons]
    exact (IsL.rev h2).app (.one h1)
theorem ws_rx (ha : EvA K tr ρ ds) (hl : ds.length = ns.length) (hn : ns.length ≤ 900) (h : P.ex ρ (.ref C, ns.reverse, ds.reverse)) : Ws K E (fun _ σ H => tMkO C (spXI C ns) [] tr σ H fun cls d H' => E cls d σ H') ρ P := fun M T0 H T σ Dn en k =>
  ha M T0 H T σ [] _ en fun vs H1 T1 s1 t1 e1 i1 => by
    have hvl := i1.len
    refine ⟨by omega, fun a hn => ?_⟩
    rw [List.append_nil]
    refine ⟨a, vs, rfl, by omega, upd_same, fun dx h1 h2 => ?_⟩
    rw [upd_ne h2] at h1
    refine ⟨rfl, dx, ns.reverse.zip vs.reverse, upd_same, ?_, h1, ?_⟩
    · unfold xmade
      rw [upd_ne h2, upd_same]
    · have eT : upd (del (xmade (upd T1 a (exo a C none)) a C dx (ns.reverse.zip vs.reverse)) a) dx (.xd (ns.reverse.zip vs.reverse)) = upd T1 dx (.xd (ns.reverse.zip vs.reverse)) := by
        funext b
        by_cases hb : b = dx
        · subst hb
          rw [upd_same, upd_same]
        · rw [upd_ne hb, upd_ne hb]
          by_cases hb2 : b = a
          · subst hb2
            rw [del_same, hn]
          · rw [del_ne hb2]
            unfold xmade
            rw [upd_ne hb2, upd_ne hb, upd_ne hb2]
      rw [eT]
      obtain ⟨s2, e2⟩ := e1.new (o := .xd (ns.reverse.zip vs.reverse)) h1
      exact k.ex ρ σ _ _ _ (some dx) _ _ h (s1.trans s2) e2 (.inr ⟨dx, vs.reverse, rfl, upd_same, (i1.up s2).rev⟩)
end
end FS
set_option Elab.async false
set_option linter.all false
set_option maxRecDepth 100000
set_option maxHeartbeats 4000000
/-! A caught error asked: its class, its fields. -/
namespace FS
open PySem PySem.Spec PyProof.Rows L2

/-- __class__ of an instance of an own error class, with or without fields -/
theorem exc_class {prog : Program} {w : World} {A : Around} {E : Value → Shared → Prop} {s : Shared} {K : PySem.W.Frag} {x C : Addr} {ox : Obj} {od : Option Obj} {Q : Option Value → Shared → Prop}
    (c : ExcC K C) (kin : K.In s.heap) (J : PySem.W.InstAt s.heap x ox C od) (q : Q (some (.ref C)) { s with toks := s.toks + 1 }) : wpAny (model prog w) A (getAttr? (.ref x) "__class__") Q E s := by
  have found : PySem.W.findObj K C od "__class__" = some (.bind (.builtin "getset_descriptor.__get__") (.builtin "object.__class__")) := by
    obtain ⟨cd, hcd, _⟩ := PySem.W.any_some c.hd
    have hcd' : PySem.W.clsIn K C = some cd := hcd
    unfold PySem.W.findObj
    rw [hcd', Option.bind_some, c.ha, Option.bind_some]
    simp [c.hn, c.ht]
  obtain ⟨hp, gs, dr, tk, os⟩ := s
  have ty := J.type (M := model prog w)
  have isB : PySem.W.Looks (model prog w) hp (isInstance (.ref x) (.type "BaseException")) true := ty.andThen (PySem.W.looks_subIn kin c.hs)
  have no : (Value.builtin "BaseException.__getattribute__" == Value.builtin "object.__getattribute__") = false := by decide +kernel
  have no2 : (onTheHeap (Value.ref C) && Value.builtin "BaseException.__getattribute__" == Value.builtin "object.__getattribute__") = false := by rw [no]; rfl
  unfold getAttr? getAttrBy? getAttrBy
  refine wpAny_bind (wpAny_mkText (wpAny_bind (wpAny_attempt (wpAny_holding (wpAny_bind (ty.at (wpAny_bind ((PySem.W.looks_findIn kin c.hg).at ?_))))))))
  dsimp only
  rw [no2, if_neg Bool.false_ne_true]
  unfold getAttrByItsOwn hookBefore
  refine wpAny_bind ?_
  rw [if_pos (show onTheHeap (Value.ref C) = true from rfl)]
  refine (PySem.W.looks_findIn kin c.hk).at (wpAny_bind (wpAny_attempt (wpAny_holding ?_)))
  unfold callGetattribute
  rw [show (false && onTheHeap (Value.builtin "BaseException.__getattribute__")) = false from rfl, if_neg Bool.false_ne_true]
  unfold boundAndCalled
  rw [PySem.F.excAttr_ValueError.ga.bind (.ref x)]
  refine wpAny_bind (wpAny_pure (wpAny_call (codeAny_call_builtin PySem.F.excAttr_ValueError.ga.plain PySem.F.entry_bexc_ga ?_)))
  refine @PySem.W.check_slot (model prog w) _ _ ⟨hp, gs, dr, tk + 1, os⟩ "BaseException.__getattribute__" "BaseException" "__getattribute__" (.ref x) [.str "__class__" tk] [] _ (by decide +kernel) (by decide +kernel) isB (PySem.F.args_bexc_ga (.ref x) (.str "__class__" tk)) ?_
  unfold Builtin.«object.__getattribute__»
  refine wpAny_bind (wpAny_of_eq (a := ((Value.ref x : Value), [Value.str "__class__" tk])) (by first | rfl | (simp only [slotArgs]; rfl)) (wpAny_bind (wpAny_pure (wpAny_bind (ty.at (wpAny_bind ((PySem.W.looks_find kin J found).at ?_)))))))
  refine wpAny_bind (wpAny_holding (wpAny_call (PySem.W.class_get (s := ⟨hp, gs, dr, tk + 1, os⟩) (ox := ox) (od := od) kin J c.hm ?_)))
  refine wpAny_pure ?_
  show wpAny _ _ (handedOut (.ref C)) _ _ _
  rw [PySem.W.handedOut_of (v := .ref C) rfl]
  first
    | exact wpAny_pure (wpAny_pure q)
    | exact wpAny_pure q
    | exact wpAny_pure (wpAny_bind (wpAny_pure (wpAny_pure q)))
theorem exc_kit {K : PySem.W.Frag} {x C : Addr} {ox : Obj} {od : Option Obj} (c : ExcC K C) : PySem.W.KitX K (.ref x) (.ref C) (fun h => PySem.W.InstAt h x ox C od) := by
  have own : ∃ a b c' d, K.lookup C = some ⟨a, b, .cls c', d⟩ := by
    obtain ⟨cd, hcd, _⟩ := PySem.W.any_some c.hd
    unfold PySem.W.clsIn at hcd
    split at hcd
    · rename_i h
      exact ⟨_, _, _, _, h⟩
    · cases hcd
  obtain ⟨o1, o2, o3, o4, lk⟩ := own
  refine ⟨fun _ _ _ J => J.type, fun _ _ kin _ A' Q' E' s' k q => ?_, fun h tp dd its n sl kin htp => ?_, fun kin J q => exc_class c kin J q⟩
  · unfold isType loadHead
    exact wpAny_bind (wpAny_loadPart (k _ _ (kin _ _ lk)) (wpAny_pure q))
  · by_cases e : C = tp
    · subst e
      have z := (kin _ _ lk).symm.trans htp
      cases z
    · exact beq_eq_false_iff_ne.mpr fun q => e (Value.ref.inj q)

/-! ### in a suite -/
/-- isinstance(e, c), e the error that the suite holds -/
def rIsX (K : PySem.W.Frag) (a : Addr) (cls : Value) (d : Option Addr) : List V → Hp → VK → Prop := fun xs H Q => ∃ (c : V) (cv : Value) (b : Bool) (C : Addr), xs = [.ref a, c] ∧ ClsV c cv ∧ cls = .ref C ∧ ExcC K C ∧ (d = none ∨ ∃ dd fs, d = some dd ∧ H dd = some (.xd fs)) ∧ PySem.W.kitOne K (.ref C) cv = some b ∧ Q (.bl b) H
/-- isinstance(e, (c1, c2, ..)) -/
def rIsXT (K : PySem.W.Frag) (a : Addr) (cls : Value) (d : Option Addr) : List V → Hp → VK → Prop := fun xs H Q => ∃ (tp : Addr) (cs : List V) (us : List Value) (b : Bool) (C : Addr), xs = [.ref a, .ref tp] ∧ H tp = some (.tup cs) ∧ Paired ClsV cs us ∧ cls = .ref C ∧ ExcC K C ∧ (d = none ∨ ∃ dd fs, d = some dd ∧ H dd = some (.xd fs)) ∧ PySem.W.kitAny K (.ref C) us = some b ∧ Q (.bl b) H
section
variable {X : Cx} {a : Addr} {cls : Value} {d : Option Addr} {oe : Obj}
theorem exc_inst {C : Addr} {pins : List (Addr × Obj)} {σ : L2.St} {H : Hp} {s : Shared} (hp : (a, oe) ∈ X.pn) (hz : L2N.Zn cls d oe) (hf : ∃ vs, oe.data = .fields vs) (I : Inv X pins σ H s) (ec : cls = .ref C) (hd : d = none ∨ ∃ dd fs, d = some dd ∧ H dd = some (.xd fs)) :
    ∃ od, PySem.W.InstAt s.heap a oe C od := by
  obtain ⟨hget, _⟩ := I.pin (a, oe) (List.mem_append_left _ hp)
  obtain ⟨vs, hv⟩ := hf
  obtain ⟨h1, h2, _⟩ := hz
  have hn : PySem.W.notCls oe = true := by unfold PySem.W.notCls; rw [hv]
  rcases hd with rfl | ⟨dd, fs, rfl, hx⟩
  · exact ⟨none, hget, h1.trans ec, hn, by rw [h2]; trivial⟩
  · obtain ⟨mA, ⟨o, es, ep, ho, r⟩, _⟩ := (show ObjOk X.prog X.w H s.heap dd (.xd fs) from I.hok dd _ hx)
    exact ⟨some o, hget, h1.trans ec, hn, by rw [h2]; exact ho⟩
theorem call_isX (hp : (a, oe) ∈ X.pn) (hz : L2N.Zn cls d oe) (hf : ∃ vs, oe.data = .fields vs) : CallR X (.builtin "isinstance") (rIsX X.K a cls d) := fun pins s σ H xs us Q I r h => by
  obtain ⟨c, cv, b, C, rfl, hc, ec, hE, hd, e, q⟩ := h
  obtain ⟨od, J⟩ := exc_inst hp hz hf I ec hd
  match us, r with
  | _, .cons ra (.cons rc .nil) =>
    cases (show _ = Value.ref a from ra)
    rw [hc.eq rc]
    exact PySem.W.kia_one (exc_kit hE) I.kIn J e (fun z => nomatch z) fun tk => ⟨.bl b, H, I.tok tk, rfl, q⟩
theorem call_isXT (hp : (a, oe) ∈ X.pn) (hz : L2N.Zn cls d oe) (hf : ∃ vs, oe.data = .fields vs) : CallR X (.builtin "isinstance") (rIsXT X.K a cls d) := fun pins s σ H xs us Q I r h => by
  obtain ⟨tp, cs, ws, b, C, rfl, ht, hc, ec, hE, hd, e, q⟩ := h
  obtain ⟨od, J⟩ := exc_inst hp hz hf I ec hd
  match us, r with
  | _, .cons ra (.cons rc .nil) =>
    cases (show _ = Value.ref a from ra)
    cases (show _ = Value.ref tp from rc)
    obtain ⟨_, its, hv, o, ho, hcl, n, hda⟩ := (show ObjOk X.prog X.w H s.heap tp (.tup cs) from I.hok tp _ ht)
    have ew := ClsV.all hc hv
    subst ew
    obtain ⟨oc, od', oda, osl⟩ := o
    dsimp only at hcl hda
    subst hcl hda
    exact PySem.W.kia_tup (exc_kit hE) I.kIn J ho e (fun z => nomatch z) fun tk => ⟨.bl b, H, I.tok tk, rfl, q⟩
/-- e.f -/
def tXf2 (K : PySem.W.Frag) (a : Addr) (cls : Value) (d : Option Addr) (f : Str) (i : Nat) : TE := fun σ H Q => ∃ (C dd : Addr) (fs : List (Str × V)) (v : V), σ[i]? = some (some (.ref a)) ∧ cls = .ref C ∧ ExcC K C ∧ PySem.W.findIn K (.ref C) f = some none ∧ d = some dd ∧ H dd = some (.xd fs) ∧ fs.lookup f = some v ∧ Q v H
theorem pe_xf2 {i : Nat} {x f : Str} {p pos : Pos} (hp : (a, oe) ∈ X.pn) (hz : L2N.Zn cls d oe) (hf : ∃ vs, oe.data = .fields vs) (he : PE X (.Name x p) (tVar i)) (hb : attributeBase (.Name x p) f X.env (eval (.Name x p) X.env) = eval (.Name x p) X.env := by rfl) :
    PE X (.Attribute (.Name x p) f pos) (tXf2 X.K a cls d f i) := ⟨fun pins s σ H Q I h => by
  obtain ⟨C, dd, fs, v, e1, e2, hE, hno, e3, e4, e5, q⟩ := h
  refine attr_of hb (thn (he.run pins s σ H (fun x H1 => x = .ref a ∧ H1 = H) I ⟨.ref a, e1, rfl, rfl⟩) ?_)
  rintro u s1 ⟨x, H1, I1, rx, rfl, rfl⟩
  cases (show u = Value.ref a from rx)
  obtain ⟨hget, _⟩ := I1.pin (a, oe) (List.mem_append_left _ hp)
  obtain ⟨mA, hns, hr⟩ := (show ObjOk X.prog X.w H1 s1.heap dd (.xd fs) from I1.hok dd _ e4)
  obtain ⟨od, ho, hl⟩ := lookIn_ns hns
  obtain ⟨u, hu, ru⟩ := RelO.some_of (v := v) (o := mA f) (by rw [← e5]; exact hr f)
  obtain ⟨vs, hv⟩ := hf
  have J : PySem.W.InstAt s1.heap a oe C (some od) := ⟨hget, hz.1.trans e2, by unfold PySem.W.notCls; rw [hv], by rw [hz.2.1, e3]; exact ho⟩
  exact PySem.HandSPX.exc_get I1.kIn J hE.hg hE.hk hE.hs (PySem.W.findObj_own hE.hd hno rfl (by rw [hl, hu])) (handed_of ru) ⟨v, H1, I1.tok _, ru, q⟩⟩
end
/-! readings -/
section
variable {K : PySem.W.Frag} {ρ : Rho} {a : Addr} {cls : Value} {od : Option Addr} {ns : List Str} {ds : List D} {i : Nat} {tc : TE} {ta : TA} {C : Addr} {dc : D} {cv : Value} {b : Bool}
/-- a class as a datum -/
def clsD : D → Option Value
  | .obj C => some (.ref C)
  | .ty n => some (.type n)
  | _ => none
theorem clsD_ok {H : Hp} {v : V} (e : clsD dc = some cv) (h : Is K H dc v) : ClsV v cv := by
  cases dc <;> simp only [clsD] at e <;> try cases e
  · rw [show v = V.ty _ from h]
    exact .ty _
  · rw [show v = V.ref _ from h]
    exact .own _
theorem exc_dict {H : Hp} {v : V} (h : Is K H (.exc a od ns ds) v) : v = .ref a ∧ (od = none ∨ ∃ dd fs, od = some dd ∧ H dd = some (.xd fs)) := by
  obtain ⟨h1, h2⟩ := h
  rcases h2 with ⟨_, h2⟩ | ⟨d, vs, h2, h3, _⟩
  · exact ⟨h1, .inl h2⟩
  · exact ⟨h1, .inr ⟨d, _, h2, h3⟩⟩
theorem ev_isX (e : ρ[i]? = some (.im (.exc a od ns ds))) (hc : EvD K tc ρ dc) (hcv : clsD dc = some cv) (hE : ExcC K C) (hk : PySem.W.kitOne K (.ref C) cv = some b) : EvD K (tCB (rIsX K a (.ref C) od) (tCons (tVar i) (tCons tc tNil))) ρ (.bl b) := fun M T0 H T σ X Q en q => by
  obtain ⟨v, h1, h2⟩ := en.get e
  refine ⟨v, h1, hc M T0 H T σ X _ en fun u H1 T1 s1 t1 e1 i1 => ?_⟩
  obtain ⟨rfl, hd⟩ := exc_dict (h2.up (s1.trans e1.same))
  exact ⟨u, cv, b, C, rfl, clsD_ok hcv i1, rfl, hE, hd, hk, q _ H1 T1 s1 t1 e1 rfl⟩
theorem ev_xf {f : Str} {j : Nat} {d : D} (e : ρ[i]? = some (.im (.exc a od ns ds))) (hn : ns ≠ []) (hj : fldAt ns f = some j) (hd : ds[j]? = some d) (hE : ExcC K C) (hno : PySem.W.findIn K (.ref C) f = some none) : EvD K (tXf2 K a (.ref C) od f i) ρ d := fun M T0 H T σ X Q en q => by
  obtain ⟨v, h1, rfl, h2⟩ := en.get e
  rcases h2 with ⟨h2, _⟩ | ⟨dd, vs, h2, h3, h4⟩
  · exact absurd h2 hn
  · obtain ⟨w, g1, g2⟩ := h4.get hd
    exact ⟨C, dd, _, w, h1, rfl, hE, hno, h2, en.same _ _ h3, (fld_look hj g1).1, q w H T (Same.refl _) (Same.refl _) en g2⟩
end
end FS
set_option Elab.async false
set_option linter.all false
set_option maxRecDepth 100000
set_option maxHeartbeats 4000000
/-! Calls that may raise; try. -/
namespace FS
open PySem PySem.Spec PyProof.Rows L2

theorem passN {X : Cx} : Passes (L2N.CX X.prog X.w) X E0 := fun _ _ _ _ _ _ _ h => by
  obtain ⟨_, _, _, _, _, _, _, _, _, _, _, _, z⟩ := h
  exact z.elim
theorem takesN0 {X : Cx} : L2N.Takes X (fun _ _ _ _ => False) := fun _ _ x => by
  obtain ⟨_, _, _, _, _, _, _, _, _, _, _, _, _, _, _, _, z⟩ := x
  exact z.elim
section
variable {P : Program} {w : World} {K : PySem.W.Frag} {mg : Str → Option Value} {base : Heap} {x m qual : Str} {st : Stmt} {N ps : List Str} {k : Nat} {Pr : PrD} {C : Addr}
theorem fun_okN {f : Addr} {fd : FuncData} {sp : Sp} (F : Fun K x qual st f fd) (S : FnScope N ps (defScope st)) (len : ∀ vs H Q E, sp vs H Q E → vs.length = ps.length)
    (hbody : ∀ (cdv : Value) (A : Around) (outer : List Env) (s : Shared) (H : Hp) (vs : List V) (Q : VK) (E : XK), Room k (A.deeper (envOfC qual (defScope st) s.heap.objs.size f cdv)) → sp vs H Q E →
      ∃ t, PSs (cxOf (L2N.CX P w) P w K mg base N qual (defScope st) f cdv A outer s H E) (defBody st) t ∧ t { nx := fun _ H' => Q .non H', rt := Q } (start N vs) H) : FnOk P w K mg base (L2N.CX P w) (k + 1) f fd ps sp := by
  obtain ⟨oc, od, kV, doc, pm, an, cdv, ct, osl, rfl, lk, hcd⟩ := F.ex
  exact fn_of lk hcd S len fun A outer s H vs Q E hr q => hbody cdv A outer s H vs Q E hr q
theorem Df.okN (F : Df K mg x st ps) (S : FnScope N ps (defScope st)) (len : ∀ ds R Z, Pr ds R Z → ds.length = ps.length)
    (hbody : ∀ (f : Addr) (cdv : Value) (A : Around) (outer : List Env) (s : Shared) (H : Hp) (E : XK), Room k (A.deeper (envOfC x (defScope st) s.heap.objs.size f cdv)) →
      ∃ t, PSs (cxOf (L2N.CX P w) P w K mg base N x (defScope st) f cdv A outer s H E) (defBody st) t ∧ ∀ ds R Z, Pr ds R Z → Ws K (upX E) t (ds.map .im ++ List.replicate (N.length - ds.length) .no) { nx := fun _ => R (.im .non), rt := R, ex := fun _ => Z }) :
    FnG P w K mg base (L2N.CX P w) (k + 1) x ps (spD K Pr) := by
  obtain ⟨f, fd, F, hm, hb⟩ := F.ex
  refine ⟨f, fd, fun_okN F S (fun vs H Q E h => len_fn len h) (fun cdv A outer s H vs Q E hr h => ?_), hm, F.kp, hb⟩
  obtain ⟨t, h1, h2⟩ := hbody f cdv A outer s H E hr
  exact ⟨t, h1, read_fn h h2⟩
theorem Dm.okN (F : Dm K C m qual st ps) (S : FnScope N ps (defScope st)) (len : ∀ ds R Z, Pr ds R Z → ds.length = ps.length)
    (hbody : ∀ (f : Addr) (cdv : Value) (A : Around) (outer : List Env) (s : Shared) (H : Hp) (E : XK), Room k (A.deeper (envOfC qual (defScope st) s.heap.objs.size f cdv)) →
      ∃ t, PSs (cxOf (L2N.CX P w) P w K mg base N qual (defScope st) f cdv A outer s H E) (defBody st) t ∧ ∀ ds R Z, Pr ds R Z → Ws K (upX E) t (ds.map .im ++ List.replicate (N.length - ds.length) .no) { nx := fun _ => R (.im .non), rt := R, ex := fun _ => Z }) :
    FnM P w K mg base (L2N.CX P w) (k + 1) C m ps (spD K Pr) := by
  obtain ⟨f, fd, F, hm, hb⟩ := F.ex
  refine ⟨f, fd, fun_okN F S (fun vs H Q E h => len_fn len h) (fun cdv A outer s H vs Q E hr h => ?_), hm, hb⟩
  obtain ⟨t, h1, h2⟩ := hbody f cdv A outer s H E hr
  exact ⟨t, h1, read_fn h h2⟩
theorem Di.okN {Pm : List D → (D → Prop) → (Exn → Prop) → Prop} (F : Di K mg C x qual st ps) (S : FnScope N ps (defScope st)) (len : ∀ ds R Z, Pm ds R Z → ds.length + 1 = ps.length)
    (hbody : ∀ (f : Addr) (cdv : Value) (A : Around) (outer : List Env) (s : Shared) (H : Hp) (E : XK), Room k (A.deeper (envOfC qual (defScope st) s.heap.objs.size f cdv)) →
      ∃ t, PSs (cxOf (L2N.CX P w) P w K mg base N qual (defScope st) f cdv A outer s H E) (defBody st) t ∧ ∀ a ds R Z, Pm ds R Z → Ws K (upX E) t (.cl (.slf a C [] []) :: (ds.map .im ++ List.replicate (N.length - (ds.length + 1)) .no)) { nx := fun ρ' => ∃ ns l, ρ'[0]? = some (.cl (.slf a C ns l)) ∧ R (.ins C ns l), ex := fun _ => Z }) :
    FnI P w K mg base (L2N.CX P w) (k + 1) C x ps (spMk K C Pm) := by
  obtain ⟨f, fd, F, hm, hC, hb⟩ := F.ex
  refine ⟨f, fd, fun_okN F S (fun vs H Q E h => len_mk len h) (fun cdv A outer s H vs Q E hr h => ?_), hm, hC, hb⟩
  obtain ⟨t, h1, h2⟩ := hbody f cdv A outer s H E hr
  exact ⟨t, h1, read_init h h2⟩
end
/-- an own class of errors without an __init__ -/
structure Ep (K : PySem.W.Frag) (mg : Str → Option Value) (x : Str) (C : Addr) : Prop where
  xi : PySem.W.excIn K C [.type "ValueError", .type "Exception", .type "BaseException", .type "object"] "ValueError.__new__" = true
  mg : mg x = some (.ref C)
  kp : PySem.W.keepIn K (.ref C) = true
  sb : PySem.W.subIn K (.ref C) (.type "BaseException") = some true
  ty : PySem.W.typeIn K (.ref C) = some (.type "type")
section
variable {X : Cx} {W : WX} {k j : Nat} {x m : Str} {C : Addr} {ps : List Str} {sp : Sp} {e o : Expr} {es : List Expr} {t : TA} {ta : TE} {p p2 pos pos2 apos : Pos}
theorem ps_r0 (G : Ep X.K X.mg x C) (hc : X.calm = true) (tk : L2N.Takes X W) (hg : Gl X x := by rfl) (hdb : (x == ("__debug__" : Str)) = false := by decide) : PS X (.Raise (some (.Call (.Name x p) [.Constant (.str m) j p2] [] pos)) none pos2) (tRaise0 W (.ref C)) :=
  L2N.ps_raise hc tk (L2N.pmk_own PySem.F.excBase_ValueError G.xi G.mg G.kp (raises_own G.sb G.ty) hg hdb)
theorem pe_gX (G : FnG X.prog X.w X.K X.mg X.base (L2N.CX X.prog X.w) k x ps sp) (hr : Room k X.A) (tk : L2N.Takes X W) (ha : PA X (e :: es) t) (hg : Gl X x := by rfl) (hdb : (x == ("__debug__" : Str)) = false := by decide)
    (he : starEach (e :: es) X.env = (false, eval e X.env) :: starEach es X.env := by rfl) (hpl : (backTo pos (starEach es X.env)).any (·.1) = false := by rfl) : PE X (.Call (.Name x p) (e :: es) [] pos) (tCallS sp (WE W) t) := by
  obtain ⟨f, fd, F, hm, hk, hb⟩ := G.ex
  exact pe_callS F hr hg hm hk hb (fun σ => L2N.passAt tk σ) ha hdb he hpl
/-- the receiver ahead of the arguments -/
def tRecv (C : Addr) (m : Str) (ta : TE) (tr : TA) : TA := fun σ H Q => ta σ H fun x H1 => ∃ a dx fs, x = .ref a ∧ H1 a = some (.ins C dx fs) ∧ fs.lookup m = none ∧ tr σ H1 fun vs H2 => Q (x :: vs) H2
theorem pe_mX {pl : Sem Bool} (G : FnM X.prog X.w X.K X.mg X.base (L2N.CX X.prog X.w) k C m ps sp) (c : Cls X.K C) (hr : Room k X.A) (tk : L2N.Takes X W) (he : PE X o ta) (ha : PA X (e :: es) t)
    (hst : starEach (e :: es) X.env = (false, eval e X.env) :: starEach es X.env := by rfl) (hpl : (backTo pos (starEach es X.env)).any (·.1) = false := by rfl)
    (ht : eval (.Call (.Attribute o m apos) (e :: es) [] pos) X.env = (eval o X.env >>= fun ov => standAt apos.atName >>= fun _ => holding [ov] (getMethod ov m pl) >>= fun r => callWith pos r.1 r.2 (backTo pos (starEach (e :: es) X.env)) (backToKw pos (keywordEach [] X.env))) := by rfl) :
    PE X (.Call (.Attribute o m apos) (e :: es) [] pos) (tCallS sp (WE W) (tRecv C m ta t)) := ⟨fun pins s σ H Q I h => by
  obtain ⟨f, fd, F, hm, hb⟩ := G.ex
  refine PySem.W.methodCall_KW (pl := pl) (thn (he.run pins s σ H _ I h) ?_) ht
  rintro u s1 ⟨x, H1, I1, rx, a, dx, fs, rfl, ea, l, q⟩
  cases (show u = Value.ref a from rx)
  refine getmeth_ok I1 ea c hm l (PySem.W.callWith_K (first := [.ref a]) (h₀ := X.base) I.ok.mod.kin hm.kp (thn (ha.run pos pins s1 σ H1 _ I1 q) ?_) hst hpl)
  rintro us s2 ⟨vs, H2, I2, r, q2⟩
  exact ⟨I2.kIn, run_fnS (E := WE W) (us := .ref a :: us) (vs := .ref a :: vs) F hr hb (L2N.passAt tk σ) I2 (.cons rfl r) q2⟩⟩
/-- C(e, ..), its __init__ may raise -/
def tMakeW (C : Addr) (sp : Sp) (W : WX) (t : TA) : TE := fun σ H Q => tMake C sp [] (WE W σ) t σ H Q
theorem pe_mkX (G : FnI X.prog X.w X.K X.mg X.base (L2N.CX X.prog X.w) k C x ps sp) (hr : Room (k + 1) X.A) (tk : L2N.Takes X W) (ha : PA X (e :: es) t) (hg : Gl X x := by rfl) (hdb : (x == ("__debug__" : Str)) = false := by decide)
    (he : starEach (e :: es) X.env = (false, eval e X.env) :: starEach es X.env := by rfl) (hpl : (backTo pos (starEach es X.env)).any (·.1) = false := by rfl) : PE X (.Call (.Name x p) (e :: es) [] pos) (tMakeW C sp W t) := ⟨fun pins s σ H Q I h => by
  obtain ⟨f, fd, F, M, hC, hb⟩ := G.ex
  refine wpAny_Call_Name_kw (ld_glob I hg hC (PySem.W.callWith_K (h₀ := X.base) I.ok.mod.kin M.kp (thn (ha.run pos pins s σ H _ I h) ?_) he hpl) hdb)
  rintro us s1 ⟨vs, H1, I1, r, q⟩
  refine ⟨I1.kIn, ?_⟩
  have hq := q (s1.heap.objs.size + 1) s1.heap.objs.size (I1.hok.fresh (Nat.le_succ _)) (I1.hok.fresh (Nat.le_refl _)) (Nat.ne_of_lt (Nat.lt_succ_self _))
  rw [List.append_nil] at hq
  have J := Inv.made (C := C) I1
  have rr : Vals (V.ref (s1.heap.objs.size + 1) :: vs) (Value.ref (s1.heap.objs.size + 1) :: us) := .cons rfl r
  have hb2 := hb _ (Value.ref (s1.heap.objs.size + 1) :: us) J.kIn (by rw [List.append_nil]; exact rr.length.symm.trans (F.len _ _ _ _ hq))
  rw [List.append_nil] at hb2
  refine wpAny_call (make_map (f := f) I1.kIn M.makes M.init (beq_iff_eq.mp M.fn) (codeAny_mono (F.run _ X.stack _ _ ⟨_, []⟩ _ _ _ _ (hr.make C us []) (J.env0.make C us []) hb2 rr hq) fun r s' z => ?_))
  match r with
  | .error e' => exact L2N.passAt tk σ pins _ _ e' s' J z
  | .ok (.ret u) =>
    obtain ⟨v, H', I3, rv, ev, q3⟩ := J.after z
    subst ev
    exact ⟨rv, V.ref (s1.heap.objs.size + 1), H', I3, rfl, q3⟩
  | .ok .next => exact False.elim z
  | .ok .brk => exact False.elim z
  | .ok .cont => exact False.elim z⟩
/-- a class of errors as a value -/
theorem gc (h : X.mg x = some (.ref C)) (hg : Gl X x := by rfl) (hd : (x == ("__debug__" : Str)) = false := by decide) : PE X (.Name x pos) (tC (.ref C)) := pe_glob hg h rfl hd
end
section
variable {K : PySem.W.Frag} {ρ : Rho} {z d : D} {l : List D} {ds : List D} {tr : TA} {ta : TE} {W : WX} {C : Addr} {ns : List Str} {m : Str} {E : WX} {P : Pst} {i : Nat}
theorem ev_obj {C : Addr} : EvD K (tC (.ref C)) ρ (.obj C) := ev_c fun _ => rfl
theorem eva_recv (ha : EvD K ta ρ (.ins C ns l)) (hm : m ∉ ns) (hr : EvA K tr ρ ds) : EvA K (tRecv C m ta tr) ρ (.ins C ns l :: ds) := fun M T0 H T σ X Q e q =>
  ha M T0 H T σ X _ e fun v H1 T1 s1 t1 e1 i1 => by
    obtain ⟨a, dx, vs, rfl, h1, h2⟩ := i1
    refine ⟨a, dx, _, rfl, e1.same _ _ h1, look_none hm, hr M T0 H1 T1 σ X _ e1 fun us H2 T2 s2 t2 e2 i2 => ?_⟩
    exact q _ H2 T2 (s1.trans s2) (t1.trans t2) e2 (.cons ((show Is K H1 (.ins C ns l) (.ref a) from ⟨a, dx, vs, rfl, h1, h2⟩).up s2) i2)
theorem ec_mkX {P : List D → (D → Prop) → (Exn → Prop) → Prop} (hr : EvA K tr ρ ds) (hp : P ds (fun d => d = z) (fun _ => False)) : EvC K (tMakeW C (spMk K C P) W tr) ρ z := fun M T0 H T σ X Q e q => ec_make (Ex := WE W σ) hr hp M T0 H T σ X Q e q
theorem ez_mkX {P : List D → (D → Prop) → (Exn → Prop) → Prop} {x : Exn} (hr : EvA K tr ρ ds) (hp : P ds (fun _ => False) (fun z' => z' = x)) : EvZ K W (tMakeW C (spMk K C P) W tr) ρ x := fun M T0 H T σ X Q e q =>
  hr M T0 H T σ X _ e fun vs H1 T1 s1 t1 e1 i1 => fun x dx hx hdx hne => by
    obtain ⟨L, r, o, f⟩ := e1.ex
    rw [List.append_nil]
    have hx1 : (upd T1 dx (.own x)) x = none := by rw [upd_ne (Ne.symm hne)]; exact hx
    refine ⟨x, dx, vs, _, H1, T1, ds, _, _, rfl, (o.opened (o := .own x) hdx).opened (o := .ins C dx []) hx1, i1, hx, hdx, (same_new hdx).trans (same_new hx1), hp, fun _ _ _ _ h => h.elim, fun c ns es od H' T' hz s' t' o' hxx => ?_⟩
    subst hz
    exact q od H' T' (s1.trans s') (t1.trans t') ⟨⟨L, r.up s', o', f⟩, e1.t0.trans t'⟩ hxx
/-- try: .. except x as n: .., x takes all that comes -/
theorem ws_tryA {tb : WX → TS} {ts : Addr → Value → Option Addr → TS} {c : Value} {Wout : WX} {Pc : Rho → Exn → Prop} (hb : ∀ W, Ws K W (tb W) ρ { P with ex := Pc })
    (hc : ∀ ρ' z, Pc ρ' z → PySem.W.exmOne K z.1 c = some true ∧ ∀ a od, Ws K E (ts a z.1 od) (ρ'.set i (.im (.exc a od z.2.1 z.2.2))) { nx := fun ρ2 => P.nx (ρ2.set i .no), rt := P.rt, bk := fun ρ2 => P.bk (ρ2.set i .no), ct := fun ρ2 => P.ct (ρ2.set i .no) }) :
    Ws K E (fun Dn σ H => tb (wAs K c i ts Wout Dn) Dn σ H) ρ P := fun M T0 H T σ Dn en k =>
  hb _ M T0 H T σ Dn en ⟨k.nx, k.rt, k.bk, k.ct, fun ρ' σ' cl ns es od H' T' hz s' e' hx => by
    obtain ⟨h1, h2⟩ := hc ρ' (cl, ns, es) hz
    refine ⟨true, h1, fun _ a ha => ?_, fun z => nomatch z⟩
    have e2 := EnX.set (i := i) (d := .exc a od ns es) (v := .ref a) e' ⟨rfl, hx⟩
    exact h2 a od M T0 H' T' _ _ e2 ⟨fun ρ2 σ2 H2 T2 p s2 en2 => k.nx _ _ H2 T2 p (s'.trans s2) en2.drop, fun s v H2 T2 p s2 => k.rt s v H2 T2 p (s'.trans s2), fun ρ2 σ2 H2 T2 p s2 en2 => k.bk _ _ H2 T2 p (s'.trans s2) en2.drop, fun ρ2 σ2 H2 T2 p s2 en2 => k.ct _ _ H2 T2 p (s'.trans s2) en2.drop, fun _ _ _ _ _ _ _ _ hz => hz.elim⟩⟩
end
section
variable {X : Cx} (K : PySem.W.Frag) {a : Addr} {cls : Value} {d : Option Addr} {oe : Obj}
theorem kIsX (hp : (a, oe) ∈ X.pn) (hz : L2N.Zn cls d oe) (hf : ∃ vs, oe.data = .fields vs) (hK : X.K = K := by rfl) : CallR X (.builtin "isinstance") (rIsX K a cls d) := hK ▸ call_isX hp hz hf
theorem kIsXT (hp : (a, oe) ∈ X.pn) (hz : L2N.Zn cls d oe) (hf : ∃ vs, oe.data = .fields vs) (hK : X.K = K := by rfl) : CallR X (.builtin "isinstance") (rIsXT K a cls d) := hK ▸ call_isXT hp hz hf
theorem kXf {i : Nat} {x f : Str} {p pos : Pos} (hp : (a, oe) ∈ X.pn) (hz : L2N.Zn cls d oe) (hf : ∃ vs, oe.data = .fields vs) (he : PE X (.Name x p) (tVar i)) (hK : X.K = K := by rfl) (hb : attributeBase (.Name x p) f X.env (eval (.Name x p) X.env) = eval (.Name x p) X.env := by rfl) :
    PE X (.Attribute (.Name x p) f pos) (tXf2 K a cls d f i) := hK ▸ pe_xf2 hp hz hf he hb
end

/-! ### classes of errors beside each other -/
section
variable {K : PySem.W.Frag} {D C : Addr}
theorem kit_T (s : PySem.W.subIn K (.ref D) (.ref C) = some true) (hd : PySem.W.hasDictIn K C = true) (ty : PySem.W.typeIn K (.ref C) = some (.type "type")) : PySem.W.kitOne K (.ref D) (.ref C) = some true := by
  unfold PySem.W.kitOne
  split
  · rfl
  · obtain ⟨cd, hc, _⟩ := PySem.W.any_some hd
    have hc' : PySem.W.clsIn K C = some cd := hc
    unfold PySem.W.kitCls
    simp [hc', ty, s]
theorem kit_F (s0 : PySem.W.subIn K (.ref D) (.ref D) = some true) (s : PySem.W.subIn K (.ref D) (.ref C) = some false) (hd : PySem.W.hasDictIn K C = true) (ty : PySem.W.typeIn K (.ref C) = some (.type "type")) : PySem.W.kitOne K (.ref D) (.ref C) = some false := by
  unfold PySem.W.kitOne
  rw [if_neg]
  · obtain ⟨cd, hc, _⟩ := PySem.W.any_some hd
    have hc' : PySem.W.clsIn K C = some cd := hc
    unfold PySem.W.kitCls
    simp [hc', ty, s]
  · intro e
    have e : D = C := Value.ref.inj (beq_iff_eq.mp e)
    subst e
    rw [s0] at s
    cases s
theorem kit_VE (s : PySem.W.subIn K (.ref D) (.type "ValueError") = some true) : PySem.W.kitOne K (.ref D) (.type "ValueError") = some true := by
  unfold PySem.W.kitOne
  split
  · rfl
  · unfold PySem.W.kitCls
    have e : PySem.W.kitMeta "ValueError" = true := by decide +kernel
    simp [e, s]
end

/-! ### defs that are called in a suite; the error there is at a, of the class c, its dict at d -/
open L2H
structure FnE (P : Program) (w : World) (K : PySem.W.Frag) (mg : Str → Option Value) (base : Heap) (CX : CXT) (k : Nat) (f : Addr) (fd : FuncData) (ps : List Str) (sp : Addr → Value → Option Addr → Sp) : Prop where
  len : ∀ a c d vs H Q E, sp a c d vs H Q E → vs.length = ps.length
  run : ∀ (A : Around) (outer : List Env) (s : Shared) (H : Hp) (args : Args) (us : List Value) (vs : List V) (Q : VK) (E : XK) (a : Addr) (oe : Obj) (c : Value) (d : Option Addr), RoomH k A → A.handled = some (.ref a) → L2N.Zn c d oe → (∃ fs, oe.data = .fields fs) → PinOk outer H s (a, oe) →
    Env0 P w K mg base A outer s H → BindsTo s fd args (ps.zip us) → Vals vs us → sp a c d vs H Q E → codeAny (model P w) A (.call (.ref f) args) (CR CX outer P w H s Q E) s
theorem fn_okE {CX : CXT} {P : Program} {w : World} {K : PySem.W.Frag} {mg : Str → Option Value} {base : Heap} {k : Nat} {x qual : Str} {st : Stmt} {f : Addr} {fd : FuncData} {N ps : List Str} {sp : Addr → Value → Option Addr → Sp} (F : Fun K x qual st f fd) (S : FnScope N ps (defScope st)) (len : ∀ a c d vs H Q E, sp a c d vs H Q E → vs.length = ps.length)
    (hbody : ∀ (cdv : Value) (A : Around) (outer : List Env) (s : Shared) (H : Hp) (vs : List V) (Q : VK) (E : XK) (a : Addr) (oe : Obj) (c : Value) (d : Option Addr), A.handled = some (.ref a) → L2N.Zn c d oe → (∃ fs, oe.data = .fields fs) → RoomH k (A.deeper (envOfC qual (defScope st) s.heap.objs.size f cdv)) → sp a c d vs H Q E →
      ∃ t, PSs (cxH CX P w K mg base N qual (defScope st) f cdv A outer s H E (a, oe)) (defBody st) t ∧ t { nx := fun _ H' => Q .non H', rt := Q } (L2.start N vs) H) : FnE P w K mg base CX (k + 1) f fd ps sp := by
  obtain ⟨oc, od, kV, doc, pm, an, cdv, ct, osl, rfl, lk, hcd⟩ := F.ex
  refine ⟨len, fun A outer s H args us vs Q E a oe c d hr hh hz hf hpin e0 hb r q0 => ?_⟩
  have kin : K.In s.heap := e0.mod.kin.keeps fun b o z => (e0.bs b o z).1
  have nol : s.heap.NoLimit := e0.mod.nolimit.keeps fun b o z => (e0.bs b o z).1
  refine codeAny_call_function hr.depth (kin _ _ lk) rfl S.co S.gen rfl (PySem.W.codeRec_of kin hcd) (hb _ _ _ _ (wpAny_newFunctionEnv_cells S.kind (fun y hy => ?_) fun env he s1 z => ?_))
  · rcases S.par y.1 (List.of_mem_zip (show (y.1, y.2) ∈ ps.zip us from hy)).1 with q | q
    · exact .inl q
    · exact .inr ⟨q, PySem.W.cellsFrom_some _ _ _ (.inl q)⟩
  subst he
  obtain ⟨t, ht, hq⟩ := hbody cdv A outer s H vs Q E a oe c d hh hz hf (hr.deeper _) q0
  have J := inv_startH (CX := CX) (E := E) S hpin e0 (len _ _ _ _ _ _ _ q0) r z
  refine ⟨nol.keeps z.toInCall.keep, codeAny_func (wpAny_mono (ht.run [] s1 (L2.start N vs) H _ J hq) (fun fl s' hs => ?_) fun _ _ hs => hs)⟩
  match fl with
  | .next =>
    obtain ⟨σ', H', I', q⟩ := hs
    exact ⟨V.non, H', I'.os, I'.bare, I'.base, I'.hok, rfl, q⟩
  | .ret u =>
    obtain ⟨v, σ', H', I', rv, q⟩ := hs
    exact ⟨v, H', I'.os, I'.bare, I'.base, I'.hok, rv, q⟩
  | .brk =>
    obtain ⟨_, _, _, q⟩ := hs
    exact q.elim
  | .cont =>
    obtain ⟨_, _, _, q⟩ := hs
    exact q.elim
structure FnGE (P : Program) (w : World) (K : PySem.W.Frag) (mg : Str → Option Value) (base : Heap) (k : Nat) (x : Str) (ps : List Str) (sp : Addr → Value → Option Addr → Sp) : Prop where
  ex : ∃ f fd, FnE P w K mg base CX0 k f fd ps sp ∧ mg x = some (.ref f) ∧ PySem.W.keepIn K (.ref f) = true ∧ Binds K fd ps []
section
variable {X : Cx} {k : Nat} {x : Str} {ps : List Str} {sp : Addr → Value → Option Addr → Sp} {e : Expr} {es : List Expr} {t : TA} {p pos : Pos} {a : Addr} {oe : Obj} {cls : Value} {d : Option Addr}
/-- f(e, ..) where an error is handled -/
theorem pe_hE (G : FnGE X.prog X.w X.K X.mg X.base k x ps sp) (hr : RoomH k X.A) (hp : (a, oe) ∈ X.pn) (hh : X.A.handled = some (.ref a)) (hz : L2N.Zn cls d oe) (hf : ∃ vs, oe.data = .fields vs) (ha : PA X (e :: es) t) (hg : Gl X x := by rfl) (hdb : (x == ("__debug__" : Str)) = false := by decide)
    (he : starEach (e :: es) X.env = (false, eval e X.env) :: starEach es X.env := by rfl) (hpl : (backTo pos (starEach es X.env)).any (·.1) = false := by rfl) : PE X (.Call (.Name x p) (e :: es) [] pos) (tCall (sp a cls d) [] E0 t) := ⟨fun pins s σ H Q I h => by
  obtain ⟨f, fd, F, hm, hk, hb⟩ := G.ex
  refine wpAny_Call_Name_kw (ld_glob I hg hm (PySem.W.callWith_K (h₀ := X.base) I.ok.mod.kin hk (thn (ha.run pos pins s σ H _ I h) ?_) he hpl) hdb)
  rintro us s1 ⟨vs, H1, I1, r, q⟩
  refine ⟨I1.kIn, ?_⟩
  rw [List.append_nil] at q
  have hb2 := hb s1 us I1.kIn (by rw [List.append_nil]; exact r.length.symm.trans (F.len _ _ _ _ _ _ _ q))
  rw [List.append_nil] at hb2
  obtain ⟨p1, p2, p3, p4, p5⟩ := I1.pin (a, oe) (List.mem_append_left _ hp)
  refine wpAny_call (codeAny_mono (F.run X.A X.stack s1 H1 ⟨us, []⟩ us vs _ _ a oe cls d hr hh hz hf ⟨p1, p2, fun hm => (List.mem_cons.mp (I1.stkSub a hm)).elim p3 p4, p5⟩ I1.env0 hb2 r q) fun r s' z => ?_)
  match r with
  | .error er => exact False.elim z
  | .ok (.ret u) => exact I1.after z
  | .ok .next => exact False.elim z
  | .ok .brk => exact False.elim z
  | .ok .cont => exact False.elim z⟩
end
section
variable {P : Program} {w : World} {K : PySem.W.Frag} {mg : Str → Option Value} {base : Heap} {x : Str} {st : Stmt} {N ps : List Str} {k : Nat} {Pr : Addr → Value → Option Addr → PrD}
theorem Df.okE (F : Df K mg x st ps) (S : FnScope N ps (defScope st)) (len : ∀ a c d ds R Z, Pr a c d ds R Z → ds.length = ps.length)
    (hbody : ∀ (f : Addr) (cdv : Value) (A : Around) (outer : List Env) (s : Shared) (H : Hp) (E : XK) (a : Addr) (oe : Obj) (c : Value) (d : Option Addr), A.handled = some (.ref a) → L2N.Zn c d oe → (∃ fs, oe.data = .fields fs) → RoomH k (A.deeper (envOfC x (defScope st) s.heap.objs.size f cdv)) →
      ∃ t, PSs (cxH CX0 P w K mg base N x (defScope st) f cdv A outer s H E (a, oe)).nox (defBody st) t ∧ ∀ ds R Z, Pr a c d ds R Z → Ws K (upX E) t (ds.map .im ++ List.replicate (N.length - ds.length) .no) { nx := fun _ => R (.im .non), rt := R, ex := fun _ => Z }) :
    FnGE P w K mg base (k + 1) x ps fun a c d => spD K (Pr a c d) := by
  obtain ⟨f, fd, F, hm, hb⟩ := F.ex
  refine ⟨f, fd, fn_okE F S (fun a c d vs H Q E h => len_fn (len a c d) h) (fun cdv A outer s H vs Q E a oe c d hh hz hf hr h => ?_), hm, F.kp, hb⟩
  obtain ⟨t, h1, h2⟩ := hbody f cdv A outer s H E a oe c d hh hz hf hr
  exact ⟨t, h1.nox, read_fn h h2⟩
end
end FS
set_option Elab.async false
set_option linter.all false
set_option maxRecDepth 100000
set_option maxHeartbeats 4000000
/-! Loops and comprehensions, told by the slots that change. -/
namespace FS
open PySem PySem.Spec PyProof.Rows L2
/-- some slots changed -/
def up : Rho → List (Nat × Sl) → Rho
  | ρ, [] => ρ
  | ρ, (i, s) :: r => up (ρ.set i s) r
section
variable {K : PySem.W.Frag} {E : L2.WX} {ρ : Rho} {P : Pst} {t tz tb : TS} {ta : TA} {tl te : TE} {tt : TT} {wi : TI} {g : TG} {j n : Nat} {α : Type} {xs : List α} {enc : α → D} {d : D}
theorem src_n (h : EvA K ta ρ [.int (n : Int)]) (hn : n ≤ 1000000) : SrcD K (iRng1 ta) ρ ((List.range n).map fun k : Nat => D.int (k : Int)) := by
  have e : (List.range n).map (fun k : Nat => D.int (k : Int)) = rng 0 ((n : Int)).toNat := by
    rw [Int.toNat_natCast]
    unfold rng
    refine List.map_congr_left fun k _ => ?_
    rw [Int.zero_add]
  rw [e]
  exact src_rng1 h (by omega)
theorem wq_cut (u : List (Nat × Sl)) (h : Ws K E t ρ { P with nx := fun ρ' => ρ' = up ρ u }) (h2 : Ws K E tz (up ρ u) P) : Ws K E (tSeq t tz) ρ P := ws_cut (up ρ u) h h2
theorem ws_forU (hs : SrcD K wi ρ (xs.map enc)) (V : Nat → List (Nat × Sl) → Prop) (h0 : ∃ u, V 0 u ∧ up ρ u = ρ)
    (hb : ∀ i x u, xs[i]? = some x → V i u → ∃ as, GDs K g (enc x) as ∧ Ws K E tb (setD (up ρ u) as) { P with nx := fun ρ' => ∃ u', V (i + 1) u' ∧ up ρ u' = ρ', ct := fun ρ' => ∃ u', V (i + 1) u' ∧ up ρ u' = ρ', bk := P.nx })
    (hd : ∀ u, V xs.length u → P.nx (up ρ u)) : Ws K E (tFor wi g tb) ρ P := by
  refine ws_for hs (fun i ρ' => ∃ u, V i u ∧ up ρ u = ρ') h0 ?_ ?_
  · rintro i d ρ' hx ⟨u, hv, rfl⟩
    obtain ⟨x, h1, rfl⟩ := map_get hx
    exact hb i x u h1 hv
  · rintro ρ' ⟨u, hv, rfl⟩
    rw [List.length_map] at hv
    exact hd u hv
theorem ws_forL (hs : EvD K tl ρ (.lst (xs.map enc))) (V : Nat → List (Nat × Sl) → Prop) (h0 : ∃ u, V 0 u ∧ up ρ u = ρ)
    (hb : ∀ i x u, xs[i]? = some x → V i u → Ws K E tb ((up ρ u).set j (.im (enc x))) { P with nx := fun ρ' => ∃ u', V (i + 1) u' ∧ up ρ u' = ρ', ct := fun ρ' => ∃ u', V (i + 1) u' ∧ up ρ u' = ρ', bk := P.nx })
    (hd : ∀ u, V xs.length u → P.nx (up ρ u)) : Ws K E (tFor (iList K tl) (gName j) tb) ρ P :=
  ws_forU (src_list hs) V h0 (fun i x u h1 h2 => ⟨_, gd_name, hb i x u h1 h2⟩) hd
theorem ws_forN (hs : EvA K ta ρ [.int (n : Int)]) (hn : n ≤ 1000000) (V : Nat → List (Nat × Sl) → Prop) (h0 : ∃ u, V 0 u ∧ up ρ u = ρ)
    (hb : ∀ i u, i < n → V i u → Ws K E tb ((up ρ u).set j (.im (.int (i : Int)))) { P with nx := fun ρ' => ∃ u', V (i + 1) u' ∧ up ρ u' = ρ', ct := fun ρ' => ∃ u', V (i + 1) u' ∧ up ρ u' = ρ', bk := P.nx })
    (hd : ∀ u, V n u → P.nx (up ρ u)) : Ws K E (tFor (iRng1 ta) (gName j) tb) ρ P := by
  refine ws_forU (src_n hs hn) V h0 (fun i x u h1 h2 => ⟨_, gd_name, ?_⟩) (fun u h => hd u (by rwa [List.length_range] at h))
  obtain ⟨hi, rfl⟩ := List.getElem?_eq_some_iff.mp h1
  rw [List.getElem_range]
  exact hb i u (by rwa [List.length_range] at hi) h2
theorem wq_forL (hs : EvD K tl ρ (.lst (xs.map enc))) (V : Nat → List (Nat × Sl) → Prop) (h0 : ∃ u, V 0 u ∧ up ρ u = ρ)
    (hb : ∀ i x u, xs[i]? = some x → V i u → Ws K E tb ((up ρ u).set j (.im (enc x))) { P with nx := fun ρ' => ∃ u', V (i + 1) u' ∧ up ρ u' = ρ', ct := fun ρ' => ∃ u', V (i + 1) u' ∧ up ρ u' = ρ', bk := fun ρ' => Ws K E tz ρ' P })
    (hd : ∀ u, V xs.length u → Ws K E tz (up ρ u) P) : Ws K E (tSeq (tFor (iList K tl) (gName j) tb) tz) ρ P := ws_seq (ws_forL hs V h0 hb hd)
theorem wq_forN (hs : EvA K ta ρ [.int (n : Int)]) (hn : n ≤ 1000000) (V : Nat → List (Nat × Sl) → Prop) (h0 : ∃ u, V 0 u ∧ up ρ u = ρ)
    (hb : ∀ i u, i < n → V i u → Ws K E tb ((up ρ u).set j (.im (.int (i : Int)))) { P with nx := fun ρ' => ∃ u', V (i + 1) u' ∧ up ρ u' = ρ', ct := fun ρ' => ∃ u', V (i + 1) u' ∧ up ρ u' = ρ', bk := fun ρ' => Ws K E tz ρ' P })
    (hd : ∀ u, V n u → Ws K E tz (up ρ u) P) : Ws K E (tSeq (tFor (iRng1 ta) (gName j) tb) tz) ρ P := ws_seq (ws_forN hs hn V h0 hb hd)
theorem wipe1 (d : D) : setD (wipeD ρ [j]) [(j, d)] = ρ.set j (.im d) := by
  show (ρ.set j .no).set j (.im d) = _
  rw [List.set_set]
/-- [e for x in xs], xs a known list: the values known -/
theorem lc_L (e : α → D) (hs : EvD K tl ρ (.lst (xs.map enc))) (hv : isOw ρ[j]? = false) (ht : ∀ x ∈ xs, EvD K te (ρ.set j (.im (enc x))) (e x)) (hz : xs.length ≤ 100000) : EvO K (tLc (iList K tl) (gName j) tYes te [j]) ρ (xs.map e) :=
  evo_map e (src_list hs) (fun i hi => by rw [List.mem_singleton.mp hi]; exact hv) (fun x hx => ⟨_, gd_name, by simp, by rw [wipe1]; exact ht x hx⟩) hz
theorem lc_N (e : Nat → D) (hs : EvA K ta ρ [.int (n : Int)]) (hv : isOw ρ[j]? = false) (ht : ∀ k, k < n → EvD K te (ρ.set j (.im (.int (k : Int)))) (e k)) (hz : n ≤ 100000) : EvO K (tLc (iRng1 ta) (gName j) tYes te [j]) ρ ((List.range n).map e) :=
  evo_map e (src_n hs (by omega)) (fun i hi => by rw [List.mem_singleton.mp hi]; exact hv) (fun k hk => ⟨_, gd_name, by simp, by rw [wipe1]; exact ht k (List.mem_range.mp hk)⟩) (by rw [List.length_range]; exact hz)
theorem lcf_L (f : α → Bool) (e : α → D) (hs : EvD K tl ρ (.lst (xs.map enc))) (hv : isOw ρ[j]? = false) (ht : ∀ x ∈ xs, EvT K tt (ρ.set j (.im (enc x))) (f x) ∧ (f x = true → EvD K te (ρ.set j (.im (enc x))) (e x))) (hz : xs.length ≤ 100000) : EvO K (tLc (iList K tl) (gName j) tt te [j]) ρ ((xs.filter f).map e) :=
  evo_lc f e (src_list hs) (fun i hi => by rw [List.mem_singleton.mp hi]; exact hv) (fun x hx => ⟨_, gd_name, by simp, by rw [wipe1]; exact (ht x hx).1, fun q => by rw [wipe1]; exact (ht x hx).2 q⟩) hz
theorem lcf_N (f : Nat → Bool) (e : Nat → D) (hs : EvA K ta ρ [.int (n : Int)]) (hv : isOw ρ[j]? = false) (ht : ∀ k, k < n → EvT K tt (ρ.set j (.im (.int (k : Int)))) (f k) ∧ (f k = true → EvD K te (ρ.set j (.im (.int (k : Int)))) (e k))) (hz : n ≤ 100000) : EvO K (tLc (iRng1 ta) (gName j) tt te [j]) ρ (((List.range n).filter f).map e) :=
  evo_lc f e (src_n hs (by omega)) (fun i hi => by rw [List.mem_singleton.mp hi]; exact hv) (fun k hk => ⟨_, gd_name, by simp, by rw [wipe1]; exact (ht k (List.mem_range.mp hk)).1, fun q => by rw [wipe1]; exact (ht k (List.mem_range.mp hk)).2 q⟩) (by rw [List.length_range]; exact hz)
/-- .. the values open -/
theorem lc_LC (e : α → D) (hs : EvD K tl ρ (.lst (xs.map enc))) (hv : isOw ρ[j]? = false) (ht : ∀ x ∈ xs, EvC K te (ρ.set j (.im (enc x))) (e x)) (hz : xs.length ≤ 100000) : EvC K (tLc (iList K tl) (gName j) tYes te [j]) ρ (.lst (xs.map e)) :=
  ec_map e (src_list hs) (fun i hi => by rw [List.mem_singleton.mp hi]; exact hv) (fun x hx => ⟨_, gd_name, by simp, by rw [wipe1]; exact ht x hx⟩) hz
theorem lc_NC (e : Nat → D) (hs : EvA K ta ρ [.int (n : Int)]) (hv : isOw ρ[j]? = false) (ht : ∀ k, k < n → EvC K te (ρ.set j (.im (.int (k : Int)))) (e k)) (hz : n ≤ 100000) : EvC K (tLc (iRng1 ta) (gName j) tYes te [j]) ρ (.lst ((List.range n).map e)) :=
  ec_map e (src_n hs (by omega)) (fun i hi => by rw [List.mem_singleton.mp hi]; exact hv) (fun k hk => ⟨_, gd_name, by simp, by rw [wipe1]; exact ht k (List.mem_range.mp hk)⟩) (by rw [List.length_range]; exact hz)
/-- a list's item, by a natural place -/
theorem at_f {f : α → D} {l : List α} {k : Nat} (h : k < l.length) : atI (l.map f) (k : Int) = some (f l[k]) := at_map (List.getElem?_eq_getElem h)
end
end FS
set_option Elab.async false
set_option linter.all false
set_option maxRecDepth 100000
set_option maxHeartbeats 4000000
/-! Slices, pops, places, the lesser of two. -/
namespace FS
open PySem PySem.Spec PyProof.Rows L2
theorem _root_.L2.Room.units65 {k : Nat} {A : Around} (r : L2.Room k A) : A.units + 65 < cLine := by have := r.un; omega
section
variable {K : PySem.W.Frag} {E : L2.WX} {ρ : Rho} {P : Pst} {te ta tb to : TE} {tz : TS} {d y : D} {l : List D} {i j n : Nat} {π : List Nat}
theorem rc_min2 {i j : Int} : RcD K (fun xs H Q => ∃ i j, xs = [.int i, .int j] ∧ Q (.int (if j < i then j else i)) H) [.int i, .int j] (.int (min i j)) := fun H T vs Q s h q => by
  obtain ⟨v, w, rfl, hv, hw⟩ := isL_two h
  refine ⟨i, j, by rw [show v = V.int i from hv, show w = V.int j from hw], q _ ?_⟩
  show V.int _ = V.int _
  congr 1
  split <;> omega
theorem rc_max2 {i j : Int} : RcD K (fun xs H Q => ∃ i j, xs = [.int i, .int j] ∧ Q (.int (if j > i then j else i)) H) [.int i, .int j] (.int (max i j)) := fun H T vs Q s h q => by
  obtain ⟨v, w, rfl, hv, hw⟩ := isL_two h
  refine ⟨i, j, by rw [show v = V.int i from hv, show w = V.int j from hw], q _ ?_⟩
  show V.int _ = V.int _
  congr 1
  split <;> omega
/-! slices of known lists -/
theorem isL_ints2 {H : Hp} (ns : List Int) : IsL K H (ns.map .int) (ns.map V.int) := isL_ints ns
/-- a known list, or the script -/
def lstOf : D → Option (List D)
  | .lst l => some l
  | .scr ns => some (ns.map .int)
  | _ => none
theorem lst_is {H : Hp} {v : V} (e : lstOf d = some l) (h : Is K H d v) : ∃ a vs, v = .ref a ∧ SqL K H a vs ∧ IsL K H l vs := by
  cases d with
  | lst l' =>
    cases (show some l' = some l from e)
    obtain ⟨a, vs, h1, h2, h3⟩ := h
    exact ⟨a, vs, h1, .inl (.inl h2), h3⟩
  | scr ns =>
    cases (show some (ns.map D.int) = some l from e)
    obtain ⟨a, h1, h2⟩ := h
    exact ⟨a, _, h1, h2, isL_ints ns⟩
  | _ => cases e
theorem ev_slF {k : Nat} (h : EvD K te ρ d) (e : lstOf d = some l) (hb : EvD K tb ρ (.int (k : Int))) : EvO K (tSl (rSlL K) te (tPart tb) tNoPart) ρ (l.drop k) := fun M T0 H T σ X Q en q =>
  h M T0 H T σ X _ en fun v H1 T1 s1 t1 e1 i1 => hb M T0 H1 T1 σ X _ e1 fun w H2 T2 s2 t2 e2 i2 => by
    refine ⟨(k : Int), i2, ?_⟩
    obtain ⟨a, vs, rfl, h1, h2⟩ := lst_is e (i1.up s2)
    refine ⟨a, vs, rfl, e2.same.seq h1, fun p hp => q p _ H2 _ (s1.trans s2) (t1.trans (t2.trans (same_new hp))) (e2.opened hp) ?_⟩
    unfold cutV
    rw [HT.sIx_nat, HT.sIx_none]
    have e3 : (vs.drop (min k vs.length)).take (vs.length - min k vs.length) = vs.drop k := by
      rw [List.take_of_length_le (by rw [List.length_drop]; exact Nat.le_refl _)]
      rcases Nat.le_total k vs.length with z | z
      · rw [Nat.min_eq_left z]
      · rw [Nat.min_eq_right z, List.drop_length, List.drop_eq_nil_of_le z]
    rw [e3]
    exact h2.drop k
theorem ev_slT {k : Nat} (h : EvD K te ρ d) (e : lstOf d = some l) (hb : EvD K tb ρ (.int (k : Int))) : EvO K (tSl (rSlL K) te tNoPart (tPart tb)) ρ (l.take k) := fun M T0 H T σ X Q en q =>
  h M T0 H T σ X _ en fun v H1 T1 s1 t1 e1 i1 => hb M T0 H1 T1 σ X _ e1 fun w H2 T2 s2 t2 e2 i2 => by
    refine ⟨(k : Int), i2, ?_⟩
    obtain ⟨a, vs, rfl, h1, h2⟩ := lst_is e (i1.up s2)
    refine ⟨a, vs, rfl, e2.same.seq h1, fun p hp => q p _ H2 _ (s1.trans s2) (t1.trans (t2.trans (same_new hp))) (e2.opened hp) ?_⟩
    unfold cutV
    rw [HT.sIx_nat, HT.sIx_none, List.drop_zero, Nat.sub_zero]
    have e3 : vs.take (min k vs.length) = vs.take k := by
      rcases Nat.le_total k vs.length with z | z
      · rw [Nat.min_eq_left z]
      · rw [Nat.min_eq_right z, List.take_length, List.take_of_length_le z]
    rw [e3]
    exact h2.take k
/-! pops -/
theorem erase_part {H : Hp} : ∀ {l : List D} {vs : List V} {L : Op} (k : Nat), IsCL K H l vs L → ∃ L', IsCL K H (l.eraseIdx k) (vs.eraseIdx k) L' ∧ L'.Sublist L
  | [], _, _, k, h => ⟨[], by rw [h.1]; exact ⟨rfl, rfl⟩, List.nil_sublist _⟩
  | _ :: l, _, _, 0, ⟨v, r, L1, L2, e, eL, h1, h2⟩ => by
    rw [e, eL]
    exact ⟨L2, h2, List.sublist_append_right _ _⟩
  | x :: l, _, _, k + 1, ⟨v, r, L1, L2, e, eL, h1, h2⟩ => by
    obtain ⟨L', g1, g2⟩ := erase_part k h2
    rw [e, eL]
    exact ⟨L1 ++ L', ⟨v, _, L1, L', rfl, rfl, h1, g1⟩, (List.Sublist.refl _).append g2⟩
theorem drop_erase {α : Type} (l : List α) : l.dropLast = l.eraseIdx (l.length - 1) := by
  rcases List.eq_nil_or_concat l with rfl | ⟨a, b, rfl⟩
  · rfl
  · rw [List.concat_eq_append, List.dropLast_concat, List.eraseIdx_append_of_length_le (by simp)]
    simp
/-- PATH.pop(), of a list that has items -/
theorem ws_popP (e : ρ[i]? = some (.cl d)) (hp : EvL K to ρ i π) (hd : D.at π d = some (.lst l)) (hl0 : 0 < l.length) (h : P.nx (ρ.set i (.cl (D.put π d (.lst l.dropLast))))) : Ws K E (tDrop (tBM0 K "list" rPop to)) ρ P := fun M T0 H T σ Dn en k =>
  hp M T0 H T σ [] _ en fun u H1 T1 s1 t1 e1 ⟨v, n1, n2⟩ => by
    obtain ⟨v', u', Ls, L0, h1, ⟨a, vs, Lt, eu, eL, hl⟩, h3, h4, h5⟩ := e1.spot e hd
    rw [n1] at h1
    cases h1
    cases Nav.eq n2 h3
    subst eu
    subst eL
    have hT : T1 a = some (.lst vs) := h4.here rfl (a, .lst vs) List.mem_cons_self
    have hvl := hl.len
    refine ⟨.inl ⟨rfl, vs, .inl (.inl hT)⟩, a, vs, vs[vs.length - 1]'(by omega), rfl, rfl, hT, List.getElem?_eq_getElem _, k.nx _ σ H1 _ h s1 ?_⟩
    obtain ⟨L', g1, g2⟩ := erase_part (vs.length - 1) hl
    have g1' : IsCL K H1 l.dropLast vs.dropLast L' := by
      rw [drop_erase, drop_erase, ← hvl]
      exact g1
    refine h5 H1 _ [] (.lst l.dropLast) ((a, .lst vs.dropLast) :: L') (Same.refl _) ?_ ⟨a, _, _, rfl, rfl, g1'⟩
    have g6 := EnX.write (o' := .lst vs.dropLast) h4
    exact g6.sub (List.Sublist.cons_cons _ (g2.append (List.Sublist.refl _)))
/-- PATH.pop(k) -/
theorem ws_popAtP {k : Nat} (e : ρ[i]? = some (.cl d)) (hp : EvL K to ρ i π) (hd : D.at π d = some (.lst l)) (hb : EvD K tb ρ (.int (k : Int))) (hk : k < l.length) (hk2 : k < 2 ^ 62) (h : P.nx (ρ.set i (.cl (D.put π d (.lst (l.eraseIdx k)))))) : Ws K E (tDrop (tBM K "list" rPopAt to (tCons tb tNil))) ρ P := fun M T0 H T σ Dn en kk =>
  hp M T0 H T σ [] _ en fun u H1 T1 s1 t1 e1 ⟨v, n1, n2⟩ => by
    obtain ⟨v', u', Ls, L0, h1, ⟨a, vs, Lt, eu, eL, hl⟩, h3, h4, h5⟩ := e1.spot e hd
    rw [n1] at h1
    cases h1
    cases Nav.eq n2 h3
    subst eu
    have hT : T1 a = some (.lst vs) := h4.here rfl (a, .lst vs) (by rw [eL]; exact List.mem_cons_self)
    refine ⟨.inl ⟨rfl, vs, .inl (.inl hT)⟩, hb M T0 H1 T1 σ [] _ e1 fun w H2 T2 s2 t2 e2 i2 => ?_⟩
    obtain ⟨v2, u2, Ls2, L02, g1, ⟨a2, vs2, Lt2, eu2, eL2, hl2⟩, g3, g4, g5⟩ := e2.spot e hd
    rw [n1] at g1
    cases g1
    have ea := Nav.eq (h3.up t2) g3
    rw [eu2] at ea
    cases ea
    subst eu2
    subst eL2
    have hT2 : T2 a = some (.lst vs2) := g4.here rfl (a, .lst vs2) List.mem_cons_self
    have hvl := hl2.len
    refine ⟨a, vs2, (k : Int), k, vs2[k]'(by omega), rfl, by rw [show w = V.int _ from i2], hT2, by omega, by omega, ?_, List.getElem?_eq_getElem _, kk.nx _ σ H2 _ h (s1.trans s2) ?_⟩
    · rw [seqIndex_of (by omega) (by omega), Int.toNat_natCast]
    obtain ⟨L', q1, q2⟩ := erase_part k hl2
    refine g5 H2 _ [] (.lst (l.eraseIdx k)) ((a, .lst (vs2.eraseIdx k)) :: L') (Same.refl _) ?_ ⟨a, _, _, rfl, rfl, q1⟩
    have g6 := EnX.write (o' := .lst (vs2.eraseIdx k)) g4
    exact g6.sub (List.Sublist.cons_cons _ (q2.append (List.Sublist.refl _)))
/-! places -/
theorem ev_indexD (ha : EvD K ta ρ (.lst l)) (hb : EvD K tb ρ y) (hl : D.flatL n l = true) (hy : y.flat n = true) (hn : n < 60) (hj : l[j]? = some y) (h0 : ∀ m z, m < j → l[m]? = some z → PyData.eqv z.py y.py = false) : EvD K (tBM K "list" (rIndexD K) ta (tCons tb tNil)) ρ (.int (j : Int)) := fun M T0 H T σ X Q e q =>
  ha M T0 H T σ X _ e fun v H1 T1 s1 t1 e1 i1 => by
    have i1' := i1
    obtain ⟨a, vs, rfl, h1, h2⟩ := i1'
    refine ⟨.inl ⟨rfl, vs, .inl (.inl (e1.same _ _ h1))⟩, hb M T0 H1 T1 σ X _ e1 fun w H2 T2 s2 t2 e2 i2 => ?_⟩
    have hf : (D.lst l).flat (n + 1) = true := hl
    have hd1 := is_dp (n + 1) (.lst l) (.ref a) hf ((i1.up s2).up e2.same)
    have hd2 := is_dp n y w hy (i2.up e2.same)
    refine ⟨a, w, y.py, D.pyL l, j, y.py, rfl, rfl, hd1, hd2, py_shaped hf (by omega), py_shaped hy (by omega), ?_, SeqAt.eqv_refl _ (py_can n y hy).1, fun m z' hm hz => ?_, q _ H2 T2 (s1.trans s2) (t1.trans t2) e2 rfl⟩
    · rw [pyL_map, List.getElem?_map, hj]
      rfl
    · rw [pyL_map, List.getElem?_map] at hz
      cases hx : l[m]? with
      | none => rw [hx] at hz; cases hz
      | some x =>
        rw [hx] at hz
        cases hz
        exact h0 m x hm hx
end
end FS
set_option Elab.async false
set_option linter.all false
set_option maxRecDepth 100000
set_option maxHeartbeats 4000000
/-! Defs with a star parameter. -/
namespace FS
open PySem PySem.Spec PyProof.Rows L2
/-- the promise of def f( *v), told of the tuple -/
def spV (K : PySem.W.Frag) (P : PrD) : Sp := fun vs H Q E => ∃ ws rest : List V, vs = ws ++ rest ∧ ws.length = ([] : List Str).length ∧ rest.length ≤ sizeLine ∧ ∀ p, H p = Option.none → spD K P (ws ++ [V.ref p]) (upd H p (.tup rest)) Q E
/-- a def f( *v) of the text -/
structure Dv (K : PySem.W.Frag) (mg : Str → Option Value) (x : Str) (st : Stmt) (v : Str) : Prop where
  ex : ∃ f fd, Fun K x x st f fd ∧ mg x = some (.ref f) ∧ ∀ rest : List Value, bindArgs fd ⟨rest, []⟩ = (newTuple rest >>= fun t => pure [(v, t)])
structure FnV (P : Program) (w : World) (K : PySem.W.Frag) (mg : Str → Option Value) (base : Heap) (CX : CXT) (k : Nat) (x : Str) (sp : Sp) : Prop where
  ex : ∃ f, FnR P w K mg base CX k f sp ∧ mg x = some (.ref f) ∧ PySem.W.keepIn K (.ref f) = true
section
variable {P : Program} {w : World} {K : PySem.W.Frag} {mg : Str → Option Value} {base : Heap} {x v : Str} {st : Stmt} {N : List Str} {k : Nat} {Pr : PrD}
theorem Dv.ok (F : Dv K mg x st v) (S : FnScope N [v] (defScope st)) (len : ∀ ds R Z, Pr ds R Z → ds.length = 1)
    (hbody : ∀ (f : Addr) (cdv : Value) (A : Around) (outer : List Env) (s : Shared) (H : Hp) (E : XK), Room k (A.deeper (envOfC x (defScope st) s.heap.objs.size f cdv)) →
      ∃ t, PSs (cxOf CX0 P w K mg base N x (defScope st) f cdv A outer s H E).nox (defBody st) t ∧ ∀ ds R Z, Pr ds R Z → Ws K (upX E) t (ds.map .im ++ List.replicate (N.length - ds.length) .no) { nx := fun _ => R (.im .non), rt := R, ex := fun _ => Z }) :
    FnV P w K mg base CX0 (k + 1) x (spV K Pr) := by
  obtain ⟨f, fd, F, hm, hb⟩ := F.ex
  refine ⟨f, ?_, hm, F.kp⟩
  obtain ⟨oc, od, kV, doc, pm, an, cdv, ct, osl, rfl, lk, hcd⟩ := F.ex
  refine StX.fn_star (ps := []) (pv := v) lk hcd S (StX.cxUp_none : StX.CXUp CX0) (fun us rest hl => ?_) (fun A outer s H vs Q E hr h => ?_)
  · cases us with
    | nil => exact hb rest
    | cons u us => cases hl
  · obtain ⟨t, h1, h2⟩ := hbody f cdv A outer s H E hr
    exact ⟨t, h1.nox, read_fn h h2⟩
end
def tCallV (sp : Sp) (E : XK) (t : TA) : TE := fun σ H Q => t σ H fun vs H1 => sp vs H1 Q E
def tCallVS (K : PySem.W.Frag) (sp : Sp) (E : XK) (te : TE) : TE := fun σ H Q => te σ H fun y H1 => ∃ a xs, y = V.ref a ∧ (SqT K H1 a xs ∨ SqL K H1 a xs) ∧ sp xs H1 Q E
section
variable {X : Cx} {CX : CXT} {k : Nat} {sp : Sp} {E : XK} {x : Str} {e : Expr} {es : List Expr} {t : TA} {te : TE} {p sp_ pos : Pos}
theorem pe_gR (G : FnV X.prog X.w X.K X.mg X.base CX k x sp) (hr : Room k X.A) (hx : Passes CX X E) (ha : PA X (e :: es) t) (hg : Gl X x := by rfl) (hdb : (x == ("__debug__" : Str)) = false := by decide)
    (he : starEach (e :: es) X.env = (false, eval e X.env) :: starEach es X.env := by rfl) (hpl : (backTo pos (starEach es X.env)).any (·.1) = false := by rfl) : PE X (.Call (.Name x p) (e :: es) [] pos) (tCallV sp E t) := ⟨fun pins s σ H Q I h => by
  obtain ⟨f, F, hm, hk⟩ := G.ex
  refine wpAny_Call_Name_kw (ld_glob I hg hm (PySem.W.callWith_K (h₀ := X.base) I.ok.mod.kin hk (thn (ha.run pos pins s σ H _ I h) ?_) he hpl) hdb)
  rintro us s1 ⟨vs, H1, I1, r, q⟩
  exact ⟨I1.kIn, wpAny_call (run_fnR F hr hx I1 r q)⟩⟩
theorem pe_gR0 (G : FnV X.prog X.w X.K X.mg X.base CX k x sp) (hr : Room k X.A) (hx : Passes CX X E) (hg : Gl X x := by rfl) (hdb : (x == ("__debug__" : Str)) = false := by decide) : PE X (.Call (.Name x p) [] [] pos) (tCallV sp E tNil) := ⟨fun pins s σ H Q I h => by
  obtain ⟨f, F, hm, hk⟩ := G.ex
  refine wpAny_Call_Name_kw (ld_glob I hg hm ?_ hdb)
  exact PySem.W.callWith_K0 I.kIn hk (wpAny_call (run_fnR (us := []) F hr hx I .nil h))⟩
theorem pe_gS (G : FnV X.prog X.w X.K X.mg X.base CX k x sp) (hr : Room k X.A) (hx : Passes CX X E) (he : PE X e te) (hg : Gl X x := by rfl) (hdb : (x == ("__debug__" : Str)) = false := by decide)
    (hst : starEach [.Starred e sp_] X.env = [(true, eval e X.env)] := by rfl) : PE X (.Call (.Name x p) [.Starred e sp_] [] pos) (tCallVS X.K sp E te) := by
  obtain ⟨f, F, hm, hk⟩ := G.ex
  exact StX.pe_callS1 F hr hk hg hm hx he hdb hst
end
section
variable {K : PySem.W.Frag} {ρ : Rho} {tr : TA} {te : TE} {P : PrD} {E : XK} {ds : List D} {z : D}
theorem ev_callV (ha : EvA K tr ρ ds) (hl : ds.length ≤ 100000) (hp : P [.tup ds] (fun s => s = .im z) (fun _ => False)) : EvD K (tCallV (spV K P) E tr) ρ z := fun M T0 H T σ X Q e q =>
  ha M T0 H T σ X _ e fun vs H1 T1 s1 t1 e1 i1 => by
    refine ⟨[], vs, rfl, rfl, by rw [i1.len]; exact Nat.le_trans hl (by decide), fun p hpn => ?_⟩
    obtain ⟨s2, e2⟩ := e1.new (o := .tup vs) hpn
    obtain ⟨L, r, o, f⟩ := e2.ex
    refine ⟨_, _, [.tup ds], _, _, o, ⟨_, _, rfl, ⟨p, vs, rfl, .inl (.inl upd_same), i1.up s2⟩, rfl⟩, hp, fun s v H' T' hs s' t' hr => ?_, fun _ _ _ _ _ _ h => h.elim⟩
    subst hs
    obtain ⟨e3, iz⟩ := e2.ret_im r f s' t' hr
    exact q v H' T' (s1.trans (s2.trans s')) (t1.trans ((same_new hpn).trans t')) e3 iz
theorem ev_callVL (ha : EvD K te ρ (.lst ds)) (hl : ds.length ≤ 100000) (hp : P [.tup ds] (fun s => s = .im z) (fun _ => False)) : EvD K (tCallVS K (spV K P) E te) ρ z := fun M T0 H T σ X Q e q =>
  ha M T0 H T σ X _ e fun v H1 T1 s1 t1 e1 i1 => by
    obtain ⟨a, vs, rfl, h1, i1⟩ := i1
    refine ⟨a, vs, rfl, .inr (.inl (.inl (e1.same _ _ h1))), [], vs, rfl, rfl, by rw [i1.len]; exact Nat.le_trans hl (by decide), fun p hpn => ?_⟩
    obtain ⟨s2, e2⟩ := e1.new (o := .tup vs) hpn
    obtain ⟨L, r, o, f⟩ := e2.ex
    refine ⟨_, _, [.tup ds], _, _, o, ⟨_, _, rfl, ⟨p, vs, rfl, .inl (.inl upd_same), i1.up s2⟩, rfl⟩, hp, fun s v H' T' hs s' t' hr => ?_, fun _ _ _ _ _ _ h => h.elim⟩
    subst hs
    obtain ⟨e3, iz⟩ := e2.ret_im r f s' t' hr
    exact q v H' T' (s1.trans (s2.trans s')) (t1.trans ((same_new hpn).trans t')) e3 iz
end
end FS
set_option Elab.async false
set_option linter.all false
set_option maxRecDepth 100000
set_option maxHeartbeats 4000000
set_option exponentiation.threshold 20000
namespace FS
open PySem PySem.Spec PyProof.Rows L2

def topS (i : Nat) : Stmt := PySem.Challenge.pw_fairstart_k00_numbers_added_and_ordered.main.body.getD i (.Pass ⟨0, 0, 0, 0⟩)
abbrev s_ratio : Stmt := topS 7
abbrev N_ratio : List Str := ["n", "d", "common"]
theorem sc_ratio : FnScope ["n", "d", "common"] ["n", "d"] (defScope s_ratio) := ⟨rfl, rfl, rfl, by decide +kernel, rfl, by decide +kernel, by decide +kernel⟩
abbrev s_plus : Stmt := topS 8
abbrev N_plus : List Str := ["numbers", "top", "bottom", "n", "d", "common"]
theorem sc_plus : FnScope ["numbers", "top", "bottom", "n", "d", "common"] ["numbers"] (defScope s_plus) := ⟨rfl, rfl, rfl, by decide +kernel, rfl, by decide +kernel, by decide +kernel⟩
abbrev s_times : Stmt := topS 9
abbrev N_times : List Str := ["numbers", "top", "bottom", "n", "d"]
theorem sc_times : FnScope ["numbers", "top", "bottom", "n", "d"] ["numbers"] (defScope s_times) := ⟨rfl, rfl, rfl, by decide +kernel, rfl, by decide +kernel, by decide +kernel⟩
abbrev s_minus : Stmt := topS 10
abbrev N_minus : List Str := ["first", "second"]
theorem sc_minus : FnScope ["first", "second"] ["first", "second"] (defScope s_minus) := ⟨rfl, rfl, rfl, by decide +kernel, rfl, by decide +kernel, by decide +kernel⟩
abbrev s_over : Stmt := topS 11
abbrev N_over : List Str := ["first", "second"]
theorem sc_over : FnScope ["first", "second"] ["first", "second"] (defScope s_over) := ⟨rfl, rfl, rfl, by decide +kernel, rfl, by decide +kernel, by decide +kernel⟩
abbrev s_less : Stmt := topS 12
abbrev N_less : List Str := ["first", "second"]
theorem sc_less : FnScope ["first", "second"] ["first", "second"] (defScope s_less) := ⟨rfl, rfl, rfl, by decide +kernel, rfl, by decide +kernel, by decide +kernel⟩
abbrev s_law_cell : Stmt := topS 14
abbrev N_law_cell : List Str := ["script", "k"]
theorem sc_law_cell : FnScope ["script", "k"] ["script", "k"] (defScope s_law_cell) := ⟨rfl, rfl, rfl, by decide +kernel, rfl, by decide +kernel, by decide +kernel⟩
abbrev s_law_draws : Stmt := topS 15
abbrev N_law_draws : List Str := ["cell", "sizes", "told", "rest", "size", "seed", "k", "mixed"]
theorem sc_law_draws : FnScope ["cell", "sizes", "told", "rest", "size", "seed", "k", "mixed"] ["cell", "sizes"] (defScope s_law_draws) := ⟨rfl, rfl, rfl, by decide +kernel, rfl, by decide +kernel, by decide +kernel⟩
abbrev s_law_gcd : Stmt := topS 16
abbrev N_law_gcd : List Str := ["first", "second", "k", "rest"]
theorem sc_law_gcd : FnScope ["first", "second", "k", "rest"] ["first", "second"] (defScope s_law_gcd) := ⟨rfl, rfl, rfl, by decide +kernel, rfl, by decide +kernel, by decide +kernel⟩
abbrev s_law_ratio : Stmt := topS 17
abbrev N_law_ratio : List Str := ["n", "d", "common"]
theorem sc_law_ratio : FnScope ["n", "d", "common"] ["n", "d"] (defScope s_law_ratio) := ⟨rfl, rfl, rfl, by decide +kernel, rfl, by decide +kernel, by decide +kernel⟩
abbrev s_law_long : Stmt := topS 18
abbrev N_law_long : List Str := ["drawn", "at", "n", "k"]
theorem sc_law_long : FnScope ["drawn", "at", "n", "k"] ["drawn", "at"] (defScope s_law_long) := ⟨rfl, rfl, rfl, by decide +kernel, rfl, by decide +kernel, by decide +kernel⟩
abbrev s_law_integer : Stmt := topS 19
abbrev N_law_integer : List Str := ["cell", "drawn", "n"]
theorem sc_law_integer : FnScope ["cell", "drawn", "n"] ["cell"] (defScope s_law_integer) := ⟨rfl, rfl, rfl, by decide +kernel, rfl, by decide +kernel, by decide +kernel⟩
abbrev s_law_number : Stmt := topS 20
abbrev N_law_number : List Str := ["cell", "drawn", "k", "n", "d"]
theorem sc_law_number : FnScope ["cell", "drawn", "k", "n", "d"] ["cell"] (defScope s_law_number) := ⟨rfl, rfl, rfl, by decide +kernel, rfl, by decide +kernel, by decide +kernel⟩
abbrev s_law_list : Stmt := topS 21
abbrev N_law_list : List Str := ["script", "shape", "many", "numbers", "k", "half"]
theorem sc_law_list : FnScope ["script", "shape", "many", "numbers", "k", "half"] ["script", "shape"] (defScope s_law_list) := ⟨rfl, rfl, rfl, by decide +kernel, rfl, by decide +kernel, by decide +kernel⟩
abbrev s_law_added : Stmt := topS 22
abbrev N_law_added : List Str := ["r"]
theorem sc_law_added : FnScope ["r"] ["r"] (defScope s_law_added) := ⟨rfl, rfl, rfl, by decide +kernel, rfl, by decide +kernel, by decide +kernel⟩
abbrev s_law_multiplied : Stmt := topS 23
abbrev N_law_multiplied : List Str := ["r"]
theorem sc_law_multiplied : FnScope ["r"] ["r"] (defScope s_law_multiplied) := ⟨rfl, rfl, rfl, by decide +kernel, rfl, by decide +kernel, by decide +kernel⟩
abbrev s_law_is : Stmt := topS 24
abbrev N_law_is : List Str := ["actual", "top", "bottom", "part"]
theorem sc_law_is : FnScope ["actual", "top", "bottom", "part"] ["actual", "top", "bottom"] (defScope s_law_is) := ⟨rfl, rfl, rfl, by decide +kernel, rfl, by decide +kernel, by decide +kernel⟩
abbrev s_law_is_bad_number : Stmt := topS 25
abbrev N_law_is_bad_number : List Str := ["e"]
theorem sc_law_is_bad_number : FnScope ["e"] ["e"] (defScope s_law_is_bad_number) := ⟨rfl, rfl, rfl, by decide +kernel, rfl, by decide +kernel, by decide +kernel⟩
abbrev s_law_ratio_right : Stmt := topS 26
abbrev N_law_ratio_right : List Str := ["n", "d", "e", "actual"]
theorem sc_law_ratio_right : FnScope ["n", "d", "e", "actual"] ["n", "d"] (defScope s_law_ratio_right) := ⟨rfl, rfl, rfl, by decide +kernel, rfl, by decide +kernel, by decide +kernel⟩
abbrev s_law_over_right : Stmt := topS 27
abbrev N_law_over_right : List Str := ["first", "second", "e", "actual"]
theorem sc_law_over_right : FnScope ["first", "second", "e", "actual"] ["first", "second"] (defScope s_law_over_right) := ⟨rfl, rfl, rfl, by decide +kernel, rfl, by decide +kernel, by decide +kernel⟩
abbrev s_law_pair_right : Stmt := topS 28
abbrev N_law_pair_right : List Str := ["first", "second", "top", "other", "bottom", "order"]
theorem sc_law_pair_right : FnScope ["first", "second", "top", "other", "bottom", "order"] ["first", "second"] (defScope s_law_pair_right) := ⟨rfl, rfl, rfl, by decide +kernel, rfl, by decide +kernel, by decide +kernel⟩
abbrev s_law : Stmt := topS 29
abbrev N_law : List Str := ["script", "shape", "numbers", "top", "bottom", "held", "number", "factor", "n", "d", "first", "second", "pair"]
theorem sc_law : FnScope ["script", "shape", "numbers", "top", "bottom", "held", "number", "factor", "n", "d", "first", "second", "pair"] ["script"] (defScope s_law) := ⟨rfl, rfl, rfl, by decide +kernel, rfl, by decide +kernel, by decide +kernel⟩
structure Gm (K : PySem.W.Frag) (mg : Str → Option Value) (C_Fault C_BadNumber C_BadRow C_BadText : Addr) : Prop where
  BadNumber_e : ExcC K C_BadNumber
  BadNumber_m : PySem.W.exmOne K (.ref C_BadNumber) (.ref C_Fault) = some true
  BadNumber_p : Ep K mg "BadNumber" C_BadNumber
  BadNumber_v : mg "BadNumber" = some (.ref C_BadNumber)
  BadRow_v : mg "BadRow" = some (.ref C_BadRow)
  BadText_v : mg "BadText" = some (.ref C_BadText)
  Fault_v : mg "Fault" = some (.ref C_Fault)
  ValueError : mg "ValueError" = none
  abs : mg "abs" = none
  bool : mg "bool" = none
  gcd : mg "gcd" = some (.builtin "math.gcd")
  int : mg "int" = none
  isinstance : mg "isinstance" = none
  kit_BadNumber_BadNumber : PySem.W.kitOne K (.ref C_BadNumber) (.ref C_BadNumber) = some true
  kit_BadNumber_BadRow : PySem.W.kitOne K (.ref C_BadNumber) (.ref C_BadRow) = some false
  kit_BadNumber_BadText : PySem.W.kitOne K (.ref C_BadNumber) (.ref C_BadText) = some false
  kit_BadNumber_VE : PySem.W.kitOne K (.ref C_BadNumber) (.type "ValueError") = some true
  len : mg "len" = none
  range : mg "range" = none
  tuple : mg "tuple" = none
end FS
set_option Elab.async false
set_option linter.all false
set_option maxRecDepth 100000
set_option maxHeartbeats 4000000
set_option exponentiation.threshold 20000
namespace FS
open PySem PySem.Spec PyProof.Rows L2

local macro_rules | `(tactic| walk_at "side") => `(tactic| first | assumption | omega | decide)
local macro_rules | `(tactic| walk_at "hv") => `(tactic| (intro i hi; simp at hi; first | (subst hi; rfl) | (rcases hi with rfl | rfl <;> rfl) | (rcases hi with rfl | rfl | rfl <;> rfl)))
local macro_rules | `(tactic| walk_at "pr") => `(tactic| fail "no promise")
local macro_rules | `(tactic| walk_at "rv") => `(tactic| first
  | (with_reducible exact rv_add) | (with_reducible exact rv_sub) | (with_reducible exact rv_lt) | (with_reducible exact rv_le) | (with_reducible exact rv_gt) | (with_reducible exact rv_ge) | (with_reducible exact rv_eq) | (with_reducible exact rv_ne)
  | (with_reducible exact rv_is) | (with_reducible exact rv_isnot)
  | ((with_reducible apply rv_div); first | assumption | exact cdiv_small (by omega) (by omega))
  | ((with_reducible apply rv_mod); first | assumption | omega)
  | ((with_reducible apply rv_mul); first | assumption | exact cmul_left (by omega) | exact cmul_right (by omega))
  | ((with_reducible apply rv_mulW); assumption)
  | (with_reducible exact rv_p8) | (with_reducible exact rv_p18) | (with_reducible exact rv_p40) | (with_reducible exact rv_p20) | (with_reducible exact rv_p6) | (with_reducible exact rv_p7) | (with_reducible exact rv_p12) | (with_reducible exact rv_p25) | (with_reducible exact rv_p30) | (with_reducible exact rv_p39) | (with_reducible exact rv_p60)
  | ((with_reducible apply rv_ixxL); first | assumption | exact at_getD (by omega) (by omega) | exact at_nat rfl)
  | ((with_reducible apply rv_ixxT); first | assumption | exact at_getD (by omega) (by omega) | exact at_nat rfl)
  | ((with_reducible apply rv_ixxC); first | assumption)
  | (with_reducible exact ru_neg))
local macro_rules | `(tactic| walk_at "isi") => `(tactic| first | (with_reducible exact isi_non_int) | (with_reducible exact isi_non_bool) | (with_reducible exact isi_non_str) | (with_reducible exact isi_non_tuple) | (with_reducible exact isi_non_list) | (with_reducible exact isi_bl_int) | (with_reducible exact isi_bl_bool) | (with_reducible exact isi_bl_str) | (with_reducible exact isi_bl_tuple) | (with_reducible exact isi_bl_list) | (with_reducible exact isi_int_int) | (with_reducible exact isi_int_bool) | (with_reducible exact isi_int_str) | (with_reducible exact isi_int_tuple) | (with_reducible exact isi_int_list) | (with_reducible exact isi_str_int) | (with_reducible exact isi_str_bool) | (with_reducible exact isi_str_str) | (with_reducible exact isi_str_tuple) | (with_reducible exact isi_str_list) | (with_reducible exact isi_tup_int) | (with_reducible exact isi_tup_bool) | (with_reducible exact isi_tup_str) | (with_reducible exact isi_tup_tuple) | (with_reducible exact isi_tup_list) | (with_reducible exact isi_lst_int) | (with_reducible exact isi_lst_bool) | (with_reducible exact isi_lst_str) | (with_reducible exact isi_lst_tuple) | (with_reducible exact isi_lst_list))
local macro_rules | `(tactic| walk_at "rc") => `(tactic| first
  | walk_at "isi"
  | (with_reducible exact rc_len) | (with_reducible exact rc_lent) | (with_reducible exact rc_lenc) | (with_reducible exact rc_toint) | (with_reducible exact rc_absv) | (with_reducible exact rc_gcd)
  | ((with_reducible apply rc_lcm); assumption)
  | ((with_reducible apply rc_isi); (focus rfl); assumption)
  | (with_reducible exact rco_list) | (with_reducible exact rco_listT))
local macro_rules | `(tactic| walk_at "ev") => `(tactic| first
  | (with_reducible exact ev_int) | (with_reducible exact ev_bl) | (with_reducible exact ev_non) | (with_reducible exact ev_str) | (with_reducible exact ev_ty)
  | ((with_reducible apply ev_var); rfl)
  | ((with_reducible apply ev_lenOw); rfl)
  | ((with_reducible apply ev_op) <;> first | walk_at "ev" | walk_at "rv")
  | ((with_reducible apply ev_un) <;> first | walk_at "ev" | walk_at "rv")
  | ((with_reducible apply ev_cb) <;> first | walk_at "ev" | walk_at "rc")
  | ((with_reducible apply ev_call) <;> first | walk_at "ev" | walk_at "pr")
  | ((with_reducible apply ev_tup) <;> first | walk_at "ev" | (simp; done))
  | (with_reducible exact ea_nil)
  | ((with_reducible apply ea_cons) <;> walk_at "ev")
  | ((with_reducible apply et_test); walk_at "ev")
  | ((with_reducible apply et_B); walk_at "ev")
  | ((with_reducible apply et_not); walk_at "ev")
  | ((with_reducible apply et_or); (walk_at "ev"); intro _; walk_at "ev")
  | ((with_reducible apply et_and); (walk_at "ev"); intro _; walk_at "ev")
  | ((with_reducible apply ev_orV); (walk_at "ev"); intro _; walk_at "ev")
  | ((with_reducible apply ev_andV); (walk_at "ev"); intro _; walk_at "ev")
  | ((with_reducible apply ev_notV); walk_at "ev")
  | (with_reducible exact et_yes)
  | ((with_reducible apply evo_lst) <;> first | walk_at "ev" | (simp; done))
  | ((with_reducible apply ev_opO) <;> first | walk_at "ev" | ((with_reducible apply rvo_add); simp; omega))
  | ((with_reducible apply ev_cbO) <;> first | walk_at "ev" | walk_at "rc")
  | ((with_reducible apply ev_callO) <;> first | walk_at "ev" | walk_at "pr")
  | ((with_reducible apply ec_call) <;> first | walk_at "ev" | walk_at "pr")
  | ((with_reducible apply ec_tup) <;> first | walk_at "ev" | (simp; done))
  | ((with_reducible apply ec_lst) <;> first | walk_at "ev" | (simp; done))
  | (with_reducible exact eca_nil)
  | ((with_reducible apply eca_cons) <;> walk_at "ev")
  | ((with_reducible apply ec_sc); (walk_at "ev"); rfl)
  | ((with_reducible apply ec_ow); (walk_at "ev"); first | assumption | (intro d hd; simp at hd; done))
  | ((with_reducible apply ec_fz); walk_at "ev")
  | ((with_reducible apply ev_fz); walk_at "ev"))

local macro_rules | `(tactic| walk_at "im") => `(tactic| ((with_reducible apply wq_asg); walk_at "ev"; (try dsimp only [List.set, Int.reduceToNat])))
local macro_rules | `(tactic| walk_at "ow") => `(tactic| ((with_reducible apply wq_asgO); walk_at "ev"; (focus (first | decide | (simp; done))); (try dsimp only [List.set, Int.reduceToNat])))
local macro_rules | `(tactic| walk_at "cl") => `(tactic| ((with_reducible apply wq_asgC); walk_at "ev"; (focus (first | decide | (simp; done))); (try dsimp only [List.set, Int.reduceToNat])))
local macro_rules | `(tactic| walk_at "if") => `(tactic| ((first | (with_reducible apply wq_when) | (with_reducible apply wq_if) | (with_reducible apply ws_if)); walk_at "ev"; (try dsimp only [Int.reduceToNat])))
local macro_rules | `(tactic| walk_at "ret") => `(tactic| ((with_reducible apply ws_ret); walk_at "ev"))
local macro_rules | `(tactic| walk_at "go") => `(tactic| (try dsimp only [cxOf, L2.Cx.nox, L2.Cx.wish, L2.Cx.blk]))
local macro_rules | `(tactic| walk_at "ints") => `(tactic| (refine ev_fz (evo_lst ?_ (by decide)); repeat (first | exact ea_nil | refine ea_cons ev_int ?_)))

/-! ### numbers, plain -/
theorem mk_eq {n d : Int} (h : d ≠ 0) : (mk n d).1 * d = n * (mk n d).2 := by
  have hn : ((Nat.gcd n.natAbs d.natAbs : Nat) : Int) ∣ n := Int.ofNat_dvd_left.mpr (Nat.gcd_dvd_left _ _)
  have hd : ((Nat.gcd n.natAbs d.natAbs : Nat) : Int) ∣ d := Int.ofNat_dvd_left.mpr (Nat.gcd_dvd_right _ _)
  have g0 : 0 < Nat.gcd n.natAbs d.natAbs := Nat.gcd_pos_of_pos_right _ (by omega)
  show n / _ * d = n * (d / _)
  generalize Nat.gcd n.natAbs d.natAbs = g at hn hd g0
  obtain ⟨a, rfl⟩ := hn
  obtain ⟨b, rfl⟩ := hd
  rw [Int.mul_ediv_cancel_left _ (by omega), Int.mul_ediv_cancel_left _ (by omega), ← Int.mul_assoc, Int.mul_comm a]
/-- a pair that _law_is takes for top over bottom -/
structure IsN (b : Nat) (a : Num) (t d : Int) : Prop where
  pos : 0 < a.2
  co : Nat.gcd a.1.natAbs a.2.natAbs = 1
  eq : a.1 * d = t * a.2
  up : a.1.natAbs < 2 ^ b
  dn : a.2.natAbs < 2 ^ b
theorem natAbs_lt {d : Int} {k : Nat} (h : 0 < d) (hd : d.natAbs < 2 ^ k) : d < 2 ^ k := by
  have h2 : ((d.natAbs : Nat) : Int) < ((2 ^ k : Nat) : Int) := Int.ofNat_lt.mpr hd
  rw [Int.natCast_pow, Int.natAbs_of_nonneg (by omega)] at h2
  exact h2
theorem lt_natAbs {d : Int} {k : Nat} (h : 0 ≤ d) (hd : d < 2 ^ k) : d.natAbs < 2 ^ k := by
  have h2 : ((d.natAbs : Nat) : Int) < ((2 ^ k : Nat) : Int) := by
    rw [Int.natCast_pow, Int.natAbs_of_nonneg h]
    exact hd
  exact Int.ofNat_lt.mp h2
theorem mk_is {b : Nat} {n d t e : Int} (h : 0 < d) (hn : n.natAbs < 2 ^ b) (hd : d.natAbs < 2 ^ b) (he : n * e = t * d) : IsN b (mk n d) t e := by
  have g := mk_good (n := n) h hn (natAbs_lt h hd)
  refine ⟨g.pos, g.co, ?_, g.up, lt_natAbs (by have := g.pos; omega) g.dn⟩
  have e1 := mk_eq (n := n) (d := d) (by omega)
  refine Int.eq_of_mul_eq_mul_right (a := d) (by omega) ?_
  rw [Int.mul_right_comm, e1, Int.mul_right_comm, he, Int.mul_right_comm]
/-- a number's pair, of at most b bits -/
def NumOk (b : Nat) (x : Num) : Prop := 0 < x.2 ∧ x.1.natAbs < 2 ^ b ∧ x.2.natAbs < 2 ^ b
def plusS (a x : Num) : Num := (a.1 * (x.2 / ((Nat.gcd a.2.natAbs x.2.natAbs : Nat) : Int)) + x.1 * (a.2 / ((Nat.gcd a.2.natAbs x.2.natAbs : Nat) : Int)), a.2 / ((Nat.gcd a.2.natAbs x.2.natAbs : Nat) : Int) * x.2)
def sumS (a x : Num) : Num := (a.1 * x.2 + x.1 * a.2, a.2 * x.2)
def prodS (a x : Num) : Num := (a.1 * x.1, a.2 * x.2)
structure Ps (e : Nat) (a s : Num) : Prop where
  pa : 0 < a.2
  ps : 0 < s.2
  le : a.2 ≤ s.2
  eq : a.1 * s.2 = s.1 * a.2
  up : s.1.natAbs < 2 ^ e
  dn : s.2.natAbs < 2 ^ e
theorem Ps.start : Ps 1 (0, 1) (0, 1) := ⟨by decide, by decide, by decide, by decide, by decide, by decide⟩
theorem Ps.an {e : Nat} {a s : Num} (h : Ps e a s) : a.1.natAbs < 2 ^ e := by
  refine Nat.lt_of_le_of_lt ?_ h.up
  have e1 : a.1.natAbs * s.2.natAbs = s.1.natAbs * a.2.natAbs := by rw [← Int.natAbs_mul, ← Int.natAbs_mul, h.eq]
  have h1 := h.pa
  have h2 := h.le
  have h3 : s.1.natAbs * a.2.natAbs ≤ s.1.natAbs * s.2.natAbs := Nat.mul_le_mul_left _ (by omega)
  exact Nat.le_of_mul_le_mul_right (c := s.2.natAbs) (by omega) (by omega)
theorem Ps.ad {e : Nat} {a s : Num} (h : Ps e a s) : a.2.natAbs < 2 ^ e := by
  have h1 := h.pa
  have h2 := h.le
  have h3 := h.dn
  omega
theorem bits_add {x y : Int} {e : Nat} (hx : x.natAbs < 2 ^ e) (hy : y.natAbs < 2 ^ e) : (x + y).natAbs < 2 ^ (e + 1) := by
  rw [Nat.pow_succ]
  omega
theorem Ps.step {e b : Nat} {a s x : Num} (h : Ps e a s) (hx : NumOk b x) : Ps (e + b + 1) (plusS a x) (sumS s x) := by
  obtain ⟨x1, x2, x3⟩ := hx
  have h1 := h.pa
  have h2 := h.ps
  have hg1 : ((Nat.gcd a.2.natAbs x.2.natAbs : Nat) : Int) ∣ a.2 := Int.ofNat_dvd_left.mpr (Nat.gcd_dvd_left _ _)
  have hg2 : ((Nat.gcd a.2.natAbs x.2.natAbs : Nat) : Int) ∣ x.2 := Int.ofNat_dvd_left.mpr (Nat.gcd_dvd_right _ _)
  have g0 : 0 < Nat.gcd a.2.natAbs x.2.natAbs := Nat.gcd_pos_of_pos_right _ (by omega)
  have ha : 0 < a.2 / ((Nat.gcd a.2.natAbs x.2.natAbs : Nat) : Int) := Int.ediv_pos_of_pos_of_dvd h1 (by omega) hg1
  have hle : a.2 / ((Nat.gcd a.2.natAbs x.2.natAbs : Nat) : Int) ≤ a.2 := Int.ediv_le_self _ (by omega)
  refine ⟨?_, Int.mul_pos h2 x1, ?_, ?_, ?_, ?_⟩
  · exact Int.mul_pos ha x1
  · exact Int.mul_le_mul_of_nonneg_right (Int.le_trans hle h.le) (by omega)
  · show (a.1 * (x.2 / _) + x.1 * (a.2 / _)) * (s.2 * x.2) = (s.1 * x.2 + x.1 * s.2) * (a.2 / _ * x.2)
    have he := h.eq
    generalize ((Nat.gcd a.2.natAbs x.2.natAbs : Nat) : Int) = g at hg1 hg2 ha hle
    have hgz : g ≠ 0 := by
      intro z
      subst z
      rw [Int.ediv_zero] at ha
      omega
    obtain ⟨a', ea⟩ := hg1
    obtain ⟨x', ex⟩ := hg2
    have q1 : a.2 / g = a' := by rw [ea, Int.mul_ediv_cancel_left _ hgz]
    have q2 : x.2 / g = x' := by rw [ex, Int.mul_ediv_cancel_left _ hgz]
    rw [q1, q2, ex]
    have he2 : a.1 * s.2 = s.1 * a' * g := by rw [he, ea, Int.mul_assoc, Int.mul_comm a' g]
    have L : (a.1 * x' + x.1 * a') * (s.2 * (g * x')) = (a.1 * s.2) * (x' * (g * x')) + x.1 * a' * (s.2 * (g * x')) := by
      rw [Int.add_mul]
      congr 1
      rw [Int.mul_assoc, Int.mul_assoc]
      congr 1
      rw [Int.mul_left_comm]
    have R : (s.1 * (g * x') + x.1 * s.2) * (a' * (g * x')) = (s.1 * a' * g) * (x' * (g * x')) + x.1 * a' * (s.2 * (g * x')) := by
      rw [Int.add_mul]
      congr 1
      · simp only [Int.mul_assoc, Int.mul_comm, Int.mul_left_comm]
      · simp only [Int.mul_assoc, Int.mul_comm, Int.mul_left_comm]
    rw [L, R, he2]
  · refine bits_add (e := e + b) (wide_lt h.up x3) ?_
    rw [Nat.add_comm]
    exact wide_lt x2 h.dn
  · have := wide_lt h.dn x3
    refine Nat.lt_trans this ?_
    exact Nat.pow_lt_pow_right (by decide) (by omega)
theorem ps_fold {b : Nat} : ∀ (l : List Num) (e : Nat) (a s : Num), Ps e a s → (∀ x ∈ l, NumOk b x) → Ps (e + l.length * (b + 1)) (l.foldl plusS a) (l.foldl sumS s)
  | [], e, a, s, h, _ => by simpa using h
  | x :: l, e, a, s, h, hl => by
    have := ps_fold l _ _ _ (h.step (hl x List.mem_cons_self)) fun y hy => hl y (List.mem_cons_of_mem _ hy)
    have e2 : e + b + 1 + l.length * (b + 1) = e + (x :: l).length * (b + 1) := by
      rw [List.length_cons, Nat.succ_mul]
      omega
    rw [e2] at this
    exact this
structure Pt (e : Nat) (a : Num) : Prop where
  pa : 0 < a.2
  up : a.1.natAbs < 2 ^ e
  dn : a.2.natAbs < 2 ^ e
theorem Pt.start : Pt 1 (1, 1) := ⟨by decide, by decide, by decide⟩
theorem Pt.step {e b : Nat} {a x : Num} (h : Pt e a) (hx : NumOk b x) : Pt (e + b) (prodS a x) := ⟨Int.mul_pos h.pa hx.1, wide_lt h.up hx.2.1, wide_lt h.dn hx.2.2⟩
theorem pt_fold {b : Nat} : ∀ (l : List Num) (e : Nat) (a : Num), Pt e a → (∀ x ∈ l, NumOk b x) → Pt (e + l.length * b) (l.foldl prodS a)
  | [], e, a, h, _ => by simpa using h
  | x :: l, e, a, h, hl => by
    have := pt_fold l _ _ (h.step (hl x List.mem_cons_self)) fun y hy => hl y (List.mem_cons_of_mem _ hy)
    have e2 : e + b + l.length * b = e + (x :: l).length * b := by
      rw [List.length_cons, Nat.succ_mul]
      omega
    rw [e2] at this
    exact this
def plusN (l : List Num) : Num := mk (l.foldl plusS (0, 1)).1 (l.foldl plusS (0, 1)).2
def timesN (l : List Num) : Num := mk (l.foldl prodS (1, 1)).1 (l.foldl prodS (1, 1)).2
theorem plus_is {b : Nat} {l : List Num} (hl : ∀ x ∈ l, NumOk b x) : IsN (1 + l.length * (b + 1)) (plusN l) (l.foldl sumS (0, 1)).1 (l.foldl sumS (0, 1)).2 := by
  have h := ps_fold l 1 _ _ Ps.start hl
  exact mk_is h.pa h.an h.ad h.eq
theorem times_is {b : Nat} {l : List Num} (hl : ∀ x ∈ l, NumOk b x) : IsN (1 + l.length * b) (timesN l) (l.foldl prodS (1, 1)).1 (l.foldl prodS (1, 1)).2 := by
  have h := pt_fold l 1 _ Pt.start hl
  exact mk_is h.pa h.up h.dn rfl
end FS
set_option Elab.async false
set_option linter.all false
set_option maxRecDepth 100000
set_option maxHeartbeats 4000000
set_option exponentiation.threshold 20000
namespace FS
open PySem PySem.Spec PyProof.Rows L2

local macro_rules | `(tactic| walk_at "side") => `(tactic| first | assumption | omega | decide)
local macro_rules | `(tactic| walk_at "hv") => `(tactic| (intro i hi; simp at hi; first | (subst hi; rfl) | (rcases hi with rfl | rfl <;> rfl) | (rcases hi with rfl | rfl | rfl <;> rfl)))
local macro_rules | `(tactic| walk_at "pr") => `(tactic| fail "no promise")
local macro_rules | `(tactic| walk_at "rv") => `(tactic| first
  | (with_reducible exact rv_add) | (with_reducible exact rv_sub) | (with_reducible exact rv_lt) | (with_reducible exact rv_le) | (with_reducible exact rv_gt) | (with_reducible exact rv_ge) | (with_reducible exact rv_eq) | (with_reducible exact rv_ne)
  | (with_reducible exact rv_is) | (with_reducible exact rv_isnot)
  | ((with_reducible apply rv_div); first | assumption | exact cdiv_small (by omega) (by omega))
  | ((with_reducible apply rv_mod); first | assumption | omega)
  | ((with_reducible apply rv_mul); first | assumption | exact cmul_left (by omega) | exact cmul_right (by omega))
  | ((with_reducible apply rv_mulW); assumption)
  | (with_reducible exact rv_p8) | (with_reducible exact rv_p18) | (with_reducible exact rv_p40) | (with_reducible exact rv_p20) | (with_reducible exact rv_p6) | (with_reducible exact rv_p7) | (with_reducible exact rv_p12) | (with_reducible exact rv_p25) | (with_reducible exact rv_p30) | (with_reducible exact rv_p39) | (with_reducible exact rv_p60)
  | ((with_reducible apply rv_ixxL); first | assumption | exact at_getD (by omega) (by omega) | exact at_nat rfl)
  | ((with_reducible apply rv_ixxT); first | assumption | exact at_getD (by omega) (by omega) | exact at_nat rfl)
  | ((with_reducible apply rv_ixxC); first | assumption)
  | (with_reducible exact ru_neg))
local macro_rules | `(tactic| walk_at "isi") => `(tactic| first | (with_reducible exact isi_non_int) | (with_reducible exact isi_non_bool) | (with_reducible exact isi_non_str) | (with_reducible exact isi_non_tuple) | (with_reducible exact isi_non_list) | (with_reducible exact isi_bl_int) | (with_reducible exact isi_bl_bool) | (with_reducible exact isi_bl_str) | (with_reducible exact isi_bl_tuple) | (with_reducible exact isi_bl_list) | (with_reducible exact isi_int_int) | (with_reducible exact isi_int_bool) | (with_reducible exact isi_int_str) | (with_reducible exact isi_int_tuple) | (with_reducible exact isi_int_list) | (with_reducible exact isi_str_int) | (with_reducible exact isi_str_bool) | (with_reducible exact isi_str_str) | (with_reducible exact isi_str_tuple) | (with_reducible exact isi_str_list) | (with_reducible exact isi_tup_int) | (with_reducible exact isi_tup_bool) | (with_reducible exact isi_tup_str) | (with_reducible exact isi_tup_tuple) | (with_reducible exact isi_tup_list) | (with_reducible exact isi_lst_int) | (with_reducible exact isi_lst_bool) | (with_reducible exact isi_lst_str) | (with_reducible exact isi_lst_tuple) | (with_reducible exact isi_lst_list))
local macro_rules | `(tactic| walk_at "rc") => `(tactic| first
  | walk_at "isi"
  | (with_reducible exact rc_len) | (with_reducible exact rc_lent) | (with_reducible exact rc_lenc) | (with_reducible exact rc_toint) | (with_reducible exact rc_absv) | (with_reducible exact rc_gcd)
  | ((with_reducible apply rc_lcm); assumption)
  | ((with_reducible apply rc_isi); (focus rfl); assumption)
  | (with_reducible exact rco_list) | (with_reducible exact rco_listT))
local macro_rules | `(tactic| walk_at "ev") => `(tactic| first
  | (with_reducible exact ev_int) | (with_reducible exact ev_bl) | (with_reducible exact ev_non) | (with_reducible exact ev_str) | (with_reducible exact ev_ty)
  | ((with_reducible apply ev_var); rfl)
  | ((with_reducible apply ev_lenOw); rfl)
  | ((with_reducible apply ev_op) <;> first | walk_at "ev" | walk_at "rv")
  | ((with_reducible apply ev_un) <;> first | walk_at "ev" | walk_at "rv")
  | ((with_reducible apply ev_cb) <;> first | walk_at "ev" | walk_at "rc")
  | ((with_reducible apply ev_call) <;> first | walk_at "ev" | walk_at "pr")
  | ((with_reducible apply ev_tup) <;> first | walk_at "ev" | (simp; done))
  | (with_reducible exact ea_nil)
  | ((with_reducible apply ea_cons) <;> walk_at "ev")
  | ((with_reducible apply et_test); walk_at "ev")
  | ((with_reducible apply et_B); walk_at "ev")
  | ((with_reducible apply et_not); walk_at "ev")
  | ((with_reducible apply et_or); (walk_at "ev"); intro _; walk_at "ev")
  | ((with_reducible apply et_and); (walk_at "ev"); intro _; walk_at "ev")
  | ((with_reducible apply ev_orV); (walk_at "ev"); intro _; walk_at "ev")
  | ((with_reducible apply ev_andV); (walk_at "ev"); intro _; walk_at "ev")
  | ((with_reducible apply ev_notV); walk_at "ev")
  | (with_reducible exact et_yes)
  | ((with_reducible apply evo_lst) <;> first | walk_at "ev" | (simp; done))
  | ((with_reducible apply ev_opO) <;> first | walk_at "ev" | ((with_reducible apply rvo_add); simp; omega))
  | ((with_reducible apply ev_cbO) <;> first | walk_at "ev" | walk_at "rc")
  | ((with_reducible apply ev_callO) <;> first | walk_at "ev" | walk_at "pr")
  | ((with_reducible apply ec_call) <;> first | walk_at "ev" | walk_at "pr")
  | ((with_reducible apply ec_tup) <;> first | walk_at "ev" | (simp; done))
  | ((with_reducible apply ec_lst) <;> first | walk_at "ev" | (simp; done))
  | (with_reducible exact eca_nil)
  | ((with_reducible apply eca_cons) <;> walk_at "ev")
  | ((with_reducible apply ec_sc); (walk_at "ev"); rfl)
  | ((with_reducible apply ec_ow); (walk_at "ev"); first | assumption | (intro d hd; simp at hd; done))
  | ((with_reducible apply ec_fz); walk_at "ev")
  | ((with_reducible apply ev_fz); walk_at "ev"))

local macro_rules | `(tactic| walk_at "im") => `(tactic| ((with_reducible apply wq_asg); walk_at "ev"; (try dsimp only [List.set, Int.reduceToNat])))
local macro_rules | `(tactic| walk_at "ow") => `(tactic| ((with_reducible apply wq_asgO); walk_at "ev"; (focus (first | decide | (simp; done))); (try dsimp only [List.set, Int.reduceToNat])))
local macro_rules | `(tactic| walk_at "cl") => `(tactic| ((with_reducible apply wq_asgC); walk_at "ev"; (focus (first | decide | (simp; done))); (try dsimp only [List.set, Int.reduceToNat])))
local macro_rules | `(tactic| walk_at "if") => `(tactic| ((first | (with_reducible apply wq_when) | (with_reducible apply wq_if) | (with_reducible apply ws_if)); walk_at "ev"; (try dsimp only [Int.reduceToNat])))
local macro_rules | `(tactic| walk_at "ret") => `(tactic| ((with_reducible apply ws_ret); walk_at "ev"))
local macro_rules | `(tactic| walk_at "go") => `(tactic| (try dsimp only [cxOf, L2.Cx.nox, L2.Cx.wish, L2.Cx.blk]))
local macro_rules | `(tactic| walk_at "ints") => `(tactic| (refine ev_fz (evo_lst ?_ (by decide)); repeat (first | exact ea_nil | refine ea_cons ev_int ?_)))

section
variable {P : Program} {w : World} {K : PySem.W.Frag} {mg : Str → Option Value} {base : Heap} {C_Fault C_BadNumber C_BadRow C_BadText : Addr}
/-! ### the script's cells -/
def P_cell : PrD := fun ds R _ => ∃ ns k, ds = [.scr ns, .int k] ∧ 0 ≤ k ∧ R (.im (.int (cell ns k)))
theorem ok_cell (F : Df K mg "_law_cell" s_law_cell ["script", "k"]) (gm : Gm K mg C_Fault C_BadNumber C_BadRow C_BadText) : FnG P w K mg base CX0 1 "_law_cell" ["script", "k"] (spD K P_cell) := by
  refine F.ok (k := 0) sc_law_cell (fun ds R Z ⟨ns, k, e, _⟩ => by rw [e] <;> rfl) (fun f cdv A outer s H E hr => ?_)
  refine ⟨_,
    (pss_cons (ps_if (pt_cmpR opLt (pv 1) (cb (kLen K) gm.len (pa_cons (pv 0) pa_nil)) (nomark _)) (pss_one (ps_ret (ix K (pv 0) (pv 1)))) pss_nil)
    (pss_one (ps_ret (pe_op (kAdd K) (pe_op opMul pe_int (pv 1)) pe_int)))), fun ds R Z p => ?_⟩
  obtain ⟨ns, k, rfl, h0, p⟩ := p
  refine ws_to (ρ' := [.im (.scr ns), .im (.int k)]) rfl ?_
  walk_at "go"
  walk_at "if" <;> intro hb
  · have hb : k < ns.length := of_decide_eq_true hb
    have hi := atI_getD h0 hb
    unfold cell at p
    rw [if_pos hb] at p
    walk_at "ret"
    exact p
  · have hb : ¬ k < ns.length := of_decide_eq_false hb
    unfold cell at p
    rw [if_neg hb] at p
    walk_at "ret"
    exact p
theorem pr_cell {ns : List Int} {k : Int} (h : 0 ≤ k) : P_cell [.scr ns, .int k] (fun s => s = .im (.int (cell ns k))) (fun _ => False) := ⟨ns, k, rfl, h, rfl⟩
end

section
variable {P : Program} {w : World} {K : PySem.W.Frag} {mg : Str → Option Value} {base : Heap} {C_Fault C_BadNumber C_BadRow C_BadText : Addr}
/-! ### draws -/
def P_draws : PrD := fun ds R _ => ∃ c sizes, ds = [.int c, .lst (sizes.map .int)] ∧ (∀ s ∈ sizes, 0 < s ∧ s < 2 ^ 200) ∧ sizes.length ≤ 1000 ∧ R (.cl (.lst ((draws c sizes).map .int)))

theorem ok_draws (F : Df K mg "_law_draws" s_law_draws ["cell", "sizes"]) (gm : Gm K mg C_Fault C_BadNumber C_BadRow C_BadText) : FnG P w K mg base CX0 1 "_law_draws" ["cell", "sizes"] (spD K P_draws) := by
  refine F.ok (k := 0) sc_law_draws (fun ds R Z ⟨c, sizes, e, _⟩ => by rw [e] <;> rfl) (fun f cdv A outer s H E hr => ?_)
  refine ⟨_,
    (pss_cons (sv 2 sc_law_draws.nd (pe_lst pa_nil))
    (pss_cons (sv 3 sc_law_draws.nd (ct cInt gm.int (pa_cons (pv 0) pa_nil)))
    (pss_cons (ps_if (pt_cmpR opGe (pv 3) (pe_op opPow pe_int pe_int) (nomark _)) (pss_cons (sv 3 sc_law_draws.nd (pe_op opSub (pv 3) (pe_op opPow pe_int pe_int))) (pss_cons (ps_for PassesOwn.never rfl (pl K (pv 1)) (gn 4 sc_law_draws.nd) (pss_cons (ps_expr (ml_append K (pv 2) (pa_cons (pe_op opMod (ct cInt gm.int (pa_cons (pv 3) pa_nil)) (pv 4)) pa_nil))) (pss_one (sv 3 sc_law_draws.nd (pe_op opDiv (pv 3) (pv 4)))))) (pss_one (ps_ret (pv 2))))) pss_nil)
    (pss_cons (sv 5 sc_law_draws.nd (pe_op opMod (ct cInt gm.int (pa_cons (pv 3) pa_nil)) pe_int))
    (pss_cons (ps_for PassesOwn.never rfl (pi_range1 (by rfl) gm.range (pa_cons (cb (kLen K) gm.len (pa_cons (pv 1) pa_nil)) pa_nil)) (gn 6 sc_law_draws.nd) (pss_cons (sv 5 sc_law_draws.nd (pe_op opMod (ct cInt gm.int (pa_cons (pe_op (kAdd K) (pe_op (kAdd K) (pe_op opMul (pv 5) pe_int) (pe_op opMul pe_int (pv 6))) pe_int) pa_nil)) pe_int)) (pss_cons (sv 7 sc_law_draws.nd (pe_op opMod (ct cInt gm.int (pa_cons (pe_op (kAdd K) (pe_op (kAdd K) (pe_op opMul (pv 5) pe_int) (pe_op opMul pe_int (pv 6))) pe_int) pa_nil)) pe_int)) (pss_one (ps_expr (ml_append K (pv 2) (pa_cons (pe_op opMod (ct cInt gm.int (pa_cons (pe_op opDiv (pv 7) pe_int) pa_nil)) (ix K (pv 1) (pv 6))) pa_nil)))))))
    (pss_one (ps_ret (pv 2)))))))), fun ds R Z p => ?_⟩
  obtain ⟨c, sizes, rfl, hsz, hl, p⟩ := p
  refine ws_to (ρ' := [.im (.int c), .im (.lst (sizes.map .int)), .no, .no, .no, .no, .no, .no]) rfl ?_
  walk_at "go"
  walk_at "ow"
  walk_at "im"
  walk_at "if" <;> intro hb
  · have hb : (1000000000000000000 : Int) ≤ c := of_decide_eq_true hb
    rw [draws, if_pos hb] at p
    walk_at "im"
    refine wq_for (src_list (ev_var rfl)) (fun i ρ' => ∃ told rest s4, ρ' = [.im (.int c), .im (.lst (sizes.map .int)), .ow (told.map .int), .im (.int rest), s4, .no, .no, .no] ∧ told.length = i ∧ told ++ drawsBig rest (sizes.drop i) = drawsBig (c - 1000000000000000000) sizes) ⟨[], _, .no, rfl, rfl, rfl⟩ ?_ ?_
    · rintro i d ρ' hd ⟨told, rest, s4, rfl, hi, e⟩
      obtain ⟨x, hx, rfl⟩ := map_get hd
      have hb2 := hsz x (List.mem_of_getElem? hx)
      have hi2 := (List.getElem?_eq_some_iff.mp hx).1
      refine ⟨_, gd_name, ?_⟩
      dsimp only [setD, List.set]
      have hx0 : 0 < x := hb2.1
      have hdv : ∀ z, CDivW z x := fun z => cdiv_200 hb2.1 hb2.2
      refine wq_app rfl (d := .int (rest % x)) (by walk_at "ev") (by rw [List.length_map]; omega) ?_
      dsimp only [List.set]
      refine ws_asg (d := .int (rest / x)) (ev_op (ev_var rfl) (ev_var rfl) (rv_div (hdv _))) ?_
      refine ⟨told ++ [rest % x], rest / x, .im (.int x), ?_, by rw [List.length_append, hi]; rfl, ?_⟩
      · rw [List.map_append]; rfl
      · rw [← e, drop_get hx, drawsBig, List.append_assoc]; rfl
    · rintro ρ' ⟨told, rest, s4, rfl, hi, e⟩
      rw [List.length_map, List.drop_length, drawsBig, List.append_nil] at e
      refine ws_owcl (i := 2) rfl (scal_ints _) ?_
      refine ws_retVc rfl ?_
      rw [e]
      exact p
  · have hb : ¬ (1000000000000000000 : Int) ≤ c := of_decide_eq_false hb
    rw [draws, if_neg hb] at p
    walk_at "im"
    refine wq_for (src_rng1 (n := ((sizes.map D.int).length : Int)) (by walk_at "ev") (by rw [List.length_map]; omega)) (fun i ρ' => ∃ told seed s6 s7, ρ' = [.im (.int c), .im (.lst (sizes.map .int)), .ow (told.map .int), .im (.int c), .no, .im (.int seed), s6, s7] ∧ told.length = i ∧ told ++ drawsLow seed i (sizes.drop i) = drawsLow (c % 2147483647) 0 sizes) ⟨[], _, .no, .no, rfl, rfl, rfl⟩ ?_ ?_
    · rintro i d ρ' hd ⟨told, seed, s6, s7, rfl, hi, e⟩
      obtain ⟨hi2, rfl⟩ := rng_get hd
      have hi3 : i < sizes.length := by rw [List.length_map] at hi2; omega
      obtain ⟨x, hx⟩ := get_some hi3
      have hb2 := hsz x (List.mem_of_getElem? hx)
      have hx0 : 0 < x := hb2.1
      refine ⟨_, gd_name, ?_⟩
      dsimp only [setD, List.set]
      rw [Int.zero_add]
      have hxi : atI (sizes.map D.int) (i : Int) = some (.int x) := at_map hx
      walk_at "im"
      walk_at "im"
      refine ws_app rfl (d := .int ((((seed * 48271 + 11 * i + 7) % 2147483647) * 69621 + 3 * i + 1) % 2147483629 / 7 % x)) (by walk_at "ev") (by rw [List.length_map]; omega) ?_
      refine ⟨told ++ [(((seed * 48271 + 11 * i + 7) % 2147483647) * 69621 + 3 * i + 1) % 2147483629 / 7 % x], (seed * 48271 + 11 * i + 7) % 2147483647, .im (.int i), .im (.int ((((seed * 48271 + 11 * i + 7) % 2147483647) * 69621 + 3 * i + 1) % 2147483629)), ?_, by rw [List.length_append, hi]; rfl, ?_⟩
      · rw [List.map_append]; rfl
      · rw [← e, drop_get hx, drawsLow, List.append_assoc]
        rfl
    · rintro ρ' ⟨told, seed, s6, s7, rfl, hi, e⟩
      rw [rng_len, List.length_map, Int.toNat_natCast, List.drop_length, drawsLow, List.append_nil] at e
      refine ws_owcl (i := 2) rfl (scal_ints _) ?_
      refine ws_retVc rfl ?_
      rw [e]
      exact p
theorem pr_draws {c : Int} {sizes : List Int} (h : ∀ s ∈ sizes, 0 < s ∧ s < 2 ^ 200) (hl : sizes.length ≤ 1000) : P_draws [.int c, .lst (sizes.map .int)] (fun s => s = .cl (.lst ((draws c sizes).map .int))) (fun _ => False) := ⟨c, sizes, rfl, h, hl, rfl⟩
end

section
variable {P : Program} {w : World} {K : PySem.W.Frag} {mg : Str → Option Value} {base : Heap} {C_Fault C_BadNumber C_BadRow C_BadText : Addr}
/-! ### _law_gcd -/
def P_gcd (k : Nat) : PrD := fun ds R _ => ∃ a b : Int, ds = [.int a, .int b] ∧ 0 ≤ a ∧ 0 ≤ b ∧ b < 2 ^ k ∧ R (.im (.int (Nat.gcd a.natAbs b.natAbs : Nat)))
theorem pr_gcd {k : Nat} {a b : Int} (h0 : 0 ≤ a) (h1 : 0 ≤ b) (h2 : b < 2 ^ k) : P_gcd k [.int a, .int b] (fun s => s = .im (.int (Nat.gcd a.natAbs b.natAbs : Nat))) (fun _ => False) := ⟨a, b, rfl, h0, h1, h2, rfl⟩
theorem ok_gcd (F : Df K mg "_law_gcd" s_law_gcd ["first", "second"]) (gm : Gm K mg C_Fault C_BadNumber C_BadRow C_BadText) : FnG P w K mg base CX0 1 "_law_gcd" ["first", "second"] (spD K (P_gcd 8990)) := by
  refine F.ok (k := 0) sc_law_gcd (fun ds R Z ⟨a, b, e, _⟩ => by rw [e] <;> rfl) (fun f cdv A outer s H E hr => ?_)
  refine ⟨_,
    (pss_cons (ps_for PassesOwn.never rfl (pi_range1 (by rfl) gm.range (pa_cons pe_int pa_nil)) (gn 2 sc_law_gcd.nd) (pss_cons (ps_if (pt_cmpR (kEq K hr.units) (pv 1) pe_int (nomark _)) (pss_one (ps_ret (pv 0))) pss_nil) (pss_cons (sv 3 sc_law_gcd.nd (pe_op opMod (ct cInt gm.int (pa_cons (pv 0) pa_nil)) (pv 1))) (pss_cons (sv 0 sc_law_gcd.nd (pv 1)) (pss_one (sv 1 sc_law_gcd.nd (pv 3)))))))
    (pss_one (ps_ret (pv 0)))), fun ds R Z p => ?_⟩
  obtain ⟨a0, b0, rfl, h0, h1, h2, p⟩ := p
  obtain ⟨a, rfl⟩ : ∃ a : Nat, a0 = a := ⟨a0.toNat, by omega⟩
  obtain ⟨b, rfl⟩ : ∃ b : Nat, b0 = b := ⟨b0.toNat, by omega⟩
  rw [Int.natAbs_natCast, Int.natAbs_natCast] at p
  have hb : b < 2 ^ 8990 := by
    have : (b : Int) < ((2 ^ 8990 : Nat) : Int) := by
      rw [Int.natCast_pow]
      exact h2
    exact Int.ofNat_lt.mp this
  refine ws_to (ρ' := [.im (.int a), .im (.int b), .no, .no]) rfl ?_
  walk_at "go"
  refine wq_for (src_rng1 (n := 40000) (by walk_at "ev") (by decide)) (fun i ρ' => ∃ (x y : Nat) (s2 s3 : Sl), ρ' = [.im (.int x), .im (.int y), s2, s3] ∧ Eu a b x y i) ⟨a, b, .no, .no, rfl, Eu.start a b⟩ ?_ ?_
  · rintro i d ρ' hd ⟨x, y, s2, s3, rfl, eu⟩
    obtain ⟨_, rfl⟩ := rng_get hd
    refine ⟨_, gd_name, ?_⟩
    dsimp only [setD, List.set]
    walk_at "if" <;> intro hb
    · have hy : (y : Int) = 0 := of_decide_eq_true hb
      have hy : y = 0 := by omega
      refine ws_ret (ev_var rfl) ?_
      show R _
      rw [eu.stop hy]
      exact p
    · have hy : ¬ (y : Int) = 0 := of_decide_eq_false hb
      have hy0 : 0 < (y : Int) := by omega
      walk_at "im"
      walk_at "im"
      refine ws_asg (ev_var rfl) ?_
      exact ⟨y, x % y, _, _, by rw [Int.natCast_emod]; rfl, eu.turn (by omega)⟩
  · rintro ρ' ⟨x, y, s2, s3, rfl, eu⟩
    refine ws_ret (ev_var rfl) ?_
    show R _
    rw [eu.stop (eu.done hb (by rw [rng_len]; decide))]
    exact p
end
end FS
set_option Elab.async false
set_option linter.all false
set_option maxRecDepth 100000
set_option maxHeartbeats 4000000
set_option exponentiation.threshold 20000
namespace FS
open PySem PySem.Spec PyProof.Rows L2

local macro_rules | `(tactic| walk_at "side") => `(tactic| first | assumption | omega | decide)
local macro_rules | `(tactic| walk_at "hv") => `(tactic| (intro i hi; simp at hi; first | (subst hi; rfl) | (rcases hi with rfl | rfl <;> rfl) | (rcases hi with rfl | rfl | rfl <;> rfl)))
local macro_rules | `(tactic| walk_at "pr") => `(tactic| fail "no promise")
local macro_rules | `(tactic| walk_at "rv") => `(tactic| first
  | (with_reducible exact rv_add) | (with_reducible exact rv_sub) | (with_reducible exact rv_lt) | (with_reducible exact rv_le) | (with_reducible exact rv_gt) | (with_reducible exact rv_ge) | (with_reducible exact rv_eq) | (with_reducible exact rv_ne)
  | (with_reducible exact rv_is) | (with_reducible exact rv_isnot)
  | ((with_reducible apply rv_div); first | assumption | exact cdiv_small (by omega) (by omega))
  | ((with_reducible apply rv_mod); first | assumption | omega)
  | ((with_reducible apply rv_mul); first | assumption | exact cmul_left (by omega) | exact cmul_right (by omega))
  | ((with_reducible apply rv_mulW); assumption)
  | (with_reducible exact rv_p8) | (with_reducible exact rv_p18) | (with_reducible exact rv_p40) | (with_reducible exact rv_p20) | (with_reducible exact rv_p6) | (with_reducible exact rv_p7) | (with_reducible exact rv_p12) | (with_reducible exact rv_p25) | (with_reducible exact rv_p30) | (with_reducible exact rv_p39) | (with_reducible exact rv_p60)
  | ((with_reducible apply rv_ixxL); first | assumption | exact at_getD (by omega) (by omega) | exact at_nat rfl)
  | ((with_reducible apply rv_ixxT); first | assumption | exact at_getD (by omega) (by omega) | exact at_nat rfl)
  | ((with_reducible apply rv_ixxC); first | assumption)
  | (with_reducible exact ru_neg))
local macro_rules | `(tactic| walk_at "isi") => `(tactic| first | (with_reducible exact isi_non_int) | (with_reducible exact isi_non_bool) | (with_reducible exact isi_non_str) | (with_reducible exact isi_non_tuple) | (with_reducible exact isi_non_list) | (with_reducible exact isi_bl_int) | (with_reducible exact isi_bl_bool) | (with_reducible exact isi_bl_str) | (with_reducible exact isi_bl_tuple) | (with_reducible exact isi_bl_list) | (with_reducible exact isi_int_int) | (with_reducible exact isi_int_bool) | (with_reducible exact isi_int_str) | (with_reducible exact isi_int_tuple) | (with_reducible exact isi_int_list) | (with_reducible exact isi_str_int) | (with_reducible exact isi_str_bool) | (with_reducible exact isi_str_str) | (with_reducible exact isi_str_tuple) | (with_reducible exact isi_str_list) | (with_reducible exact isi_tup_int) | (with_reducible exact isi_tup_bool) | (with_reducible exact isi_tup_str) | (with_reducible exact isi_tup_tuple) | (with_reducible exact isi_tup_list) | (with_reducible exact isi_lst_int) | (with_reducible exact isi_lst_bool) | (with_reducible exact isi_lst_str) | (with_reducible exact isi_lst_tuple) | (with_reducible exact isi_lst_list))
local macro_rules | `(tactic| walk_at "rc") => `(tactic| first
  | walk_at "isi"
  | (with_reducible exact rc_len) | (with_reducible exact rc_lent) | (with_reducible exact rc_lenc) | (with_reducible exact rc_toint) | (with_reducible exact rc_absv) | (with_reducible exact rc_gcd)
  | ((with_reducible apply rc_lcm); assumption)
  | ((with_reducible apply rc_isi); (focus rfl); assumption)
  | (with_reducible exact rco_list) | (with_reducible exact rco_listT))
local macro_rules | `(tactic| walk_at "ev") => `(tactic| first
  | (with_reducible exact ev_int) | (with_reducible exact ev_bl) | (with_reducible exact ev_non) | (with_reducible exact ev_str) | (with_reducible exact ev_ty)
  | ((with_reducible apply ev_var); rfl)
  | ((with_reducible apply ev_lenOw); rfl)
  | ((with_reducible apply ev_op) <;> first | walk_at "ev" | walk_at "rv")
  | ((with_reducible apply ev_un) <;> first | walk_at "ev" | walk_at "rv")
  | ((with_reducible apply ev_cb) <;> first | walk_at "ev" | walk_at "rc")
  | ((with_reducible apply ev_call) <;> first | walk_at "ev" | walk_at "pr")
  | ((with_reducible apply ev_tup) <;> first | walk_at "ev" | (simp; done))
  | (with_reducible exact ea_nil)
  | ((with_reducible apply ea_cons) <;> walk_at "ev")
  | ((with_reducible apply et_test); walk_at "ev")
  | ((with_reducible apply et_B); walk_at "ev")
  | ((with_reducible apply et_not); walk_at "ev")
  | ((with_reducible apply et_or); (walk_at "ev"); intro _; walk_at "ev")
  | ((with_reducible apply et_and); (walk_at "ev"); intro _; walk_at "ev")
  | ((with_reducible apply ev_orV); (walk_at "ev"); intro _; walk_at "ev")
  | ((with_reducible apply ev_andV); (walk_at "ev"); intro _; walk_at "ev")
  | ((with_reducible apply ev_notV); walk_at "ev")
  | (with_reducible exact et_yes)
  | ((with_reducible apply evo_lst) <;> first | walk_at "ev" | (simp; done))
  | ((with_reducible apply ev_opO) <;> first | walk_at "ev" | ((with_reducible apply rvo_add); simp; omega))
  | ((with_reducible apply ev_cbO) <;> first | walk_at "ev" | walk_at "rc")
  | ((with_reducible apply ev_callO) <;> first | walk_at "ev" | walk_at "pr")
  | ((with_reducible apply ec_call) <;> first | walk_at "ev" | walk_at "pr")
  | ((with_reducible apply ec_tup) <;> first | walk_at "ev" | (simp; done))
  | ((with_reducible apply ec_lst) <;> first | walk_at "ev" | (simp; done))
  | (with_reducible exact eca_nil)
  | ((with_reducible apply eca_cons) <;> walk_at "ev")
  | ((with_reducible apply ec_sc); (walk_at "ev"); rfl)
  | ((with_reducible apply ec_ow); (walk_at "ev"); first | assumption | (intro d hd; simp at hd; done))
  | ((with_reducible apply ec_fz); walk_at "ev")
  | ((with_reducible apply ev_fz); walk_at "ev"))

local macro_rules | `(tactic| walk_at "im") => `(tactic| ((with_reducible apply wq_asg); walk_at "ev"; (try dsimp only [List.set, Int.reduceToNat])))
local macro_rules | `(tactic| walk_at "ow") => `(tactic| ((with_reducible apply wq_asgO); walk_at "ev"; (focus (first | decide | (simp; done))); (try dsimp only [List.set, Int.reduceToNat])))
local macro_rules | `(tactic| walk_at "cl") => `(tactic| ((with_reducible apply wq_asgC); walk_at "ev"; (focus (first | decide | (simp; done))); (try dsimp only [List.set, Int.reduceToNat])))
local macro_rules | `(tactic| walk_at "if") => `(tactic| ((first | (with_reducible apply wq_when) | (with_reducible apply wq_if) | (with_reducible apply ws_if)); walk_at "ev"; (try dsimp only [Int.reduceToNat])))
local macro_rules | `(tactic| walk_at "ret") => `(tactic| ((with_reducible apply ws_ret); walk_at "ev"))
local macro_rules | `(tactic| walk_at "go") => `(tactic| (try dsimp only [cxOf, L2.Cx.nox, L2.Cx.wish, L2.Cx.blk]))
local macro_rules | `(tactic| walk_at "ints") => `(tactic| (refine ev_fz (evo_lst ?_ (by decide)); repeat (first | exact ea_nil | refine ea_cons ev_int ?_)))

section
variable {P : Program} {w : World} {K : PySem.W.Frag} {mg : Str → Option Value} {base : Heap} {C_Fault C_BadNumber C_BadRow C_BadText : Addr}
/-! ### _law_ratio -/
def P_ratio (k : Nat) : PrD := fun ds R _ => ∃ n d : Int, ds = [.int n, .int d] ∧ 0 < d ∧ d < 2 ^ k ∧ R (.im (numD (mk n d)))
theorem pr_ratio {k : Nat} {n d : Int} (h0 : 0 < d) (h1 : d < 2 ^ k) : P_ratio k [.int n, .int d] (fun s => s = .im (numD (mk n d))) (fun _ => False) := ⟨n, d, rfl, h0, h1, rfl⟩
theorem ok_ratio (F : Df K mg "_law_ratio" s_law_ratio ["n", "d"]) (gm : Gm K mg C_Fault C_BadNumber C_BadRow C_BadText) (G_law_gcd : FnG P w K mg base CX0 1 "_law_gcd" ["first", "second"] (spD K (P_gcd 8990))) : FnG P w K mg base CX0 2 "_law_ratio" ["n", "d"] (spD K (P_ratio 8990)) := by
  refine F.ok (k := 1) sc_law_ratio (fun ds R Z ⟨a, b, e, _⟩ => by rw [e] <;> rfl) (fun f cdv A outer s H E hr => ?_)
  refine ⟨_,
    (pss_cons (sv 2 sc_law_ratio.nd (pe_g G_law_gcd hr.le pass0 (pa_cons (cb cAbs gm.abs (pa_cons (pv 0) pa_nil)) (pa_cons (pv 1) pa_nil))))
    (pss_one (ps_ret (pe_tup (pa_cons (pe_op opDiv (pv 0) (pv 2)) (pa_cons (pe_op opDiv (pv 1) (pv 2)) pa_nil)))))), fun ds R Z p => ?_⟩
  obtain ⟨n, d, rfl, h0, h1, p⟩ := p
  refine ws_to (ρ' := [.im (.int n), .im (.int d), .no]) rfl ?_
  walk_at "go"
  refine wq_asg (ev_call (by walk_at "ev") (pr_gcd (by omega) (by omega) h1)) ?_
  rw [Int.natAbs_natCast]
  have g0 : 0 < Nat.gcd n.natAbs d.natAbs := gcd_pos' h0
  have g1 : Nat.gcd n.natAbs d.natAbs ≤ d.natAbs := Nat.gcd_le_right _ (by omega)
  have g2 : d.natAbs < 2 ^ 8990 := by
    have : (d.natAbs : Int) < ((2 ^ 8990 : Nat) : Int) := by
      rw [Int.natCast_pow, Int.natAbs_of_nonneg (by omega)]
      exact h1
    exact Int.ofNat_lt.mp this
  have cd : ∀ z, CDivW z (Nat.gcd n.natAbs d.natAbs : Nat) := fun z => wide_div (b := 8990) (by omega) (by rw [Int.natAbs_natCast]; exact Nat.lt_of_le_of_lt g1 g2) (by decide) (by decide)
  dsimp only [List.set]
  have c1 := cd n
  have c2 := cd d
  apply ws_ret
  · walk_at "ev"
  · exact p
end

section
variable {P : Program} {w : World} {K : PySem.W.Frag} {mg : Str → Option Value} {base : Heap} {C_Fault C_BadNumber C_BadRow C_BadText : Addr}
/-! ### _law_long -/
def longN (dr : List Int) (j : Nat) : Nat → Int
  | 0 => 0
  | k + 1 => longN dr j k * 100000000 + dr.getD (j + k) 0
theorem longN_bd {dr : List Int} {j : Nat} : ∀ k : Nat, (∀ i < k, 0 ≤ dr.getD (j + i) 0 ∧ dr.getD (j + i) 0 < 100000000) → 0 ≤ longN dr j k ∧ longN dr j k < 100000000 ^ k
  | 0, _ => ⟨by simp [longN], by simp [longN]⟩
  | k + 1, h => by
    obtain ⟨a, b⟩ := longN_bd k fun i hi => h i (by omega)
    obtain ⟨c, d⟩ := h k (by omega)
    rw [longN, Int.pow_succ]
    omega
def P_long : PrD := fun ds R _ => ∃ (dr : List Int) (j : Int), ds = [.lst (dr.map .int), .int j] ∧ 0 ≤ j ∧ j.toNat + 5 ≤ dr.length ∧ R (.im (.int (longN dr j.toNat 5)))
theorem pr_long {dr : List Int} {j : Int} (h0 : 0 ≤ j) (h : j.toNat + 5 ≤ dr.length) : P_long [.lst (dr.map .int), .int j] (fun s => s = .im (.int (longN dr j.toNat 5))) (fun _ => False) := ⟨dr, j, rfl, h0, h, rfl⟩
theorem ok_long (F : Df K mg "_law_long" s_law_long ["drawn", "at"]) (gm : Gm K mg C_Fault C_BadNumber C_BadRow C_BadText) : FnG P w K mg base CX0 1 "_law_long" ["drawn", "at"] (spD K P_long) := by
  refine F.ok (k := 0) sc_law_long (fun ds R Z ⟨a, b, e, _⟩ => by rw [e] <;> rfl) (fun f cdv A outer s H E hr => ?_)
  refine ⟨_,
    (pss_cons (sv 2 sc_law_long.nd pe_int)
    (pss_cons (ps_for PassesOwn.never rfl (pi_range1 (by rfl) gm.range (pa_cons pe_int pa_nil)) (gn 3 sc_law_long.nd) (pss_one (sv 2 sc_law_long.nd (pe_op (kAdd K) (pe_op opMul (pv 2) (pe_op opPow pe_int pe_int)) (ix K (pv 0) (pe_op (kAdd K) (pv 1) (pv 3)))))))
    (pss_one (ps_ret (pv 2))))), fun ds R Z p => ?_⟩
  obtain ⟨dr, j, rfl, h0, h1, p⟩ := p
  refine ws_to (ρ' := [.im (.lst (dr.map .int)), .im (.int j), .no, .no]) rfl ?_
  walk_at "go"
  walk_at "im"
  refine wq_for (src_rng1 (n := 5) (by walk_at "ev") (by decide)) (fun i ρ' => ∃ s3, ρ' = [.im (.lst (dr.map .int)), .im (.int j), .im (.int (longN dr j.toNat i)), s3]) ⟨.no, rfl⟩ ?_ ?_
  · rintro i d ρ' hd ⟨s3, rfl⟩
    obtain ⟨hi, rfl⟩ := rng_get hd
    refine ⟨_, gd_name, ?_⟩
    dsimp only [setD, List.set]
    have hi5 : i < 5 := hi
    have e : j + (0 + (i : Int)) = ((j.toNat + i : Nat) : Int) := by omega
    have ha : atI (dr.map D.int) (j + (0 + (i : Int))) = some (.int (dr.getD (j.toNat + i) 0)) := by
      rw [e]
      exact at_ints (by omega)
    refine ws_asg (d := .int (longN dr j.toNat i * 100000000 + dr.getD (j.toNat + i) 0)) (by walk_at "ev") ⟨_, rfl⟩
  · rintro ρ' ⟨s3, rfl⟩
    refine ws_ret (ev_var rfl) ?_
    rw [rng_len]
    exact p
end
end FS
set_option Elab.async false
set_option linter.all false
set_option maxRecDepth 100000
set_option maxHeartbeats 4000000
set_option exponentiation.threshold 20000
namespace FS
open PySem PySem.Spec PyProof.Rows L2

local macro_rules | `(tactic| walk_at "side") => `(tactic| first | assumption | omega | decide)
local macro_rules | `(tactic| walk_at "hv") => `(tactic| (intro i hi; simp at hi; first | (subst hi; rfl) | (rcases hi with rfl | rfl <;> rfl) | (rcases hi with rfl | rfl | rfl <;> rfl)))
local macro_rules | `(tactic| walk_at "pr") => `(tactic| fail "no promise")
local macro_rules | `(tactic| walk_at "rv") => `(tactic| first
  | (with_reducible exact rv_add) | (with_reducible exact rv_sub) | (with_reducible exact rv_lt) | (with_reducible exact rv_le) | (with_reducible exact rv_gt) | (with_reducible exact rv_ge) | (with_reducible exact rv_eq) | (with_reducible exact rv_ne)
  | (with_reducible exact rv_is) | (with_reducible exact rv_isnot)
  | ((with_reducible apply rv_div); first | assumption | exact cdiv_small (by omega) (by omega))
  | ((with_reducible apply rv_mod); first | assumption | omega)
  | ((with_reducible apply rv_mul); first | assumption | exact cmul_left (by omega) | exact cmul_right (by omega))
  | ((with_reducible apply rv_mulW); assumption)
  | (with_reducible exact rv_p8) | (with_reducible exact rv_p18) | (with_reducible exact rv_p40) | (with_reducible exact rv_p20) | (with_reducible exact rv_p6) | (with_reducible exact rv_p7) | (with_reducible exact rv_p12) | (with_reducible exact rv_p25) | (with_reducible exact rv_p30) | (with_reducible exact rv_p39) | (with_reducible exact rv_p60)
  | ((with_reducible apply rv_ixxL); first | assumption | exact at_getD (by omega) (by omega) | exact at_nat rfl)
  | ((with_reducible apply rv_ixxT); first | assumption | exact at_getD (by omega) (by omega) | exact at_nat rfl)
  | ((with_reducible apply rv_ixxC); first | assumption)
  | (with_reducible exact ru_neg))
local macro_rules | `(tactic| walk_at "isi") => `(tactic| first | (with_reducible exact isi_non_int) | (with_reducible exact isi_non_bool) | (with_reducible exact isi_non_str) | (with_reducible exact isi_non_tuple) | (with_reducible exact isi_non_list) | (with_reducible exact isi_bl_int) | (with_reducible exact isi_bl_bool) | (with_reducible exact isi_bl_str) | (with_reducible exact isi_bl_tuple) | (with_reducible exact isi_bl_list) | (with_reducible exact isi_int_int) | (with_reducible exact isi_int_bool) | (with_reducible exact isi_int_str) | (with_reducible exact isi_int_tuple) | (with_reducible exact isi_int_list) | (with_reducible exact isi_str_int) | (with_reducible exact isi_str_bool) | (with_reducible exact isi_str_str) | (with_reducible exact isi_str_tuple) | (with_reducible exact isi_str_list) | (with_reducible exact isi_tup_int) | (with_reducible exact isi_tup_bool) | (with_reducible exact isi_tup_str) | (with_reducible exact isi_tup_tuple) | (with_reducible exact isi_tup_list) | (with_reducible exact isi_lst_int) | (with_reducible exact isi_lst_bool) | (with_reducible exact isi_lst_str) | (with_reducible exact isi_lst_tuple) | (with_reducible exact isi_lst_list))
local macro_rules | `(tactic| walk_at "rc") => `(tactic| first
  | walk_at "isi"
  | (with_reducible exact rc_len) | (with_reducible exact rc_lent) | (with_reducible exact rc_lenc) | (with_reducible exact rc_toint) | (with_reducible exact rc_absv) | (with_reducible exact rc_gcd)
  | ((with_reducible apply rc_lcm); assumption)
  | ((with_reducible apply rc_isi); (focus rfl); assumption)
  | (with_reducible exact rco_list) | (with_reducible exact rco_listT))
local macro_rules | `(tactic| walk_at "ev") => `(tactic| first
  | (with_reducible exact ev_int) | (with_reducible exact ev_bl) | (with_reducible exact ev_non) | (with_reducible exact ev_str) | (with_reducible exact ev_ty)
  | ((with_reducible apply ev_var); rfl)
  | ((with_reducible apply ev_lenOw); rfl)
  | ((with_reducible apply ev_op) <;> first | walk_at "ev" | walk_at "rv")
  | ((with_reducible apply ev_un) <;> first | walk_at "ev" | walk_at "rv")
  | ((with_reducible apply ev_cb) <;> first | walk_at "ev" | walk_at "rc")
  | ((with_reducible apply ev_call) <;> first | walk_at "ev" | walk_at "pr")
  | ((with_reducible apply ev_tup) <;> first | walk_at "ev" | (simp; done))
  | (with_reducible exact ea_nil)
  | ((with_reducible apply ea_cons) <;> walk_at "ev")
  | ((with_reducible apply et_test); walk_at "ev")
  | ((with_reducible apply et_B); walk_at "ev")
  | ((with_reducible apply et_not); walk_at "ev")
  | ((with_reducible apply et_or); (walk_at "ev"); intro _; walk_at "ev")
  | ((with_reducible apply et_and); (walk_at "ev"); intro _; walk_at "ev")
  | ((with_reducible apply ev_orV); (walk_at "ev"); intro _; walk_at "ev")
  | ((with_reducible apply ev_andV); (walk_at "ev"); intro _; walk_at "ev")
  | ((with_reducible apply ev_notV); walk_at "ev")
  | (with_reducible exact et_yes)
  | ((with_reducible apply evo_lst) <;> first | walk_at "ev" | (simp; done))
  | ((with_reducible apply ev_opO) <;> first | walk_at "ev" | ((with_reducible apply rvo_add); simp; omega))
  | ((with_reducible apply ev_cbO) <;> first | walk_at "ev" | walk_at "rc")
  | ((with_reducible apply ev_callO) <;> first | walk_at "ev" | walk_at "pr")
  | ((with_reducible apply ec_call) <;> first | walk_at "ev" | walk_at "pr")
  | ((with_reducible apply ec_tup) <;> first | walk_at "ev" | (simp; done))
  | ((with_reducible apply ec_lst) <;> first | walk_at "ev" | (simp; done))
  | (with_reducible exact eca_nil)
  | ((with_reducible apply eca_cons) <;> walk_at "ev")
  | ((with_reducible apply ec_sc); (walk_at "ev"); rfl)
  | ((with_reducible apply ec_ow); (walk_at "ev"); first | assumption | (intro d hd; simp at hd; done))
  | ((with_reducible apply ec_fz); walk_at "ev")
  | ((with_reducible apply ev_fz); walk_at "ev"))

local macro_rules | `(tactic| walk_at "im") => `(tactic| ((with_reducible apply wq_asg); walk_at "ev"; (try dsimp only [List.set, Int.reduceToNat])))
local macro_rules | `(tactic| walk_at "ow") => `(tactic| ((with_reducible apply wq_asgO); walk_at "ev"; (focus (first | decide | (simp; done))); (try dsimp only [List.set, Int.reduceToNat])))
local macro_rules | `(tactic| walk_at "cl") => `(tactic| ((with_reducible apply wq_asgC); walk_at "ev"; (focus (first | decide | (simp; done))); (try dsimp only [List.set, Int.reduceToNat])))
local macro_rules | `(tactic| walk_at "if") => `(tactic| ((first | (with_reducible apply wq_when) | (with_reducible apply wq_if) | (with_reducible apply ws_if)); walk_at "ev"; (try dsimp only [Int.reduceToNat])))
local macro_rules | `(tactic| walk_at "ret") => `(tactic| ((with_reducible apply ws_ret); walk_at "ev"))
local macro_rules | `(tactic| walk_at "go") => `(tactic| (try dsimp only [cxOf, L2.Cx.nox, L2.Cx.wish, L2.Cx.blk]))
local macro_rules | `(tactic| walk_at "ints") => `(tactic| (refine ev_fz (evo_lst ?_ (by decide)); repeat (first | exact ea_nil | refine ea_cons ev_int ?_)))

/-! ### drawn numbers -/
def szI : List Int := [5, 2, 100000000, 100000000, 100000000, 100000000, 100000000, 9]
def szN : List Int := [4, 2, 100000000, 100000000, 100000000, 100000000, 100000000, 100000000, 100000000, 100000000, 100000000, 100000000, 9, 9]
def intN (c : Int) : Int :=
  let dr := draws c szI
  let n1 := if dr.getD 0 0 = 0 then 0 else longN dr 2 5
  let n2 := if dr.getD 0 0 = 1 ∨ dr.getD 0 0 = 2 then dr.getD 7 0 + 1 else n1
  if dr.getD 1 0 = 1 then -n2 else n2
def numN (c : Int) : Int :=
  let dr := draws c szN
  let n1 := if dr.getD 0 0 = 0 ∨ dr.getD 0 0 = 1 then dr.getD 12 0 + 1 else longN dr 2 5
  if dr.getD 1 0 = 1 then -n1 else n1
def denN (c : Int) : Int :=
  let dr := draws c szN
  if dr.getD 0 0 = 0 ∨ dr.getD 0 0 = 2 then dr.getD 13 0 + 1 else longN dr 7 5 + 1
theorem long_bd (c : Int) (sz : List Int) (j : Nat) (hs : ∀ s ∈ sz, 0 < s) (hj : ∀ i < 5, j + i < sz.length ∧ sz.getD (j + i) 0 = 100000000) : 0 ≤ longN (draws c sz) j 5 ∧ longN (draws c sz) j 5 < 100000000 ^ 5 :=
  longN_bd 5 fun i hi => by
    have := draws_bd c sz (j + i) hs (hj i hi).1
    rw [(hj i hi).2] at this
    exact this
theorem pow40 : (100000000 : Int) ^ 5 = 10000000000000000000000000000000000000000 := by decide
theorem small {x : Int} (h : -10000000000000000000000000000000000000000 ≤ x ∧ x ≤ 10000000000000000000000000000000000000000) : x.natAbs < 2 ^ 133 := by
  have : x.natAbs ≤ 10000000000000000000000000000000000000000 := by omega
  exact Nat.lt_of_le_of_lt this (by decide)
theorem intN_ok (c : Int) : (intN c).natAbs < 2 ^ 133 := by
  have hl := long_bd c szI 2 (by decide) (by decide)
  have h7 := draws_bd c szI 7 (by decide) (by decide)
  rw [show szI.getD 7 0 = 9 from rfl] at h7
  rw [pow40] at hl
  refine small ?_
  unfold intN
  dsimp only
  split <;> split <;> (try split) <;> omega
theorem numN_ok (c : Int) : (numN c).natAbs < 2 ^ 133 := by
  have hl := long_bd c szN 2 (by decide) (by decide)
  have h7 := draws_bd c szN 12 (by decide) (by decide)
  rw [show szN.getD 12 0 = 9 from rfl] at h7
  rw [pow40] at hl
  refine small ?_
  unfold numN
  dsimp only
  split <;> split <;> omega
theorem denN_ok (c : Int) : 0 < denN c ∧ (denN c).natAbs < 2 ^ 133 := by
  have hl := long_bd c szN 7 (by decide) (by decide)
  have h7 := draws_bd c szN 13 (by decide) (by decide)
  rw [show szN.getD 13 0 = 9 from rfl] at h7
  rw [pow40] at hl
  have : 0 < denN c ∧ denN c ≤ 10000000000000000000000000000000000000000 := by
    unfold denN
    dsimp only
    split <;> omega
  exact ⟨this.1, small (by omega)⟩
def numC (c : Int) : Num := mk (numN c) (denN c)
theorem mk_ok {n d : Int} {k : Nat} (h : 0 < d) (hn : n.natAbs < 2 ^ k) (hd : d.natAbs < 2 ^ k) : NumOk k (mk n d) := by
  have g := mk_good (n := n) h hn (natAbs_lt h hd)
  exact ⟨g.pos, g.up, lt_natAbs (by have := g.pos; omega) g.dn⟩
theorem numC_ok (c : Int) : NumOk 133 (numC c) := mk_ok (denN_ok c).1 (numN_ok c) (denN_ok c).2
section
variable {P : Program} {w : World} {K : PySem.W.Frag} {mg : Str → Option Value} {base : Heap} {C_Fault C_BadNumber C_BadRow C_BadText : Addr}
def P_int : PrD := fun ds R _ => ∃ c, ds = [.int c] ∧ R (.im (.int (intN c)))
theorem ok_int (F : Df K mg "_law_integer" s_law_integer ["cell"]) (gm : Gm K mg C_Fault C_BadNumber C_BadRow C_BadText) (G_law_draws : FnG P w K mg base CX0 1 "_law_draws" ["cell", "sizes"] (spD K P_draws)) (G_law_long : FnG P w K mg base CX0 1 "_law_long" ["drawn", "at"] (spD K P_long)) : FnG P w K mg base CX0 2 "_law_integer" ["cell"] (spD K P_int) := by
  refine F.ok (k := 1) sc_law_integer (fun ds R Z ⟨c, e, _⟩ => by rw [e] <;> rfl) (fun f cdv A outer s H E hr => ?_)
  refine ⟨_,
    (pss_cons (sv 1 sc_law_integer.nd (pe_g G_law_draws hr.le pass0 (pa_cons (pv 0) (pa_cons (pe_lst (pa_cons pe_int (pa_cons pe_int (pa_cons (pe_op opPow pe_int pe_int) (pa_cons (pe_op opPow pe_int pe_int) (pa_cons (pe_op opPow pe_int pe_int) (pa_cons (pe_op opPow pe_int pe_int) (pa_cons (pe_op opPow pe_int pe_int) (pa_cons pe_int pa_nil))))))))) pa_nil))))
    (pss_cons (sv 2 sc_law_integer.nd (pe_g G_law_long hr.le pass0 (pa_cons (pv 1) (pa_cons pe_int pa_nil))))
    (pss_cons (ps_if (pt_cmpR (kEq K hr.units) (ix K (pv 1) pe_int) pe_int (nomark _)) (pss_one (sv 2 sc_law_integer.nd pe_int)) pss_nil)
    (pss_cons (ps_if (PW.pt (pw_or (pt_cmpR (kEq K hr.units) (ix K (pv 1) pe_int) pe_int (nomark _)) (pw_or1 (pt_cmpR (kEq K hr.units) (ix K (pv 1) pe_int) pe_int (nomark _))))) (pss_one (sv 2 sc_law_integer.nd (pe_op (kAdd K) (ix K (pv 1) pe_int) pe_int))) pss_nil)
    (pss_cons (ps_if (pt_cmpR (kEq K hr.units) (ix K (pv 1) pe_int) pe_int (nomark _)) (pss_one (sv 2 sc_law_integer.nd (pe_un unNeg (pv 2)))) pss_nil)
    (pss_one (ps_ret (pv 2)))))))), fun ds R Z p => ?_⟩
  obtain ⟨c, rfl, p⟩ := p
  refine ws_to (ρ' := [.im (.int c), .no, .no]) rfl ?_
  walk_at "go"
  refine wq_asg (d := intsD (draws c szI)) (ec_fz (ec_call (ea_cons (ev_var rfl) (ea_cons ((ev_fz (evo_lst (ea_cons ev_int (ea_cons ev_int (ea_cons (ev_op ev_int ev_int rv_p8) (ea_cons (ev_op ev_int ev_int rv_p8) (ea_cons (ev_op ev_int ev_int rv_p8) (ea_cons (ev_op ev_int ev_int rv_p8) (ea_cons (ev_op ev_int ev_int rv_p8) (ea_cons ev_int ea_nil)))))))) (by decide))).is (y := .lst (szI.map .int)) rfl) ea_nil)) (pr_draws (sizes := szI) (by decide) (by decide)))) ?_
  dsimp only [List.set]
  have hdl : (draws c szI).length = 8 := draws_len _ _
  have hat : ∀ i : Nat, i < 8 → atI ((draws c szI).map D.int) (i : Int) = some (.int ((draws c szI).getD i 0)) := fun i hi => at_ints (by omega)
  unfold intN at p
  dsimp only at p
  refine wq_asg (d := .int (longN (draws c szI) 2 5)) (ev_call (ea_cons (ev_var rfl) (ea_cons ev_int ea_nil)) (pr_long (j := 2) (by decide) (by show 2 + 5 ≤ _; omega))) ?_
  dsimp only [List.set]
  generalize draws c szI = dr at *
  refine ws_mid (fun ρ' => ρ' = [.im (.int c), .im (intsD dr), .im (.int (if dr.getD 0 0 = 0 then 0 else longN dr 2 5))]) ?_ ?_
  · refine ws_if (et_test (ev_op (ev_op (ev_var rfl) ev_int (rv_ixxL (hat 0 (by decide)))) ev_int rv_eq)) (fun hb => ?_) (fun hb => ?_)
    · have hb : dr.getD 0 0 = 0 := of_decide_eq_true hb
      rw [if_pos hb]
      exact ws_asg ev_int rfl
    · have hb : ¬ dr.getD 0 0 = 0 := of_decide_eq_false hb
      rw [if_neg hb]
      exact ws_next rfl
  rintro ρ' rfl
  generalize (if dr.getD 0 0 = 0 then 0 else longN dr 2 5) = n1 at p
  refine ws_mid (fun ρ' => ρ' = [.im (.int c), .im (intsD dr), .im (.int (if dr.getD 0 0 = 1 ∨ dr.getD 0 0 = 2 then dr.getD 7 0 + 1 else n1))]) ?_ ?_
  · refine ws_if (et_or (et_test (ev_op (ev_op (ev_var rfl) ev_int (rv_ixxL (hat 0 (by decide)))) ev_int rv_eq)) fun _ => et_test (ev_op (ev_op (ev_var rfl) ev_int (rv_ixxL (hat 0 (by decide)))) ev_int rv_eq)) (fun hb => ?_) (fun hb => ?_)
    · have hb : dr.getD 0 0 = 1 ∨ dr.getD 0 0 = 2 := by simpa using hb
      rw [if_pos hb]
      exact ws_asg (ev_op (ev_op (ev_var rfl) ev_int (rv_ixxL (hat 7 (by decide)))) ev_int rv_add) rfl
    · have hb : ¬ (dr.getD 0 0 = 1 ∨ dr.getD 0 0 = 2) := by simpa using hb
      rw [if_neg hb]
      exact ws_next rfl
  rintro ρ' rfl
  generalize (if dr.getD 0 0 = 1 ∨ dr.getD 0 0 = 2 then dr.getD 7 0 + 1 else n1) = n2 at p
  refine wq_if (et_test (ev_op (ev_op (ev_var rfl) ev_int (rv_ixxL (hat 1 (by decide)))) ev_int rv_eq)) (fun hb => ?_) (fun hb => ?_)
  · have hb : dr.getD 1 0 = 1 := of_decide_eq_true hb
    rw [if_pos hb] at p
    refine ws_asg (ev_un (ev_var rfl) ru_neg) ?_
    exact ws_ret (ev_var rfl) p
  · have hb : ¬ dr.getD 1 0 = 1 := of_decide_eq_false hb
    rw [if_neg hb] at p
    exact ws_next (ws_ret (ev_var rfl) p)
def P_num : PrD := fun ds R _ => ∃ c, ds = [.int c] ∧ R (.im (numD (numC c)))
theorem pr_num {c : Int} : P_num [.int c] (fun s => s = .im (numD (numC c))) (fun _ => False) := ⟨c, rfl, rfl⟩
theorem ok_num (F : Df K mg "_law_number" s_law_number ["cell"]) (gm : Gm K mg C_Fault C_BadNumber C_BadRow C_BadText) (G_law_draws : FnG P w K mg base CX0 1 "_law_draws" ["cell", "sizes"] (spD K P_draws)) (G_law_long : FnG P w K mg base CX0 1 "_law_long" ["drawn", "at"] (spD K P_long)) (G_law_ratio : FnG P w K mg base CX0 2 "_law_ratio" ["n", "d"] (spD K (P_ratio 8990))) : FnG P w K mg base CX0 3 "_law_number" ["cell"] (spD K P_num) := by
  refine F.ok (k := 2) sc_law_number (fun ds R Z ⟨c, e, _⟩ => by rw [e] <;> rfl) (fun f cdv A outer s H E hr => ?_)
  refine ⟨_,
    (pss_cons (sv 1 sc_law_number.nd (pe_g G_law_draws hr.le pass0 (pa_cons (pv 0) (pa_cons (pe_op (kAdd K) (pe_op (kAdd K) (pe_lst (pa_cons pe_int (pa_cons pe_int pa_nil))) (pe_lc (own := [("k", 2)]) rfl sc_law_number.nd (pi_range1 (by rfl) gm.range (pa_cons pe_int pa_nil)) (blkOk_by (N := N_law_number) (sc := defScope s_law_number) (by decide +kernel)) (fun _ _ _ _ _ => (gn 2 sc_law_number.nd)) (fun _ _ _ _ _ => pts_nil) (fun _ _ _ _ _ => (pe_op opPow pe_int pe_int)))) (pe_lst (pa_cons pe_int (pa_cons pe_int pa_nil)))) pa_nil))))
    (pss_cons (sv 3 sc_law_number.nd (pe_g G_law_long hr.le pass0 (pa_cons (pv 1) (pa_cons pe_int pa_nil))))
    (pss_cons (sv 4 sc_law_number.nd (pe_op (kAdd K) (pe_g G_law_long hr.le pass0 (pa_cons (pv 1) (pa_cons pe_int pa_nil))) pe_int))
    (pss_cons (ps_if (PW.pt (pw_or (pt_cmpR (kEq K hr.units) (ix K (pv 1) pe_int) pe_int (nomark _)) (pw_or1 (pt_cmpR (kEq K hr.units) (ix K (pv 1) pe_int) pe_int (nomark _))))) (pss_one (sv 3 sc_law_number.nd (pe_op (kAdd K) (ix K (pv 1) pe_int) pe_int))) pss_nil)
    (pss_cons (ps_if (PW.pt (pw_or (pt_cmpR (kEq K hr.units) (ix K (pv 1) pe_int) pe_int (nomark _)) (pw_or1 (pt_cmpR (kEq K hr.units) (ix K (pv 1) pe_int) pe_int (nomark _))))) (pss_one (sv 4 sc_law_number.nd (pe_op (kAdd K) (ix K (pv 1) pe_int) pe_int))) pss_nil)
    (pss_cons (ps_if (pt_cmpR (kEq K hr.units) (ix K (pv 1) pe_int) pe_int (nomark _)) (pss_one (sv 3 sc_law_number.nd (pe_un unNeg (pv 3)))) pss_nil)
    (pss_one (ps_ret (pe_g G_law_ratio hr.le pass0 (pa_cons (pv 3) (pa_cons (pv 4) pa_nil))))))))))), fun ds R Z p => ?_⟩
  obtain ⟨c, rfl, p⟩ := p
  refine ws_to (ρ' := [.im (.int c), .no, .no, .no, .no]) rfl ?_
  walk_at "go"
  have hden := denN_ok c
  refine wq_asg (d := intsD (draws c szN)) (ec_fz (ec_call (ea_cons (ev_var rfl) (ea_cons ((ev_fz (ev_opO (ev_fz (ev_opO (ev_fz (evo_lst (ea_cons ev_int (ea_cons ev_int ea_nil)) (by decide))) (ev_fz (lc_N (n := 10) (fun _ => D.int 100000000) (ea_cons (ev_int.is rfl) ea_nil) rfl (fun k hk => by walk_at "ev") (by decide))) (rvo_add (by decide)))) (ev_fz (evo_lst (ea_cons ev_int (ea_cons ev_int ea_nil)) (by decide))) (rvo_add (by decide)))).is (y := .lst (szN.map .int)) rfl) ea_nil)) (pr_draws (sizes := szN) (by decide) (by decide)))) ?_
  dsimp only [List.set]
  have hdl : (draws c szN).length = 14 := draws_len _ _
  have hat : ∀ i : Nat, i < 14 → atI ((draws c szN).map D.int) (i : Int) = some (.int ((draws c szN).getD i 0)) := fun i hi => at_ints (by omega)
  unfold numC numN at p
  unfold denN at p hden
  dsimp only at p hden
  refine wq_asg (d := .int (longN (draws c szN) 2 5)) (ev_call (ea_cons (ev_var rfl) (ea_cons ev_int ea_nil)) (pr_long (j := 2) (by decide) (by show 2 + 5 ≤ _; omega))) ?_
  dsimp only [List.set]
  refine wq_asg (d := .int (longN (draws c szN) 7 5 + 1)) (ev_op (ev_call (ea_cons (ev_var rfl) (ea_cons ev_int ea_nil)) (pr_long (j := 7) (by decide) (by show 7 + 5 ≤ _; omega))) ev_int rv_add) ?_
  dsimp only [List.set]
  generalize draws c szN = dr at *
  have q0 : ∀ ρ : Rho, ρ[1]? = some (.im (intsD dr)) → ∀ v : Int, EvT K (tTest (tOp (rEqA K) (tOp (rIx K) (tVar 1) (tC (.int 0))) (tC (.int v)))) ρ (decide (dr.getD 0 0 = v)) := fun ρ e v => et_test (ev_op (ev_op (ev_var e) ev_int (rv_ixxL (hat 0 (by decide)))) ev_int rv_eq)
  refine ws_mid (fun ρ' => ρ' = [.im (.int c), .im (intsD dr), .no, .im (.int (if dr.getD 0 0 = 0 ∨ dr.getD 0 0 = 1 then dr.getD 12 0 + 1 else longN dr 2 5)), .im (.int (longN dr 7 5 + 1))]) ?_ ?_
  · refine ws_if (et_or (q0 _ rfl 0) fun _ => q0 _ rfl 1) (fun hb => ?_) (fun hb => ?_)
    · have hb : dr.getD 0 0 = 0 ∨ dr.getD 0 0 = 1 := by simpa using hb
      rw [if_pos hb]
      exact ws_asg (ev_op (ev_op (ev_var rfl) ev_int (rv_ixxL (hat 12 (by decide)))) ev_int rv_add) rfl
    · have hb : ¬ (dr.getD 0 0 = 0 ∨ dr.getD 0 0 = 1) := by simpa using hb
      rw [if_neg hb]
      exact ws_next rfl
  rintro ρ' rfl
  generalize (if dr.getD 0 0 = 0 ∨ dr.getD 0 0 = 1 then dr.getD 12 0 + 1 else longN dr 2 5) = n1 at p
  refine ws_mid (fun ρ' => ρ' = [.im (.int c), .im (intsD dr), .no, .im (.int n1), .im (.int (if dr.getD 0 0 = 0 ∨ dr.getD 0 0 = 2 then dr.getD 13 0 + 1 else longN dr 7 5 + 1))]) ?_ ?_
  · refine ws_if (et_or (q0 _ rfl 0) fun _ => q0 _ rfl 2) (fun hb => ?_) (fun hb => ?_)
    · have hb : dr.getD 0 0 = 0 ∨ dr.getD 0 0 = 2 := by simpa using hb
      rw [if_pos hb]
      exact ws_asg (ev_op (ev_op (ev_var rfl) ev_int (rv_ixxL (hat 13 (by decide)))) ev_int rv_add) rfl
    · have hb : ¬ (dr.getD 0 0 = 0 ∨ dr.getD 0 0 = 2) := by simpa using hb
      rw [if_neg hb]
      exact ws_next rfl
  rintro ρ' rfl
  generalize (if dr.getD 0 0 = 0 ∨ dr.getD 0 0 = 2 then dr.getD 13 0 + 1 else longN dr 7 5 + 1) = d1 at p hden
  have fin : ∀ n2 : Int, EvA K (tCons (tVar 3) (tCons (tVar 4) tNil)) [.im (.int c), .im (intsD dr), .no, .im (.int n2), .im (.int d1)] [.int n2, .int d1] := fun n2 => ea_cons (ev_var rfl) (ea_cons (ev_var rfl) ea_nil)
  have hd2 : d1 < 2 ^ 8990 := natAbs_lt hden.1 (Nat.lt_of_lt_of_le hden.2 (Nat.pow_le_pow_right (by decide) (by decide)))
  refine wq_if (et_test (ev_op (ev_op (ev_var rfl) ev_int (rv_ixxL (hat 1 (by decide)))) ev_int rv_eq)) (fun hb => ?_) (fun hb => ?_)
  · have hb : dr.getD 1 0 = 1 := of_decide_eq_true hb
    rw [if_pos hb] at p
    refine ws_asg (ev_un (ev_var rfl) ru_neg) ?_
    exact ws_ret (ev_call (fin _) (pr_ratio hden.1 hd2)) p
  · have hb : ¬ dr.getD 1 0 = 1 := of_decide_eq_false hb
    rw [if_neg hb] at p
    exact ws_next (ws_ret (ev_call (fin _) (pr_ratio hden.1 hd2)) p)
end
end FS
set_option Elab.async false
set_option linter.all false
set_option maxRecDepth 100000
set_option maxHeartbeats 4000000
set_option exponentiation.threshold 20000
namespace FS
open PySem PySem.Spec PyProof.Rows L2

local macro_rules | `(tactic| walk_at "side") => `(tactic| first | assumption | omega | decide)
local macro_rules | `(tactic| walk_at "hv") => `(tactic| (intro i hi; simp at hi; first | (subst hi; rfl) | (rcases hi with rfl | rfl <;> rfl) | (rcases hi with rfl | rfl | rfl <;> rfl)))
local macro_rules | `(tactic| walk_at "pr") => `(tactic| fail "no promise")
local macro_rules | `(tactic| walk_at "rv") => `(tactic| first
  | (with_reducible exact rv_add) | (with_reducible exact rv_sub) | (with_reducible exact rv_lt) | (with_reducible exact rv_le) | (with_reducible exact rv_gt) | (with_reducible exact rv_ge) | (with_reducible exact rv_eq) | (with_reducible exact rv_ne)
  | (with_reducible exact rv_is) | (with_reducible exact rv_isnot)
  | ((with_reducible apply rv_div); first | assumption | exact cdiv_small (by omega) (by omega))
  | ((with_reducible apply rv_mod); first | assumption | omega)
  | ((with_reducible apply rv_mul); first | assumption | exact cmul_left (by omega) | exact cmul_right (by omega))
  | ((with_reducible apply rv_mulW); assumption)
  | (with_reducible exact rv_p8) | (with_reducible exact rv_p18) | (with_reducible exact rv_p40) | (with_reducible exact rv_p20) | (with_reducible exact rv_p6) | (with_reducible exact rv_p7) | (with_reducible exact rv_p12) | (with_reducible exact rv_p25) | (with_reducible exact rv_p30) | (with_reducible exact rv_p39) | (with_reducible exact rv_p60)
  | ((with_reducible apply rv_ixxL); first | assumption | exact at_getD (by omega) (by omega) | exact at_nat rfl)
  | ((with_reducible apply rv_ixxT); first | assumption | exact at_getD (by omega) (by omega) | exact at_nat rfl)
  | ((with_reducible apply rv_ixxC); first | assumption)
  | (with_reducible exact ru_neg))
local macro_rules | `(tactic| walk_at "isi") => `(tactic| first | (with_reducible exact isi_non_int) | (with_reducible exact isi_non_bool) | (with_reducible exact isi_non_str) | (with_reducible exact isi_non_tuple) | (with_reducible exact isi_non_list) | (with_reducible exact isi_bl_int) | (with_reducible exact isi_bl_bool) | (with_reducible exact isi_bl_str) | (with_reducible exact isi_bl_tuple) | (with_reducible exact isi_bl_list) | (with_reducible exact isi_int_int) | (with_reducible exact isi_int_bool) | (with_reducible exact isi_int_str) | (with_reducible exact isi_int_tuple) | (with_reducible exact isi_int_list) | (with_reducible exact isi_str_int) | (with_reducible exact isi_str_bool) | (with_reducible exact isi_str_str) | (with_reducible exact isi_str_tuple) | (with_reducible exact isi_str_list) | (with_reducible exact isi_tup_int) | (with_reducible exact isi_tup_bool) | (with_reducible exact isi_tup_str) | (with_reducible exact isi_tup_tuple) | (with_reducible exact isi_tup_list) | (with_reducible exact isi_lst_int) | (with_reducible exact isi_lst_bool) | (with_reducible exact isi_lst_str) | (with_reducible exact isi_lst_tuple) | (with_reducible exact isi_lst_list))
local macro_rules | `(tactic| walk_at "rc") => `(tactic| first
  | walk_at "isi"
  | (with_reducible exact rc_len) | (with_reducible exact rc_lent) | (with_reducible exact rc_lenc) | (with_reducible exact rc_toint) | (with_reducible exact rc_absv) | (with_reducible exact rc_gcd)
  | ((with_reducible apply rc_lcm); assumption)
  | ((with_reducible apply rc_isi); (focus rfl); assumption)
  | (with_reducible exact rco_list) | (with_reducible exact rco_listT))
local macro_rules | `(tactic| walk_at "ev") => `(tactic| first
  | (with_reducible exact ev_int) | (with_reducible exact ev_bl) | (with_reducible exact ev_non) | (with_reducible exact ev_str) | (with_reducible exact ev_ty)
  | ((with_reducible apply ev_var); rfl)
  | ((with_reducible apply ev_lenOw); rfl)
  | ((with_reducible apply ev_op) <;> first | walk_at "ev" | walk_at "rv")
  | ((with_reducible apply ev_un) <;> first | walk_at "ev" | walk_at "rv")
  | ((with_reducible apply ev_cb) <;> first | walk_at "ev" | walk_at "rc")
  | ((with_reducible apply ev_call) <;> first | walk_at "ev" | walk_at "pr")
  | ((with_reducible apply ev_tup) <;> first | walk_at "ev" | (simp; done))
  | (with_reducible exact ea_nil)
  | ((with_reducible apply ea_cons) <;> walk_at "ev")
  | ((with_reducible apply et_test); walk_at "ev")
  | ((with_reducible apply et_B); walk_at "ev")
  | ((with_reducible apply et_not); walk_at "ev")
  | ((with_reducible apply et_or); (walk_at "ev"); intro _; walk_at "ev")
  | ((with_reducible apply et_and); (walk_at "ev"); intro _; walk_at "ev")
  | ((with_reducible apply ev_orV); (walk_at "ev"); intro _; walk_at "ev")
  | ((with_reducible apply ev_andV); (walk_at "ev"); intro _; walk_at "ev")
  | ((with_reducible apply ev_notV); walk_at "ev")
  | (with_reducible exact et_yes)
  | ((with_reducible apply evo_lst) <;> first | walk_at "ev" | (simp; done))
  | ((with_reducible apply ev_opO) <;> first | walk_at "ev" | ((with_reducible apply rvo_add); simp; omega))
  | ((with_reducible apply ev_cbO) <;> first | walk_at "ev" | walk_at "rc")
  | ((with_reducible apply ev_callO) <;> first | walk_at "ev" | walk_at "pr")
  | ((with_reducible apply ec_call) <;> first | walk_at "ev" | walk_at "pr")
  | ((with_reducible apply ec_tup) <;> first | walk_at "ev" | (simp; done))
  | ((with_reducible apply ec_lst) <;> first | walk_at "ev" | (simp; done))
  | (with_reducible exact eca_nil)
  | ((with_reducible apply eca_cons) <;> walk_at "ev")
  | ((with_reducible apply ec_sc); (walk_at "ev"); rfl)
  | ((with_reducible apply ec_ow); (walk_at "ev"); first | assumption | (intro d hd; simp at hd; done))
  | ((with_reducible apply ec_fz); walk_at "ev")
  | ((with_reducible apply ev_fz); walk_at "ev"))

local macro_rules | `(tactic| walk_at "im") => `(tactic| ((with_reducible apply wq_asg); walk_at "ev"; (try dsimp only [List.set, Int.reduceToNat])))
local macro_rules | `(tactic| walk_at "ow") => `(tactic| ((with_reducible apply wq_asgO); walk_at "ev"; (focus (first | decide | (simp; done))); (try dsimp only [List.set, Int.reduceToNat])))
local macro_rules | `(tactic| walk_at "cl") => `(tactic| ((with_reducible apply wq_asgC); walk_at "ev"; (focus (first | decide | (simp; done))); (try dsimp only [List.set, Int.reduceToNat])))
local macro_rules | `(tactic| walk_at "if") => `(tactic| ((first | (with_reducible apply wq_when) | (with_reducible apply wq_if) | (with_reducible apply ws_if)); walk_at "ev"; (try dsimp only [Int.reduceToNat])))
local macro_rules | `(tactic| walk_at "ret") => `(tactic| ((with_reducible apply ws_ret); walk_at "ev"))
local macro_rules | `(tactic| walk_at "go") => `(tactic| (try dsimp only [cxOf, L2.Cx.nox, L2.Cx.wish, L2.Cx.blk]))
local macro_rules | `(tactic| walk_at "ints") => `(tactic| (refine ev_fz (evo_lst ?_ (by decide)); repeat (first | exact ea_nil | refine ea_cons ev_int ?_)))

/-! ### ratios -/
theorem B9 {x : Int} {k : Nat} (h : x.natAbs < 2 ^ k) (hk : k ≤ 8990) : x.natAbs < 2 ^ 8990 := Nat.lt_of_lt_of_le h (Nat.pow_le_pow_right (by decide) hk)
theorem cd_gcd {n d : Int} (h : d ≠ 0) (hd : d.natAbs < 2 ^ 8990) : ∀ z, CDivW z ((Nat.gcd n.natAbs d.natAbs : Nat) : Int) := fun z =>
  wide_div (b := 8990) (by have := Nat.gcd_pos_of_pos_right n.natAbs (show 0 < d.natAbs by omega); omega) (by
    rw [Int.natAbs_natCast]
    exact Nat.lt_of_le_of_lt (Nat.gcd_le_right _ (by omega)) hd) (by decide) (by decide)
def normN (n d : Int) : Num := if d < 0 then mk (-n) (-d) else mk n d
theorem wmulB {x y : Int} {a b : Nat} (hx : x.natAbs < 2 ^ a) (hy : y.natAbs < 2 ^ b) (ha : 0 < a) (hb : 0 < b) (h : a + b ≤ 1000000) : CMulW x y := wide_mul hx hy ha hb h
section
variable {P : Program} {w : World} {K : PySem.W.Frag} {mg : Str → Option Value} {base : Heap} {C_Fault C_BadNumber C_BadRow C_BadText : Addr}
def xBadNumber (C : Addr) : Exn := (.ref C, [], [])
def P_rat (CB : Addr) : PrD := fun ds R Z => ∃ n d : Int, ds = [.int n, .int d] ∧ d.natAbs < 2 ^ 8990 ∧ (d ≠ 0 → R (.im (numD (normN n d)))) ∧ (d = 0 → Z (xBadNumber CB))
theorem ok_rat (F : Df K mg "ratio" s_ratio ["n", "d"]) (gm : Gm K mg C_Fault C_BadNumber C_BadRow C_BadText) : FnG P w K mg base (L2N.CX P w) 1 "ratio" ["n", "d"] (spD K (P_rat C_BadNumber)) := by
  refine F.okN (k := 0) sc_ratio (fun ds R Z ⟨a, b, e, _⟩ => by rw [e] <;> rfl) (fun f cdv A outer s H E hr => ?_)
  refine ⟨_,
    (pss_cons (ps_if (pt_cmpR (kEq K hr.units) (pv 1) pe_int (nomark _)) (pss_one (ps_r0 gm.BadNumber_p rfl (L2N.takes_of rfl rfl rfl rfl))) pss_nil)
    (pss_cons (ps_if (pt_cmpR opLt (pv 1) pe_int (nomark _)) (pss_cons (sv 0 sc_ratio.nd (pe_un unNeg (pv 0))) (pss_one (sv 1 sc_ratio.nd (pe_un unNeg (pv 1))))) pss_nil)
    (pss_cons (sv 2 sc_ratio.nd (pe_callBfun cr_gcd (by rfl) gm.gcd (pa_cons (pv 0) (pa_cons (pv 1) pa_nil))))
    (pss_one (ps_ret (pe_tup (pa_cons (pe_op opDiv (pv 0) (pv 2)) (pa_cons (pe_op opDiv (pv 1) (pv 2)) pa_nil)))))))), fun ds R Z p => ?_⟩
  obtain ⟨n, d, rfl, hd, p1, p2⟩ := p
  refine ws_to (ρ' := [.im (.int n), .im (.int d), .no]) rfl ?_
  walk_at "go"
  refine wq_when (et_test (ev_op (ev_var rfl) ev_int rv_eq)) (fun hb => ws_raise0 (p2 (of_decide_eq_true hb))) (fun hb => ?_)
  have hd0 : d ≠ 0 := of_decide_eq_false hb
  have hp := p1 hd0
  have fin : ∀ n d : Int, d ≠ 0 → d.natAbs < 2 ^ 8990 → R (.im (numD (mk n d))) → Ws K (upX E) (tSeq (tAsg (tCB rGcd (tCons (tVar 0) (tCons (tVar 1) tNil))) (gName 2)) (tRet (tTup (tCons (tOp rDivA (tVar 0) (tVar 2)) (tCons (tOp rDivA (tVar 1) (tVar 2)) tNil))))) [.im (.int n), .im (.int d), .no] { nx := fun _ => R (.im .non), rt := R, ex := fun _ => Z } := fun n d h0 hd p => by
    refine wq_asg (ev_cb (ea_cons (ev_var rfl) (ea_cons (ev_var rfl) ea_nil)) rc_gcd) ?_
    dsimp only [List.set]
    have c := cd_gcd (n := n) h0 hd
    exact ws_ret (ev_tup (ea_cons (ev_op (ev_var rfl) (ev_var rfl) (rv_div (c _))) (ea_cons (ev_op (ev_var rfl) (ev_var rfl) (rv_div (c _))) ea_nil)) (by simp)) p
  refine ws_mid (fun ρ' => ∃ n' d', ρ' = [.im (.int n'), .im (.int d'), .no] ∧ d' ≠ 0 ∧ d'.natAbs < 2 ^ 8990 ∧ mk n' d' = normN n d) ?_ ?_
  · refine ws_if (et_test (ev_op (ev_var rfl) ev_int rv_lt)) (fun hb => ?_) (fun hb => ?_)
    · have hb : d < 0 := of_decide_eq_true hb
      refine wq_asg (ev_un (ev_var rfl) ru_neg) ?_
      dsimp only [List.set]
      exact ws_asg (ev_un (ev_var rfl) ru_neg) ⟨_, _, rfl, by omega, by rw [Int.natAbs_neg]; exact hd, by rw [normN, if_pos hb]⟩
    · have hb : ¬ d < 0 := of_decide_eq_false hb
      exact ws_next ⟨_, _, rfl, hd0, hd, by rw [normN, if_neg hb]⟩
  · rintro ρ' ⟨n', d', rfl, h0, h1, e⟩
    exact fin n' d' h0 h1 (by rw [e]; exact hp)
theorem pr_rat {C : Addr} {n d : Int} (h : d ≠ 0) (hd : d.natAbs < 2 ^ 8990) : P_rat C [.int n, .int d] (fun s => s = .im (numD (normN n d))) (fun _ => False) := ⟨n, d, rfl, hd, fun _ => rfl, fun q => h q⟩
theorem pr_ratP {C : Addr} {n d : Int} (h : 0 < d) (hd : d.natAbs < 2 ^ 8990) : P_rat C [.int n, .int d] (fun s => s = .im (numD (mk n d))) (fun _ => False) := by
  have := pr_rat (C := C) (n := n) (d := d) (by omega) hd
  rw [normN, if_neg (by omega)] at this
  exact this
def P_plus : PrD := fun ds R _ => ∃ (l : List Num) (b : Nat), ds = [.tup (l.map numD)] ∧ (∀ x ∈ l, NumOk b x) ∧ 1 + l.length * (b + 1) ≤ 8900 ∧ b ≤ 8900 ∧ R (.im (numD (plusN l)))
theorem num_pos {b : Nat} {x : Num} (h : NumOk b x) : 0 < b := by
  rcases Nat.eq_zero_or_pos b with e | e
  · obtain ⟨h1, _, h3⟩ := h
    rw [e, Nat.pow_zero] at h3
    omega
  · exact e
theorem ok_plus (F : Dv K mg "plus" s_plus "numbers") (gm : Gm K mg C_Fault C_BadNumber C_BadRow C_BadText) (G_ratio : FnG P w K mg base (L2N.CX P w) 1 "ratio" ["n", "d"] (spD K (P_rat C_BadNumber))) : FnV P w K mg base CX0 2 "plus" (spV K P_plus) := by
  refine F.ok (k := 1) sc_plus (fun ds R Z ⟨a, b, e, _⟩ => by rw [e] <;> rfl) (fun f cdv A outer s H E hr => ?_)
  refine ⟨_,
    (pss_cons (sv 1 sc_plus.nd pe_int)
    (pss_cons (sv 2 sc_plus.nd pe_int)
    (pss_cons (ps_for PassesOwn.never rfl (pt K (pv 0)) (gt K (n := 2) rfl (pgs_cons (gn 3 sc_plus.nd) (pgs_cons (gn 4 sc_plus.nd) pgs_nil))) (pss_cons (sv 5 sc_plus.nd (pe_callBfun cr_gcd (by rfl) gm.gcd (pa_cons (pv 2) (pa_cons (pv 4) pa_nil)))) (pss_cons (sv 1 sc_plus.nd (pe_op (kAdd K) (pe_op opMul (pv 1) (pe_op opDiv (pv 4) (pv 5))) (pe_op opMul (pv 3) (pe_op opDiv (pv 2) (pv 5))))) (pss_one (sv 2 sc_plus.nd (pe_op opMul (pe_op opDiv (pv 2) (pv 5)) (pv 4)))))))
    (pss_one (ps_ret (pe_g G_ratio hr.le passN (pa_cons (pv 1) (pa_cons (pv 2) pa_nil)))))))), fun ds R Z p => ?_⟩
  obtain ⟨l, b, rfl, hl, hb, hb2, p⟩ := p
  refine ws_to (ρ' := [.im (.tup (l.map numD)), .no, .no, .no, .no, .no]) rfl ?_
  walk_at "go"
  walk_at "im"
  walk_at "im"
  have inv : ∀ i, i ≤ l.length → Ps (1 + i * (b + 1)) ((l.take i).foldl plusS (0, 1)) ((l.take i).foldl sumS (0, 1)) := fun i hi => by
    have := ps_fold (b := b) (l.take i) 1 _ _ Ps.start fun x hx => hl x (List.mem_of_mem_take hx)
    rwa [List.length_take, Nat.min_eq_left hi] at this
  refine ws_seq (ws_forU (xs := l) (enc := numD) (src_tup (ev_var rfl)) (fun i u => ∃ s3 s4 s5, u = [(1, .im (.int ((l.take i).foldl plusS (0, 1)).1)), (2, .im (.int ((l.take i).foldl plusS (0, 1)).2)), (3, s3), (4, s4), (5, s5)]) ⟨_, ⟨_, _, _, rfl⟩, rfl⟩ ?_ ?_)
  · rintro i x u hx ⟨s3, s4, s5, rfl⟩
    refine ⟨_, gd_tup2, ?_⟩
    dsimp only [up, List.set, setD]
    have hi := (List.getElem?_eq_some_iff.mp hx).1
    have hxo := hl x (List.mem_of_getElem? hx)
    have h0 := num_pos hxo
    have iv := inv i (by omega)
    have est : (l.take (i + 1)).foldl plusS (0, 1) = plusS ((l.take i).foldl plusS (0, 1)) x := by
      rw [List.take_add_one, hx, List.foldl_append]
      rfl
    rw [est]
    have hle : 1 + i * (b + 1) ≤ 8900 := by
      have : i * (b + 1) ≤ l.length * (b + 1) := Nat.mul_le_mul_right _ (by omega)
      omega
    generalize (l.take i).foldl plusS (0, 1) = a at iv
    have iva := iv.an
    have ivd := iv.ad
    have ivp := iv.pa
    generalize 1 + i * (b + 1) = e at hle iva ivd
    obtain ⟨x1, x2, x3⟩ := hxo
    refine wq_asg (ev_cb (ea_cons (ev_var rfl) (ea_cons (ev_var rfl) ea_nil)) rc_gcd) ?_
    dsimp only [List.set]
    have c := cd_gcd (n := a.2) (d := x.2) (by omega) (B9 x3 (by omega))
    have hgle : ∀ z : Int, (z / ((Nat.gcd a.2.natAbs x.2.natAbs : Nat) : Int)).natAbs ≤ z.natAbs := fun z => Int.natAbs_ediv_le_natAbs _ _
    have e0 : 0 < e + 1 := by omega
    have w : ∀ {z : Int} {k : Nat}, z.natAbs < 2 ^ k → z.natAbs < 2 ^ (k + 1) := fun h => Nat.lt_trans h (Nat.pow_lt_pow_right (by decide) (by omega))
    refine wq_asg (ev_op (ev_op (ev_var rfl) (ev_op (ev_var rfl) (ev_var rfl) (rv_div (c _))) (rv_mulW (wmulB (a := e + 1) (b := b) (w iva) (Nat.lt_of_le_of_lt (hgle _) x3) e0 h0 (by omega)))) (ev_op (ev_var rfl) (ev_op (ev_var rfl) (ev_var rfl) (rv_div (c _))) (rv_mulW (wmulB (a := b) (b := e + 1) x2 (Nat.lt_of_le_of_lt (hgle _) (w ivd)) h0 e0 (by omega)))) rv_add) ?_
    dsimp only [List.set]
    exact ws_asg (ev_op (ev_op (ev_var rfl) (ev_var rfl) (rv_div (c _))) (ev_var rfl) (rv_mulW (wmulB (a := e + 1) (b := b) (Nat.lt_of_le_of_lt (hgle _) (w ivd)) x3 e0 h0 (by omega)))) ⟨_, ⟨_, _, _, rfl⟩, rfl⟩
  · rintro u ⟨s3, s4, s5, rfl⟩
    dsimp only [up, List.set]
    rw [List.take_length]
    have iv := inv l.length (Nat.le_refl _)
    rw [List.take_length] at iv
    exact ws_ret (ev_call (ea_cons (ev_var rfl) (ea_cons (ev_var rfl) ea_nil)) (pr_ratP iv.pa (B9 iv.ad (by omega)))) p
def P_times : PrD := fun ds R _ => ∃ (l : List Num) (b : Nat), ds = [.tup (l.map numD)] ∧ (∀ x ∈ l, NumOk b x) ∧ 1 + l.length * b ≤ 8900 ∧ b ≤ 8900 ∧ R (.im (numD (timesN l)))
theorem ok_times (F : Dv K mg "times" s_times "numbers") (gm : Gm K mg C_Fault C_BadNumber C_BadRow C_BadText) (G_ratio : FnG P w K mg base (L2N.CX P w) 1 "ratio" ["n", "d"] (spD K (P_rat C_BadNumber))) : FnV P w K mg base CX0 2 "times" (spV K P_times) := by
  refine F.ok (k := 1) sc_times (fun ds R Z ⟨a, b, e, _⟩ => by rw [e] <;> rfl) (fun f cdv A outer s H E hr => ?_)
  refine ⟨_,
    (pss_cons (sv 1 sc_times.nd pe_int)
    (pss_cons (sv 2 sc_times.nd pe_int)
    (pss_cons (ps_for PassesOwn.never rfl (pt K (pv 0)) (gt K (n := 2) rfl (pgs_cons (gn 3 sc_times.nd) (pgs_cons (gn 4 sc_times.nd) pgs_nil))) (pss_cons (sv 1 sc_times.nd (pe_op opMul (pv 1) (pv 3))) (pss_one (sv 2 sc_times.nd (pe_op opMul (pv 2) (pv 4))))))
    (pss_one (ps_ret (pe_g G_ratio hr.le passN (pa_cons (pv 1) (pa_cons (pv 2) pa_nil)))))))), fun ds R Z p => ?_⟩
  obtain ⟨l, b, rfl, hl, hb, hb2, p⟩ := p
  refine ws_to (ρ' := [.im (.tup (l.map numD)), .no, .no, .no, .no]) rfl ?_
  walk_at "go"
  walk_at "im"
  walk_at "im"
  have inv : ∀ i, i ≤ l.length → Pt (1 + i * b) ((l.take i).foldl prodS (1, 1)) := fun i hi => by
    have := pt_fold (b := b) (l.take i) 1 _ Pt.start fun x hx => hl x (List.mem_of_mem_take hx)
    rwa [List.length_take, Nat.min_eq_left hi] at this
  refine ws_seq (ws_forU (xs := l) (enc := numD) (src_tup (ev_var rfl)) (fun i u => ∃ s3 s4, u = [(1, .im (.int ((l.take i).foldl prodS (1, 1)).1)), (2, .im (.int ((l.take i).foldl prodS (1, 1)).2)), (3, s3), (4, s4)]) ⟨_, ⟨_, _, rfl⟩, rfl⟩ ?_ ?_)
  · rintro i x u hx ⟨s3, s4, rfl⟩
    refine ⟨_, gd_tup2, ?_⟩
    dsimp only [up, List.set, setD]
    have hi := (List.getElem?_eq_some_iff.mp hx).1
    have hxo := hl x (List.mem_of_getElem? hx)
    have h0 := num_pos hxo
    have iv := inv i (by omega)
    have est : (l.take (i + 1)).foldl prodS (1, 1) = prodS ((l.take i).foldl prodS (1, 1)) x := by
      rw [List.take_add_one, hx, List.foldl_append]
      rfl
    rw [est]
    have hle : 1 + i * b ≤ 8900 := by
      have : i * b ≤ l.length * b := Nat.mul_le_mul_right _ (by omega)
      omega
    generalize (l.take i).foldl prodS (1, 1) = a at iv
    have iva := iv.up
    have ivd := iv.dn
    generalize 1 + i * b = e at hle iva ivd
    obtain ⟨x1, x2, x3⟩ := hxo
    have e0 : 0 < e + 1 := by omega
    have w : ∀ {z : Int} {k : Nat}, z.natAbs < 2 ^ k → z.natAbs < 2 ^ (k + 1) := fun h => Nat.lt_trans h (Nat.pow_lt_pow_right (by decide) (by omega))
    refine wq_asg (ev_op (ev_var rfl) (ev_var rfl) (rv_mulW (wmulB (a := e + 1) (b := b) (w iva) x2 e0 h0 (by omega)))) ?_
    dsimp only [List.set]
    exact ws_asg (ev_op (ev_var rfl) (ev_var rfl) (rv_mulW (wmulB (a := e + 1) (b := b) (w ivd) x3 e0 h0 (by omega)))) ⟨_, ⟨_, _, rfl⟩, rfl⟩
  · rintro u ⟨s3, s4, rfl⟩
    dsimp only [up, List.set]
    rw [List.take_length]
    have iv := inv l.length (Nat.le_refl _)
    rw [List.take_length] at iv
    exact ws_ret (ev_call (ea_cons (ev_var rfl) (ea_cons (ev_var rfl) ea_nil)) (pr_ratP iv.pa (B9 iv.dn (by omega)))) p
end
end FS
set_option Elab.async false
set_option linter.all false
set_option maxRecDepth 100000
set_option maxHeartbeats 4000000
set_option exponentiation.threshold 20000
namespace FS
open PySem PySem.Spec PyProof.Rows L2

local macro_rules | `(tactic| walk_at "side") => `(tactic| first | assumption | omega | decide)
local macro_rules | `(tactic| walk_at "hv") => `(tactic| (intro i hi; simp at hi; first | (subst hi; rfl) | (rcases hi with rfl | rfl <;> rfl) | (rcases hi with rfl | rfl | rfl <;> rfl)))
local macro_rules | `(tactic| walk_at "pr") => `(tactic| fail "no promise")
local macro_rules | `(tactic| walk_at "rv") => `(tactic| first
  | (with_reducible exact rv_add) | (with_reducible exact rv_sub) | (with_reducible exact rv_lt) | (with_reducible exact rv_le) | (with_reducible exact rv_gt) | (with_reducible exact rv_ge) | (with_reducible exact rv_eq) | (with_reducible exact rv_ne)
  | (with_reducible exact rv_is) | (with_reducible exact rv_isnot)
  | ((with_reducible apply rv_div); first | assumption | exact cdiv_small (by omega) (by omega))
  | ((with_reducible apply rv_mod); first | assumption | omega)
  | ((with_reducible apply rv_mul); first | assumption | exact cmul_left (by omega) | exact cmul_right (by omega))
  | ((with_reducible apply rv_mulW); assumption)
  | (with_reducible exact rv_p8) | (with_reducible exact rv_p18) | (with_reducible exact rv_p40) | (with_reducible exact rv_p20) | (with_reducible exact rv_p6) | (with_reducible exact rv_p7) | (with_reducible exact rv_p12) | (with_reducible exact rv_p25) | (with_reducible exact rv_p30) | (with_reducible exact rv_p39) | (with_reducible exact rv_p60)
  | ((with_reducible apply rv_ixxL); first | assumption | exact at_getD (by omega) (by omega) | exact at_nat rfl)
  | ((with_reducible apply rv_ixxT); first | assumption | exact at_getD (by omega) (by omega) | exact at_nat rfl)
  | ((with_reducible apply rv_ixxC); first | assumption)
  | (with_reducible exact ru_neg))
local macro_rules | `(tactic| walk_at "isi") => `(tactic| first | (with_reducible exact isi_non_int) | (with_reducible exact isi_non_bool) | (with_reducible exact isi_non_str) | (with_reducible exact isi_non_tuple) | (with_reducible exact isi_non_list) | (with_reducible exact isi_bl_int) | (with_reducible exact isi_bl_bool) | (with_reducible exact isi_bl_str) | (with_reducible exact isi_bl_tuple) | (with_reducible exact isi_bl_list) | (with_reducible exact isi_int_int) | (with_reducible exact isi_int_bool) | (with_reducible exact isi_int_str) | (with_reducible exact isi_int_tuple) | (with_reducible exact isi_int_list) | (with_reducible exact isi_str_int) | (with_reducible exact isi_str_bool) | (with_reducible exact isi_str_str) | (with_reducible exact isi_str_tuple) | (with_reducible exact isi_str_list) | (with_reducible exact isi_tup_int) | (with_reducible exact isi_tup_bool) | (with_reducible exact isi_tup_str) | (with_reducible exact isi_tup_tuple) | (with_reducible exact isi_tup_list) | (with_reducible exact isi_lst_int) | (with_reducible exact isi_lst_bool) | (with_reducible exact isi_lst_str) | (with_reducible exact isi_lst_tuple) | (with_reducible exact isi_lst_list))
local macro_rules | `(tactic| walk_at "rc") => `(tactic| first
  | walk_at "isi"
  | (with_reducible exact rc_len) | (with_reducible exact rc_lent) | (with_reducible exact rc_lenc) | (with_reducible exact rc_toint) | (with_reducible exact rc_absv) | (with_reducible exact rc_gcd)
  | ((with_reducible apply rc_lcm); assumption)
  | ((with_reducible apply rc_isi); (focus rfl); assumption)
  | (with_reducible exact rco_list) | (with_reducible exact rco_listT))
local macro_rules | `(tactic| walk_at "ev") => `(tactic| first
  | (with_reducible exact ev_int) | (with_reducible exact ev_bl) | (with_reducible exact ev_non) | (with_reducible exact ev_str) | (with_reducible exact ev_ty)
  | ((with_reducible apply ev_var); rfl)
  | ((with_reducible apply ev_lenOw); rfl)
  | ((with_reducible apply ev_op) <;> first | walk_at "ev" | walk_at "rv")
  | ((with_reducible apply ev_un) <;> first | walk_at "ev" | walk_at "rv")
  | ((with_reducible apply ev_cb) <;> first | walk_at "ev" | walk_at "rc")
  | ((with_reducible apply ev_call) <;> first | walk_at "ev" | walk_at "pr")
  | ((with_reducible apply ev_tup) <;> first | walk_at "ev" | (simp; done))
  | (with_reducible exact ea_nil)
  | ((with_reducible apply ea_cons) <;> walk_at "ev")
  | ((with_reducible apply et_test); walk_at "ev")
  | ((with_reducible apply et_B); walk_at "ev")
  | ((with_reducible apply et_not); walk_at "ev")
  | ((with_reducible apply et_or); (walk_at "ev"); intro _; walk_at "ev")
  | ((with_reducible apply et_and); (walk_at "ev"); intro _; walk_at "ev")
  | ((with_reducible apply ev_orV); (walk_at "ev"); intro _; walk_at "ev")
  | ((with_reducible apply ev_andV); (walk_at "ev"); intro _; walk_at "ev")
  | ((with_reducible apply ev_notV); walk_at "ev")
  | (with_reducible exact et_yes)
  | ((with_reducible apply evo_lst) <;> first | walk_at "ev" | (simp; done))
  | ((with_reducible apply ev_opO) <;> first | walk_at "ev" | ((with_reducible apply rvo_add); simp; omega))
  | ((with_reducible apply ev_cbO) <;> first | walk_at "ev" | walk_at "rc")
  | ((with_reducible apply ev_callO) <;> first | walk_at "ev" | walk_at "pr")
  | ((with_reducible apply ec_call) <;> first | walk_at "ev" | walk_at "pr")
  | ((with_reducible apply ec_tup) <;> first | walk_at "ev" | (simp; done))
  | ((with_reducible apply ec_lst) <;> first | walk_at "ev" | (simp; done))
  | (with_reducible exact eca_nil)
  | ((with_reducible apply eca_cons) <;> walk_at "ev")
  | ((with_reducible apply ec_sc); (walk_at "ev"); rfl)
  | ((with_reducible apply ec_ow); (walk_at "ev"); first | assumption | (intro d hd; simp at hd; done))
  | ((with_reducible apply ec_fz); walk_at "ev")
  | ((with_reducible apply ev_fz); walk_at "ev"))

local macro_rules | `(tactic| walk_at "im") => `(tactic| ((with_reducible apply wq_asg); walk_at "ev"; (try dsimp only [List.set, Int.reduceToNat])))
local macro_rules | `(tactic| walk_at "ow") => `(tactic| ((with_reducible apply wq_asgO); walk_at "ev"; (focus (first | decide | (simp; done))); (try dsimp only [List.set, Int.reduceToNat])))
local macro_rules | `(tactic| walk_at "cl") => `(tactic| ((with_reducible apply wq_asgC); walk_at "ev"; (focus (first | decide | (simp; done))); (try dsimp only [List.set, Int.reduceToNat])))
local macro_rules | `(tactic| walk_at "if") => `(tactic| ((first | (with_reducible apply wq_when) | (with_reducible apply wq_if) | (with_reducible apply ws_if)); walk_at "ev"; (try dsimp only [Int.reduceToNat])))
local macro_rules | `(tactic| walk_at "ret") => `(tactic| ((with_reducible apply ws_ret); walk_at "ev"))
local macro_rules | `(tactic| walk_at "go") => `(tactic| (try dsimp only [cxOf, L2.Cx.nox, L2.Cx.wish, L2.Cx.blk]))
local macro_rules | `(tactic| walk_at "ints") => `(tactic| (refine ev_fz (evo_lst ?_ (by decide)); repeat (first | exact ea_nil | refine ea_cons ev_int ?_)))

/-- a try: its body, its suite -/
def tTry (K : PySem.W.Frag) (c : Value) (i : Nat) (tb : WX → TS) (ts : Addr → Value → Option Addr → TS) (Wout : WX) : TS := fun Dn σ H => tb (wAs K c i ts Wout Dn) Dn σ H
theorem ps_tryN {X : Cx} {x n : Str} {c : Value} {i : Nat} {body suite : List Stmt} {b₀ : Stmt} {np pos pos' : Pos} {tb : WX → TS} {ts : Addr → Value → Option Addr → TS} {Wout : WX}
    (hs : X.stack = X.env :: X.outer) (hf : X.env.frame = some X.env.locals) (hN : X.N.Nodup) (hi : X.N[i]? = some n) (hln : X.env.kindOf n = some .local) (hc : Names X x c) (tk : L2N.Takes X Wout)
    (hb : ∀ (W : WX) (pn : List (Addr × Obj)) (xe : Value → Shared → Prop), L2N.Takes (X.tr pn xe) W → PassesOwn (model X.prog X.w) X.A X.env xe → PSs (X.tr pn xe) body (tb W))
    (hsu : ∀ (a : Addr) (oe : Obj) (cls : Value) (d : Option Addr) (pn : List (Addr × Obj)), L2N.Zn cls d oe → (∃ vs, oe.data = .fields vs) → PSs (X.suite a ((a, oe) :: pn)) (b₀ :: suite) (ts a cls d)) :
    PS X (.Try body [.ExceptHandler (some (.Name x np)) (some n) (b₀ :: suite) pos'] [] [] pos) (tTry X.K c i tb ts Wout) := L2N.ps_try_as hs hf hN hi hln hc tk hb hsu
theorem ws_tryN {K : PySem.W.Frag} {E : L2.WX} {ρ : Rho} {P : Pst} {i : Nat} {tb : WX → TS} {ts : Addr → Value → Option Addr → TS} {c : Value} {Wout : WX} {Pc : Rho → Exn → Prop} (hb : ∀ W, Ws K W (tb W) ρ { P with ex := Pc })
    (hc : ∀ ρ' z, Pc ρ' z → PySem.W.exmOne K z.1 c = some true ∧ ∀ a od, Ws K E (ts a z.1 od) (ρ'.set i (.im (.exc a od z.2.1 z.2.2))) { nx := fun ρ2 => P.nx (ρ2.set i .no), rt := P.rt, bk := fun ρ2 => P.bk (ρ2.set i .no), ct := fun ρ2 => P.ct (ρ2.set i .no) }) :
    Ws K E (tTry K c i tb ts Wout) ρ P := ws_tryA hb hc

/-! ### calls in a suite -/
theorem roomS {j k : Nat} {A : Around} {a : Option Value} (r : L2.Room k A) (h : j ≤ k := by decide) : L2H.RoomH j (A.mark a) := ⟨by have := r.dp; show A.depth + 3 * j + 5 < recursionLimit; omega, by have := r.un; show A.units + 16 * j + 200 < cLine; omega⟩
theorem _root_.L2H.RoomH.units {k : Nat} {A : Around} (r : L2H.RoomH k A) : A.units + 64 < cLine := by have := r.un; omega
section
variable {K : PySem.W.Frag} {ρ : Rho} {a : Addr} {od : Option Addr} {ns : List Str} {ds : List D} {i : Nat} {tr : TA} {C : Addr} {d1 d2 : D} {c1 c2 : Value} {b : Bool}
/-- isinstance(e, (c1, c2)) -/
theorem ev_isXT2 (e : ρ[i]? = some (.im (.exc a od ns ds))) (hr : EvA K tr ρ [d1, d2]) (h1 : clsD d1 = some c1) (h2 : clsD d2 = some c2) (hE : ExcC K C) (hk : PySem.W.kitAny K (.ref C) [c1, c2] = some b) : EvD K (tCB (rIsXT K a (.ref C) od) (tCons (tVar i) (tCons (tTup tr) tNil))) ρ (.bl b) := fun M T0 H T σ X Q en q => by
  obtain ⟨v, g1, g2⟩ := en.get e
  refine ⟨v, g1, hr M T0 H T σ X _ en fun vs H1 T1 s1 t1 e1 i1 => ⟨by rw [i1.len]; exact Nat.le_trans (show 2 ≤ 1000 by decide) (by decide), fun p hp => ?_⟩⟩
  obtain ⟨s2, e2⟩ := e1.new (o := .tup vs) hp
  obtain ⟨rfl, hd⟩ := exc_dict (g2.up (s1.trans (s2.trans e2.same)))
  obtain ⟨v1, v2, rfl, j1, j2⟩ := isL_two i1
  exact ⟨p, [v1, v2], [c1, c2], b, C, rfl, upd_same, .cons (clsD_ok h1 j1) (.cons (clsD_ok h2 j2) .nil), rfl, hE, hd, hk, q _ _ _ (s1.trans s2) (t1.trans (same_new hp)) e2 rfl⟩
end

section
variable {P : Program} {w : World} {K : PySem.W.Frag} {mg : Str → Option Value} {base : Heap} {C_Fault C_BadNumber C_BadRow C_BadText : Addr}
/-! ### minus, over, less -/
def Two (ds : List D) (x y : Num) : Prop := ds = [numD x, numD y] ∧ NumOk 220 x ∧ NumOk 220 y
theorem mulB {x y : Int} {a b : Nat} (hx : x.natAbs < 2 ^ a) (hy : y.natAbs < 2 ^ b) (h : a + b + 2 ≤ 1000000) : CMulW x y :=
  wide_mul (a := a + 1) (b := b + 1) (Nat.lt_trans hx (Nat.pow_lt_pow_right (by decide) (by omega))) (Nat.lt_trans hy (Nat.pow_lt_pow_right (by decide) (by omega))) (by omega) (by omega) (by omega)
theorem ev_n1 {K : PySem.W.Frag} {ρ : Rho} {i : Nat} {x : Num} (e : ρ[i]? = some (.im (numD x))) : EvD K (tOp (rIx K) (tVar i) (tC (.int 0))) ρ (.int x.1) := ev_op (ev_var e) ev_int (rv_ixxT (at_nat (j := 0) rfl))
theorem ev_n2 {K : PySem.W.Frag} {ρ : Rho} {i : Nat} {x : Num} (e : ρ[i]? = some (.im (numD x))) : EvD K (tOp (rIx K) (tVar i) (tC (.int 1))) ρ (.int x.2) := ev_op (ev_var e) ev_int (rv_ixxT (at_nat (j := 1) rfl))
theorem ev_m {K : PySem.W.Frag} {ρ : Rho} {ta tb : TE} {x y : Int} {a b : Nat} (ha : EvD K ta ρ (.int x)) (hb : EvD K tb ρ (.int y)) (hx : x.natAbs < 2 ^ a) (hy : y.natAbs < 2 ^ b) (h : a + b + 2 ≤ 1000000 := by decide) : EvD K (tOp rMulA ta tb) ρ (.int (x * y)) := ev_op ha hb (rv_mulW (mulB hx hy h))
def minusN (x y : Num) : Num := mk (x.1 * y.2 - y.1 * x.2) (x.2 * y.2)
def P_minus : PrD := fun ds R _ => ∃ x y, Two ds x y ∧ R (.im (numD (minusN x y)))
theorem ok_minus (F : Df K mg "minus" s_minus ["first", "second"]) (gm : Gm K mg C_Fault C_BadNumber C_BadRow C_BadText) (G_ratio : FnG P w K mg base (L2N.CX P w) 1 "ratio" ["n", "d"] (spD K (P_rat C_BadNumber))) : FnG P w K mg base CX0 2 "minus" ["first", "second"] (spD K P_minus) := by
  refine F.ok (k := 1) sc_minus (fun ds R Z ⟨x, y, e, _⟩ => by rw [e.1] <;> rfl) (fun f cdv A outer s H E hr => ?_)
  refine ⟨_,
    (pss_one (ps_ret (pe_g G_ratio hr.le passN (pa_cons (pe_op opSub (pe_op opMul (ix K (pv 0) pe_int) (ix K (pv 1) pe_int)) (pe_op opMul (ix K (pv 1) pe_int) (ix K (pv 0) pe_int))) (pa_cons (pe_op opMul (ix K (pv 0) pe_int) (ix K (pv 1) pe_int)) pa_nil))))), fun ds R Z p => ?_⟩
  obtain ⟨x, y, ⟨rfl, hx, hy⟩, p⟩ := p
  refine ws_to (ρ' := [.im (numD x), .im (numD y)]) rfl ?_
  walk_at "go"
  refine ws_ret (ev_call (ea_cons (ev_op (ev_m (ev_n1 rfl) (ev_n2 rfl) hx.2.1 hy.2.2) (ev_m (ev_n1 rfl) (ev_n2 rfl) hy.2.1 hx.2.2) rv_sub) (ea_cons (ev_m (ev_n2 rfl) (ev_n2 rfl) hx.2.2 hy.2.2) ea_nil)) (pr_ratP (Int.mul_pos hx.1 hy.1) (B9 (wide_lt hx.2.2 hy.2.2) (by decide)))) p
def P_over (C : Addr) : PrD := fun ds R Z => ∃ x y, Two ds x y ∧ (y.1 ≠ 0 → R (.im (numD (normN (x.1 * y.2) (x.2 * y.1))))) ∧ (y.1 = 0 → Z (xBadNumber C))
theorem ok_over (F : Df K mg "over" s_over ["first", "second"]) (gm : Gm K mg C_Fault C_BadNumber C_BadRow C_BadText) (G_ratio : FnG P w K mg base (L2N.CX P w) 1 "ratio" ["n", "d"] (spD K (P_rat C_BadNumber))) : FnG P w K mg base (L2N.CX P w) 2 "over" ["first", "second"] (spD K (P_over C_BadNumber)) := by
  refine F.okN (k := 1) sc_over (fun ds R Z ⟨x, y, e, _⟩ => by rw [e.1] <;> rfl) (fun f cdv A outer s H E hr => ?_)
  refine ⟨_,
    (pss_cons (ps_if (pt_cmpR (kEq K hr.units) (ix K (pv 1) pe_int) pe_int (nomark _)) (pss_one (ps_r0 gm.BadNumber_p rfl (L2N.takes_of rfl rfl rfl rfl))) pss_nil)
    (pss_one (ps_ret (pe_gX G_ratio hr.le (L2N.takes_of rfl rfl rfl rfl) (pa_cons (pe_op opMul (ix K (pv 0) pe_int) (ix K (pv 1) pe_int)) (pa_cons (pe_op opMul (ix K (pv 0) pe_int) (ix K (pv 1) pe_int)) pa_nil)))))), fun ds R Z p => ?_⟩
  obtain ⟨x, y, ⟨rfl, hx, hy⟩, p1, p2⟩ := p
  refine ws_to (ρ' := [.im (numD x), .im (numD y)]) rfl ?_
  walk_at "go"
  refine wq_when (et_test (ev_op (ev_n1 rfl) ev_int rv_eq)) (fun hb => ws_raise0 (p2 (of_decide_eq_true hb))) (fun hb => ?_)
  have h0 : y.1 ≠ 0 := of_decide_eq_false hb
  have hx1 := hx.1
  exact ws_ret (ev_callS (ea_cons (ev_m (ev_n1 rfl) (ev_n2 rfl) hx.2.1 hy.2.2) (ea_cons (ev_m (ev_n2 rfl) (ev_n1 rfl) hx.2.2 hy.2.1) ea_nil)) (pr_rat (Int.mul_ne_zero (by omega) h0) (B9 (wide_lt hx.2.2 hy.2.1) (by decide)))) (p1 h0)
def P_less : PrD := fun ds R _ => ∃ x y, Two ds x y ∧ R (.im (.bl (decide (x.1 * y.2 < y.1 * x.2))))
theorem ok_less (F : Df K mg "less" s_less ["first", "second"]) (gm : Gm K mg C_Fault C_BadNumber C_BadRow C_BadText) : FnG P w K mg base CX0 1 "less" ["first", "second"] (spD K P_less) := by
  refine F.ok (k := 0) sc_less (fun ds R Z ⟨x, y, e, _⟩ => by rw [e.1] <;> rfl) (fun f cdv A outer s H E hr => ?_)
  refine ⟨_,
    (pss_one (ps_ret (pe_cmpR opLt (pe_op opMul (ix K (pv 0) pe_int) (ix K (pv 1) pe_int)) (pe_op opMul (ix K (pv 1) pe_int) (ix K (pv 0) pe_int)) (nomark _)))), fun ds R Z p => ?_⟩
  obtain ⟨x, y, ⟨rfl, hx, hy⟩, p⟩ := p
  refine ws_to (ρ' := [.im (numD x), .im (numD y)]) rfl ?_
  walk_at "go"
  exact ws_ret (ev_op (ev_m (ev_n1 rfl) (ev_n2 rfl) hx.2.1 hy.2.2) (ev_m (ev_n1 rfl) (ev_n2 rfl) hy.2.1 hx.2.2) rv_lt) p
/-! ### _law_is -/
def P_is : PrD := fun ds R _ => ∃ (a : Num) (t d : Int) (b : Nat), ds = [numD a, .int t, .int d] ∧ IsN b a t d ∧ b ≤ 8990 ∧ t.natAbs < 2 ^ 20000 ∧ d.natAbs < 2 ^ 20000 ∧ R (.im (.bl true))
theorem ok_is (F : Df K mg "_law_is" s_law_is ["actual", "top", "bottom"]) (gm : Gm K mg C_Fault C_BadNumber C_BadRow C_BadText) (G_law_gcd : FnG P w K mg base CX0 1 "_law_gcd" ["first", "second"] (spD K (P_gcd 8990))) : FnG P w K mg base CX0 2 "_law_is" ["actual", "top", "bottom"] (spD K P_is) := by
  refine F.ok (k := 1) sc_law_is (fun ds R Z ⟨a, t, d, b, e, _⟩ => by rw [e] <;> rfl) (fun f cdv A outer s H E hr => ?_)
  refine ⟨_,
    (pss_cons (ps_if (PW.pt (pw_or (pt_not (pt_val (cb (kIsi K) gm.isinstance (pa_cons (pv 0) (pa_cons (pe_bltn (v := .ty "tuple") (by rfl) gm.tuple (by decide +kernel) rfl) pa_nil))))) (pw_or1 (pt_cmpR (kNe K hr.units) (cb (kLen K) gm.len (pa_cons (pv 0) pa_nil)) pe_int (nomark _))))) (pss_one (ps_ret pe_bl)) pss_nil)
    (pss_cons (ps_for PassesOwn.never rfl (pt K (pv 0)) (gn 3 sc_law_is.nd) (pss_one (ps_if (PW.pt (pw_or (pt_not (pt_val (cb (kIsi K) gm.isinstance (pa_cons (pv 3) (pa_cons (pe_bltn (v := .ty "int") (by rfl) gm.int (by decide +kernel) rfl) pa_nil))))) (pw_or1 (pt_val (cb (kIsi K) gm.isinstance (pa_cons (pv 3) (pa_cons (pe_bltn (v := .ty "bool") (by rfl) gm.bool (by decide +kernel) rfl) pa_nil))))))) (pss_one (ps_ret pe_bl)) pss_nil)))
    (pss_cons (ps_if (PW.pt (pw_or (pt_cmpR opLe (ix K (pv 0) pe_int) pe_int (nomark _)) (pw_or1 (pt_cmpR (kNe K hr.units) (pe_op opMul (ix K (pv 0) pe_int) (pv 2)) (pe_op opMul (pv 1) (ix K (pv 0) pe_int)) (nomark _))))) (pss_one (ps_ret pe_bl)) pss_nil)
    (pss_one (ps_ret (pe_cmpR (kEq K hr.units) (pe_g G_law_gcd hr.le pass0 (pa_cons (cb cAbs gm.abs (pa_cons (ix K (pv 0) pe_int) pa_nil)) (pa_cons (ix K (pv 0) pe_int) pa_nil))) pe_int (nomark _))))))), fun ds R Z p => ?_⟩
  obtain ⟨a, t, d, b, rfl, h, hb, ht, hd, p⟩ := p
  refine ws_to (ρ' := [.im (numD a), .im (.int t), .im (.int d), .no]) rfl ?_
  walk_at "go"
  refine wq_noif (et_or (et_not (et_B (ev_cb (ea_cons (ev_var rfl) (ea_cons ev_ty ea_nil)) isi_tup_tuple))) fun _ => et_test (ev_op (ev_cb (ea_cons (ev_var rfl) ea_nil) rc_lent) ev_int rv_ne)) rfl ?_
  refine ws_seq (ws_forU (xs := [a.1, a.2]) (enc := D.int) (src_tup (ev_var rfl)) (fun i u => ∃ s3, u = [(3, s3)]) ⟨_, ⟨_, rfl⟩, rfl⟩ ?_ ?_)
  · rintro i z u hz ⟨s3, rfl⟩
    refine ⟨_, gd_name, ?_⟩
    dsimp only [up, List.set, setD]
    exact ws_ifF (et_or (et_not (et_B (ev_cb (ea_cons (ev_var rfl) (ea_cons ev_ty ea_nil)) isi_int_int))) fun _ => et_B (ev_cb (ea_cons (ev_var rfl) (ea_cons ev_ty ea_nil)) isi_int_bool)) rfl (ws_next ⟨_, ⟨_, rfl⟩, rfl⟩)
  rintro u ⟨s3, rfl⟩
  dsimp only [up, List.set]
  have hp := h.pos
  have he := h.eq
  have up9 := B9 h.up hb
  have dn9 := B9 h.dn hb
  refine wq_noif (et_or (et_test (ev_op (ev_n2 rfl) ev_int rv_le)) fun _ => et_test (ev_op (ev_m (ev_n1 rfl) (ev_var rfl) up9 hd) (ev_m (ev_var rfl) (ev_n2 rfl) ht dn9) rv_ne)) (by simp [he]; omega) ?_
  refine ws_ret (d := .bl true) ((ev_op (ev_call (ea_cons (ev_cb (ea_cons (ev_n1 rfl) ea_nil) rc_absv) (ea_cons (ev_n2 rfl) ea_nil)) (pr_gcd (by omega) (by omega) (natAbs_lt hp dn9))) ev_int rv_eq).is ?_) p
  rw [Int.natAbs_natCast, h.co]
  rfl
theorem pr_is {a : Num} {t d : Int} {b : Nat} (h : IsN b a t d) (hb : b ≤ 8990) (ht : t.natAbs < 2 ^ 20000) (hd : d.natAbs < 2 ^ 20000) : P_is [numD a, .int t, .int d] (fun s => s = .im (.bl true)) (fun _ => False) := ⟨a, t, d, b, rfl, h, hb, ht, hd, rfl⟩
theorem W2 {x : Int} {k : Nat} (h : x.natAbs < 2 ^ k) (hk : k ≤ 20000) : x.natAbs < 2 ^ 20000 := Nat.lt_of_lt_of_le h (Nat.pow_le_pow_right (by decide) hk)
theorem norm_is {b : Nat} {n d : Int} (h : d ≠ 0) (hn : n.natAbs < 2 ^ b) (hd : d.natAbs < 2 ^ b) : IsN b (normN n d) n d := by
  unfold normN
  split
  · exact mk_is (by omega) (by rw [Int.natAbs_neg]; exact hn) (by rw [Int.natAbs_neg]; exact hd) (by rw [Int.neg_mul, Int.mul_neg])
  · exact mk_is (by omega) hn hd rfl
/-! ### _law_is_bad_number, _law_ratio_right, _law_over_right -/
def P_bad (C : Addr) (a : Addr) (c : Value) (d : Option Addr) : PrD := fun ds R _ => ∃ ns vs, ds = [.exc a d ns vs] ∧ c = .ref C ∧ R (.im (.bl true))
theorem ok_bad (F : Df K mg "_law_is_bad_number" s_law_is_bad_number ["e"]) (gm : Gm K mg C_Fault C_BadNumber C_BadRow C_BadText) : FnGE P w K mg base 1 "_law_is_bad_number" ["e"] (fun a c d => spD K (P_bad C_BadNumber a c d)) := by
  refine F.okE (k := 0) sc_law_is_bad_number (fun a c d ds R Z ⟨x, y, e, _⟩ => by rw [e] <;> rfl) (fun f cdv A outer s H E a oe c d hh hz hf hr => ?_)
  refine ⟨_,
    (pss_one (ps_ret (pe_and (cb (kIsX K List.mem_cons_self hz hf) gm.isinstance (pa_cons (pv 0) (pa_cons (gc gm.BadNumber_v) pa_nil))) (pe_and (cb (kIsX K List.mem_cons_self hz hf) gm.isinstance (pa_cons (pv 0) (pa_cons (pe_bltn (v := .ty "ValueError") (by rfl) gm.ValueError (by decide +kernel) rfl) pa_nil))) (pe_one (pe_not (cb (kIsXT K List.mem_cons_self hz hf) gm.isinstance (pa_cons (pv 0) (pa_cons (pe_tup (pa_cons (gc gm.BadRow_v) (pa_cons (gc gm.BadText_v) pa_nil))) pa_nil))))))))), fun ds R Z p => ?_⟩
  obtain ⟨ns, vs, rfl, rfl, p⟩ := p
  refine ws_to (ρ' := [.im (.exc a d ns vs)]) rfl ?_
  walk_at "go"
  have hk : PySem.W.kitAny K (.ref C_BadNumber) [.ref C_BadRow, .ref C_BadText] = some false := by
    simp [PySem.W.kitAny, gm.kit_BadNumber_BadRow, gm.kit_BadNumber_BadText]
  exact ws_ret (ev_andV (ev_isX rfl ev_obj rfl gm.BadNumber_e gm.kit_BadNumber_BadNumber) fun _ => ev_andV (ev_isX rfl ev_ty rfl gm.BadNumber_e gm.kit_BadNumber_VE) fun _ => ev_notV (ev_isXT2 rfl (ea_cons ev_obj (ea_cons ev_obj ea_nil)) rfl rfl gm.BadNumber_e hk)) p
def P_rr : PrD := fun ds R _ => ∃ n d : Int, ds = [.int n, .int d] ∧ n.natAbs < 2 ^ 8000 ∧ d.natAbs < 2 ^ 8000 ∧ R (.im (.bl true))
theorem ok_rr (F : Df K mg "_law_ratio_right" s_law_ratio_right ["n", "d"]) (gm : Gm K mg C_Fault C_BadNumber C_BadRow C_BadText) (G_ratio : FnG P w K mg base (L2N.CX P w) 1 "ratio" ["n", "d"] (spD K (P_rat C_BadNumber))) (G_law_is : FnG P w K mg base CX0 2 "_law_is" ["actual", "top", "bottom"] (spD K P_is)) (G_law_is_bad_number : FnGE P w K mg base 1 "_law_is_bad_number" ["e"] (fun a c d => spD K (P_bad C_BadNumber a c d))) : FnG P w K mg base CX0 3 "_law_ratio_right" ["n", "d"] (spD K P_rr) := by
  refine F.ok (k := 2) sc_law_ratio_right (fun ds R Z ⟨a, b, e, _⟩ => by rw [e] <;> rfl) (fun f cdv A outer s H E hr => ?_)
  refine ⟨_,
    (pss_cons (ps_tryN (i := 2) rfl rfl sc_law_ratio_right.nd rfl rfl ⟨rfl, by decide, .inl gm.Fault_v⟩ takesN0 (fun W pn xe tk pw => (pss_one (sv 3 sc_law_ratio_right.nd (pe_gX G_ratio hr.le tk (pa_cons (pv 0) (pa_cons (pv 1) pa_nil)))))) (fun a oe cls d pn hz hf => (pss_one (ps_ret (pe_and (pe_cmpR (kEq K hr.units) (pv 1) pe_int (nomark _)) (pe_one (pe_hE G_law_is_bad_number (roomS hr) List.mem_cons_self rfl hz hf (pa_cons (pv 2) pa_nil))))))))
    (pss_one (ps_ret (pe_and (pe_cmpR (kNe K hr.units) (pv 1) pe_int (nomark _)) (pe_one (pe_g G_law_is hr.le pass0 (pa_cons (pv 3) (pa_cons (pv 0) (pa_cons (pv 1) pa_nil))))))))), fun ds R Z p => ?_⟩
  obtain ⟨n, d, rfl, hn, hd, p⟩ := p
  refine ws_to (ρ' := [.im (.int n), .im (.int d), .no, .no]) rfl ?_
  walk_at "go"
  refine ws_seq (ws_tryN (Pc := fun ρ' z => d = 0 ∧ ρ' = [.im (.int n), .im (.int d), .no, .no] ∧ z = xBadNumber C_BadNumber) (fun W => ?_) ?_)
  · refine ws_asgX (ea_cons (ev_var rfl) (ea_cons (ev_var rfl) ea_nil)) (by simp) ⟨n, d, rfl, B9 hd (by decide), fun h0 => ?_, fun h0 => ⟨h0, rfl, rfl⟩⟩
    show Ws K _ _ (List.set _ _ _) _
    dsimp only [List.set]
    refine ws_ret (d := .bl true) ((ev_andV (ev_op (ev_var rfl) ev_int rv_ne) fun _ => ev_call (ea_cons (ev_var rfl) (ea_cons (ev_var rfl) (ea_cons (ev_var rfl) ea_nil))) (pr_is (norm_is h0 hn hd) (by decide) (W2 hn (by decide)) (W2 hd (by decide)))).is ?_) p
    simp [h0]
  · rintro ρ' z ⟨h0, rfl, rfl⟩
    refine ⟨gm.BadNumber_m, fun a od => ?_⟩
    dsimp only [xBadNumber, List.set]
    refine ws_ret (d := .bl true) ((ev_andV (ev_op (ev_var rfl) ev_int rv_eq) fun _ => ev_call (ea_cons (ev_var rfl) ea_nil) ⟨_, _, rfl, rfl, rfl⟩).is ?_) p
    simp [h0]
def P_or : PrD := fun ds R _ => ∃ x y, Two ds x y ∧ R (.im (.bl true))
theorem ok_or (F : Df K mg "_law_over_right" s_law_over_right ["first", "second"]) (gm : Gm K mg C_Fault C_BadNumber C_BadRow C_BadText) (G_over : FnG P w K mg base (L2N.CX P w) 2 "over" ["first", "second"] (spD K (P_over C_BadNumber))) (G_law_is : FnG P w K mg base CX0 2 "_law_is" ["actual", "top", "bottom"] (spD K P_is)) (G_law_is_bad_number : FnGE P w K mg base 1 "_law_is_bad_number" ["e"] (fun a c d => spD K (P_bad C_BadNumber a c d))) : FnG P w K mg base CX0 3 "_law_over_right" ["first", "second"] (spD K P_or) := by
  refine F.ok (k := 2) sc_law_over_right (fun ds R Z ⟨x, y, e, _⟩ => by rw [e.1] <;> rfl) (fun f cdv A outer s H E hr => ?_)
  refine ⟨_,
    (pss_cons (ps_tryN (i := 2) rfl rfl sc_law_over_right.nd rfl rfl ⟨rfl, by decide, .inl gm.Fault_v⟩ takesN0 (fun W pn xe tk pw => (pss_one (sv 3 sc_law_over_right.nd (pe_gX G_over hr.le tk (pa_cons (pv 0) (pa_cons (pv 1) pa_nil)))))) (fun a oe cls d pn hz hf => (pss_one (ps_ret (pe_and (pe_cmpR (kEq K hr.units) (ix K (pv 1) pe_int) pe_int (nomark _)) (pe_one (pe_hE G_law_is_bad_number (roomS hr) List.mem_cons_self rfl hz hf (pa_cons (pv 2) pa_nil))))))))
    (pss_one (ps_ret (pe_and (pe_cmpR (kNe K hr.units) (ix K (pv 1) pe_int) pe_int (nomark _)) (pe_one (pe_g G_law_is hr.le pass0 (pa_cons (pv 3) (pa_cons (pe_op opMul (ix K (pv 0) pe_int) (ix K (pv 1) pe_int)) (pa_cons (pe_op opMul (ix K (pv 0) pe_int) (ix K (pv 1) pe_int)) pa_nil))))))))), fun ds R Z p => ?_⟩
  obtain ⟨x, y, ⟨rfl, hx, hy⟩, p⟩ := p
  refine ws_to (ρ' := [.im (numD x), .im (numD y), .no, .no]) rfl ?_
  walk_at "go"
  have hx1 := hx.1
  refine ws_seq (ws_tryN (Pc := fun ρ' z => y.1 = 0 ∧ ρ' = [.im (numD x), .im (numD y), .no, .no] ∧ z = xBadNumber C_BadNumber) (fun W => ?_) ?_)
  · refine ws_asgX (ea_cons (ev_var rfl) (ea_cons (ev_var rfl) ea_nil)) (by simp) ⟨x, y, ⟨rfl, hx, hy⟩, fun h0 => ?_, fun h0 => ⟨h0, rfl, rfl⟩⟩
    show Ws K _ _ (List.set _ _ _) _
    dsimp only [List.set]
    have b1 := wide_lt hx.2.1 hy.2.2
    have b2 := wide_lt hx.2.2 hy.2.1
    refine ws_ret (d := .bl true) ((ev_andV (ev_op (ev_n1 rfl) ev_int rv_ne) fun _ => ev_call (ea_cons (ev_var rfl) (ea_cons (ev_m (ev_n1 rfl) (ev_n2 rfl) hx.2.1 hy.2.2) (ea_cons (ev_m (ev_n2 rfl) (ev_n1 rfl) hx.2.2 hy.2.1) ea_nil))) (pr_is (norm_is (Int.mul_ne_zero (by omega) h0) b1 b2) (by decide) (W2 b1 (by decide)) (W2 b2 (by decide)))).is ?_) p
    simp [h0]
  · rintro ρ' z ⟨h0, rfl, rfl⟩
    refine ⟨gm.BadNumber_m, fun a od => ?_⟩
    dsimp only [xBadNumber, List.set]
    refine ws_ret (d := .bl true) ((ev_andV (ev_op (ev_n1 rfl) ev_int rv_eq) fun _ => ev_call (ea_cons (ev_var rfl) ea_nil) ⟨_, _, rfl, rfl, rfl⟩).is ?_) p
    simp [h0]
/-! ### _law_pair_right -/
def P_pr : PrD := fun ds R _ => ∃ x y, Two ds x y ∧ R (.im (.bl true))
theorem ok_pr (F : Df K mg "_law_pair_right" s_law_pair_right ["first", "second"]) (gm : Gm K mg C_Fault C_BadNumber C_BadRow C_BadText) (G_law_is : FnG P w K mg base CX0 2 "_law_is" ["actual", "top", "bottom"] (spD K P_is)) (G_plus : FnV P w K mg base CX0 2 "plus" (spV K P_plus)) (G_times : FnV P w K mg base CX0 2 "times" (spV K P_times)) (G_minus : FnG P w K mg base CX0 2 "minus" ["first", "second"] (spD K P_minus)) (G_less : FnG P w K mg base CX0 1 "less" ["first", "second"] (spD K P_less)) (G_law_over_right : FnG P w K mg base CX0 3 "_law_over_right" ["first", "second"] (spD K P_or)) : FnG P w K mg base CX0 4 "_law_pair_right" ["first", "second"] (spD K P_pr) := by
  refine F.ok (k := 3) sc_law_pair_right (fun ds R Z ⟨x, y, e, _⟩ => by rw [e.1] <;> rfl) (fun f cdv A outer s H E hr => ?_)
  refine ⟨_,
    (pss_cons (sv 2 sc_law_pair_right.nd (pe_op opMul (ix K (pv 0) pe_int) (ix K (pv 1) pe_int)))
    (pss_cons (sv 3 sc_law_pair_right.nd (pe_op opMul (ix K (pv 1) pe_int) (ix K (pv 0) pe_int)))
    (pss_cons (sv 4 sc_law_pair_right.nd (pe_op opMul (ix K (pv 0) pe_int) (ix K (pv 1) pe_int)))
    (pss_cons (ps_if (pt_not (pt_val (pe_g G_law_is hr.le pass0 (pa_cons (pe_gR G_plus hr.le pass0 (pa_cons (pv 0) (pa_cons (pv 1) pa_nil))) (pa_cons (pe_op (kAdd K) (pv 2) (pv 3)) (pa_cons (pv 4) pa_nil)))))) (pss_one (ps_ret pe_bl)) pss_nil)
    (pss_cons (ps_if (pt_not (pt_val (pe_g G_law_is hr.le pass0 (pa_cons (pe_gR G_times hr.le pass0 (pa_cons (pv 0) (pa_cons (pv 1) pa_nil))) (pa_cons (pe_op opMul (ix K (pv 0) pe_int) (ix K (pv 1) pe_int)) (pa_cons (pv 4) pa_nil)))))) (pss_one (ps_ret pe_bl)) pss_nil)
    (pss_cons (ps_if (pt_not (pt_val (pe_g G_law_is hr.le pass0 (pa_cons (pe_g G_minus hr.le pass0 (pa_cons (pv 0) (pa_cons (pv 1) pa_nil))) (pa_cons (pe_op opSub (pv 2) (pv 3)) (pa_cons (pv 4) pa_nil)))))) (pss_one (ps_ret pe_bl)) pss_nil)
    (pss_cons (sv 5 sc_law_pair_right.nd (pe_g G_less hr.le pass0 (pa_cons (pv 0) (pa_cons (pv 1) pa_nil))))
    (pss_cons (ps_if (PW.pt (pw_or (pt_not (pt_val (cb (kIsi K) gm.isinstance (pa_cons (pv 5) (pa_cons (pe_bltn (v := .ty "bool") (by rfl) gm.bool (by decide +kernel) rfl) pa_nil))))) (pw_or1 (pt_cmpR (kNe K hr.units) (pv 5) (pe_cmpR opLt (pv 2) (pv 3) (nomark _)) (nomark _))))) (pss_one (ps_ret pe_bl)) pss_nil)
    (pss_one (ps_ret (pe_g G_law_over_right hr.le pass0 (pa_cons (pv 0) (pa_cons (pv 1) pa_nil))))))))))))), fun ds R Z p => ?_⟩
  obtain ⟨x, y, ⟨rfl, hx, hy⟩, p⟩ := p
  refine ws_to (ρ' := [.im (numD x), .im (numD y), .no, .no, .no, .no]) rfl ?_
  walk_at "go"
  have b1 := wide_lt hx.2.1 hy.2.2
  have b2 := wide_lt hy.2.1 hx.2.2
  have b3 := wide_lt hx.2.2 hy.2.2
  have b4 := wide_lt hx.2.1 hy.2.1
  have bs := bits_add b1 b2
  have bm : (x.1 * y.2 - y.1 * x.2).natAbs < 2 ^ (220 + 220 + 1) := by
    rw [Int.sub_eq_add_neg]
    exact bits_add b1 (by rw [Int.natAbs_neg]; exact b2)
  refine wq_asg (ev_m (ev_n1 rfl) (ev_n2 rfl) hx.2.1 hy.2.2) ?_
  dsimp only [List.set]
  refine wq_asg (ev_m (ev_n1 rfl) (ev_n2 rfl) hy.2.1 hx.2.2) ?_
  dsimp only [List.set]
  refine wq_asg (ev_m (ev_n2 rfl) (ev_n2 rfl) hx.2.2 hy.2.2) ?_
  dsimp only [List.set]
  have hl : ∀ z ∈ [x, y], NumOk 220 z := fun z hz => by
    simp only [List.mem_cons, List.not_mem_nil, or_false] at hz
    rcases hz with rfl | rfl
    · exact hx
    · exact hy
  have ip : IsN 443 (plusN [x, y]) (x.1 * y.2 + y.1 * x.2) (x.2 * y.2) := by
    have := plus_is hl
    simpa [sumS] using this
  have it : IsN 441 (timesN [x, y]) (x.1 * y.1) (x.2 * y.2) := by
    have := times_is hl
    simpa [prodS] using this
  have im : IsN 441 (minusN x y) (x.1 * y.2 - y.1 * x.2) (x.2 * y.2) := mk_is (Int.mul_pos hx.1 hy.1) bm (Nat.lt_trans b3 (Nat.pow_lt_pow_right (by decide) (by decide))) rfl
  refine wq_noif (et_not (et_B (ev_call (ea_cons (ev_callV (ds := [x, y].map numD) (ea_cons (ev_var rfl) (ea_cons (ev_var rfl) ea_nil)) (by simp) ⟨[x, y], 220, rfl, hl, by show 1 + 2 * _ ≤ 8900; decide, by decide, rfl⟩) (ea_cons (ev_op (ev_var rfl) (ev_var rfl) rv_add) (ea_cons (ev_var rfl) ea_nil))) (pr_is ip (by decide) (W2 bs (by decide)) (W2 b3 (by decide)))))) rfl ?_
  refine wq_noif (et_not (et_B (ev_call (ea_cons (ev_callV (ds := [x, y].map numD) (ea_cons (ev_var rfl) (ea_cons (ev_var rfl) ea_nil)) (by simp) ⟨[x, y], 220, rfl, hl, by show 1 + 2 * _ ≤ 8900; decide, by decide, rfl⟩) (ea_cons (ev_m (ev_n1 rfl) (ev_n1 rfl) hx.2.1 hy.2.1) (ea_cons (ev_var rfl) ea_nil))) (pr_is it (by decide) (W2 b4 (by decide)) (W2 b3 (by decide)))))) rfl ?_
  refine wq_noif (et_not (et_B (ev_call (ea_cons (ev_call (z := numD (minusN x y)) (ea_cons (ev_var rfl) (ea_cons (ev_var rfl) ea_nil)) ⟨x, y, ⟨rfl, hx, hy⟩, rfl⟩) (ea_cons (ev_op (ev_var rfl) (ev_var rfl) rv_sub) (ea_cons (ev_var rfl) ea_nil))) (pr_is im (by decide) (W2 bm (by decide)) (W2 b3 (by decide)))))) rfl ?_
  refine wq_asg (d := .bl (decide (x.1 * y.2 < y.1 * x.2))) (ev_call (ea_cons (ev_var rfl) (ea_cons (ev_var rfl) ea_nil)) ⟨x, y, ⟨rfl, hx, hy⟩, rfl⟩) ?_
  dsimp only [List.set]
  refine wq_noif (et_or (et_not (et_B (ev_cb (ea_cons (ev_var rfl) (ea_cons ev_ty ea_nil)) isi_bl_bool))) fun _ => et_test (ev_op (ev_var rfl) (ev_op (ev_var rfl) (ev_var rfl) rv_lt) (rv_neDD (n := 1) rfl (by decide)))) rfl ?_
  exact ws_ret (ev_call (z := .bl true) (ea_cons (ev_var rfl) (ea_cons (ev_var rfl) ea_nil)) ⟨x, y, ⟨rfl, hx, hy⟩, rfl⟩) p
end
end FS
set_option Elab.async false
set_option linter.all false
set_option maxRecDepth 100000
set_option maxHeartbeats 4000000
set_option exponentiation.threshold 20000
namespace FS
open PySem PySem.Spec PyProof.Rows L2

local macro_rules | `(tactic| walk_at "side") => `(tactic| first | assumption | omega | decide)
local macro_rules | `(tactic| walk_at "hv") => `(tactic| (intro i hi; simp at hi; first | (subst hi; rfl) | (rcases hi with rfl | rfl <;> rfl) | (rcases hi with rfl | rfl | rfl <;> rfl)))
local macro_rules | `(tactic| walk_at "pr") => `(tactic| fail "no promise")
local macro_rules | `(tactic| walk_at "rv") => `(tactic| first
  | (with_reducible exact rv_add) | (with_reducible exact rv_sub) | (with_reducible exact rv_lt) | (with_reducible exact rv_le) | (with_reducible exact rv_gt) | (with_reducible exact rv_ge) | (with_reducible exact rv_eq) | (with_reducible exact rv_ne)
  | (with_reducible exact rv_is) | (with_reducible exact rv_isnot)
  | ((with_reducible apply rv_div); first | assumption | exact cdiv_small (by omega) (by omega))
  | ((with_reducible apply rv_mod); first | assumption | omega)
  | ((with_reducible apply rv_mul); first | assumption | exact cmul_left (by omega) | exact cmul_right (by omega))
  | ((with_reducible apply rv_mulW); assumption)
  | (with_reducible exact rv_p8) | (with_reducible exact rv_p18) | (with_reducible exact rv_p40) | (with_reducible exact rv_p20) | (with_reducible exact rv_p6) | (with_reducible exact rv_p7) | (with_reducible exact rv_p12) | (with_reducible exact rv_p25) | (with_reducible exact rv_p30) | (with_reducible exact rv_p39) | (with_reducible exact rv_p60)
  | ((with_reducible apply rv_ixxL); first | assumption | exact at_getD (by omega) (by omega) | exact at_nat rfl)
  | ((with_reducible apply rv_ixxT); first | assumption | exact at_getD (by omega) (by omega) | exact at_nat rfl)
  | ((with_reducible apply rv_ixxC); first | assumption)
  | (with_reducible exact ru_neg))
local macro_rules | `(tactic| walk_at "isi") => `(tactic| first | (with_reducible exact isi_non_int) | (with_reducible exact isi_non_bool) | (with_reducible exact isi_non_str) | (with_reducible exact isi_non_tuple) | (with_reducible exact isi_non_list) | (with_reducible exact isi_bl_int) | (with_reducible exact isi_bl_bool) | (with_reducible exact isi_bl_str) | (with_reducible exact isi_bl_tuple) | (with_reducible exact isi_bl_list) | (with_reducible exact isi_int_int) | (with_reducible exact isi_int_bool) | (with_reducible exact isi_int_str) | (with_reducible exact isi_int_tuple) | (with_reducible exact isi_int_list) | (with_reducible exact isi_str_int) | (with_reducible exact isi_str_bool) | (with_reducible exact isi_str_str) | (with_reducible exact isi_str_tuple) | (with_reducible exact isi_str_list) | (with_reducible exact isi_tup_int) | (with_reducible exact isi_tup_bool) | (with_reducible exact isi_tup_str) | (with_reducible exact isi_tup_tuple) | (with_reducible exact isi_tup_list) | (with_reducible exact isi_lst_int) | (with_reducible exact isi_lst_bool) | (with_reducible exact isi_lst_str) | (with_reducible exact isi_lst_tuple) | (with_reducible exact isi_lst_list))
local macro_rules | `(tactic| walk_at "rc") => `(tactic| first
  | walk_at "isi"
  | (with_reducible exact rc_len) | (with_reducible exact rc_lent) | (with_reducible exact rc_lenc) | (with_reducible exact rc_toint) | (with_reducible exact rc_absv) | (with_reducible exact rc_gcd)
  | ((with_reducible apply rc_lcm); assumption)
  | ((with_reducible apply rc_isi); (focus rfl); assumption)
  | (with_reducible exact rco_list) | (with_reducible exact rco_listT))
local macro_rules | `(tactic| walk_at "ev") => `(tactic| first
  | (with_reducible exact ev_int) | (with_reducible exact ev_bl) | (with_reducible exact ev_non) | (with_reducible exact ev_str) | (with_reducible exact ev_ty)
  | ((with_reducible apply ev_var); rfl)
  | ((with_reducible apply ev_lenOw); rfl)
  | ((with_reducible apply ev_op) <;> first | walk_at "ev" | walk_at "rv")
  | ((with_reducible apply ev_un) <;> first | walk_at "ev" | walk_at "rv")
  | ((with_reducible apply ev_cb) <;> first | walk_at "ev" | walk_at "rc")
  | ((with_reducible apply ev_call) <;> first | walk_at "ev" | walk_at "pr")
  | ((with_reducible apply ev_tup) <;> first | walk_at "ev" | (simp; done))
  | (with_reducible exact ea_nil)
  | ((with_reducible apply ea_cons) <;> walk_at "ev")
  | ((with_reducible apply et_test); walk_at "ev")
  | ((with_reducible apply et_B); walk_at "ev")
  | ((with_reducible apply et_not); walk_at "ev")
  | ((with_reducible apply et_or); (walk_at "ev"); intro _; walk_at "ev")
  | ((with_reducible apply et_and); (walk_at "ev"); intro _; walk_at "ev")
  | ((with_reducible apply ev_orV); (walk_at "ev"); intro _; walk_at "ev")
  | ((with_reducible apply ev_andV); (walk_at "ev"); intro _; walk_at "ev")
  | ((with_reducible apply ev_notV); walk_at "ev")
  | (with_reducible exact et_yes)
  | ((with_reducible apply evo_lst) <;> first | walk_at "ev" | (simp; done))
  | ((with_reducible apply ev_opO) <;> first | walk_at "ev" | ((with_reducible apply rvo_add); simp; omega))
  | ((with_reducible apply ev_cbO) <;> first | walk_at "ev" | walk_at "rc")
  | ((with_reducible apply ev_callO) <;> first | walk_at "ev" | walk_at "pr")
  | ((with_reducible apply ec_call) <;> first | walk_at "ev" | walk_at "pr")
  | ((with_reducible apply ec_tup) <;> first | walk_at "ev" | (simp; done))
  | ((with_reducible apply ec_lst) <;> first | walk_at "ev" | (simp; done))
  | (with_reducible exact eca_nil)
  | ((with_reducible apply eca_cons) <;> walk_at "ev")
  | ((with_reducible apply ec_sc); (walk_at "ev"); rfl)
  | ((with_reducible apply ec_ow); (walk_at "ev"); first | assumption | (intro d hd; simp at hd; done))
  | ((with_reducible apply ec_fz); walk_at "ev")
  | ((with_reducible apply ev_fz); walk_at "ev"))

local macro_rules | `(tactic| walk_at "im") => `(tactic| ((with_reducible apply wq_asg); walk_at "ev"; (try dsimp only [List.set, Int.reduceToNat])))
local macro_rules | `(tactic| walk_at "ow") => `(tactic| ((with_reducible apply wq_asgO); walk_at "ev"; (focus (first | decide | (simp; done))); (try dsimp only [List.set, Int.reduceToNat])))
local macro_rules | `(tactic| walk_at "cl") => `(tactic| ((with_reducible apply wq_asgC); walk_at "ev"; (focus (first | decide | (simp; done))); (try dsimp only [List.set, Int.reduceToNat])))
local macro_rules | `(tactic| walk_at "if") => `(tactic| ((first | (with_reducible apply wq_when) | (with_reducible apply wq_if) | (with_reducible apply ws_if)); walk_at "ev"; (try dsimp only [Int.reduceToNat])))
local macro_rules | `(tactic| walk_at "ret") => `(tactic| ((with_reducible apply ws_ret); walk_at "ev"))
local macro_rules | `(tactic| walk_at "go") => `(tactic| (try dsimp only [cxOf, L2.Cx.nox, L2.Cx.wish, L2.Cx.blk]))
local macro_rules | `(tactic| walk_at "ints") => `(tactic| (refine ev_fz (evo_lst ?_ (by decide)); repeat (first | exact ea_nil | refine ea_cons ev_int ?_)))

/-! ### _law_list, _law_added, _law_multiplied -/
def LENS : List Nat := [1, 2, 3, 4, 5, 6, 7, 8, 13, 24, 60]
structure ListOk (l : List Num) : Prop where
  len : l.length ∈ LENS
  ok : ∀ x ∈ l, NumOk 133 x
theorem lens_bd {n : Nat} (h : n ∈ LENS) : 1 ≤ n ∧ n ≤ 60 := by
  have : ∀ n ∈ LENS, 1 ≤ n ∧ n ≤ 60 := by decide
  exact this n h
theorem neg_ok {b : Nat} {x : Num} (h : NumOk b x) : NumOk b (-x.1, x.2) := ⟨h.1, by show (-x.1).natAbs < _; rw [Int.natAbs_neg]; exact h.2.1, h.2.2⟩
theorem ws_mid2 {K : PySem.W.Frag} {E : L2.WX} {t1 t2 u : TS} {ρ : Rho} {P : Pst} (I : Rho → Prop) (h : Ws K E (tSeq t1 t2) ρ { P with nx := I }) (h2 : ∀ ρ', I ρ' → Ws K E u ρ' P) : Ws K E (tSeq t1 (tSeq t2 u)) ρ P :=
  (ws_mid I h h2 : Ws K E (tSeq (tSeq t1 t2) u) ρ P)
/-- r[k], r[k + 1], .. -/
def tIxs (K : PySem.W.Frag) (i : Nat) : Nat → Nat → TA
  | 0, _ => tNil
  | n + 1, k => tCons (tOp (rIx K) (tVar i) (tC (.int (k : Int)))) (tIxs K i n (k + 1))
theorem ea_ixs {K : PySem.W.Frag} {ρ : Rho} {i : Nat} {l : List D} (e : ρ[i]? = some (.im (.lst l))) : ∀ n k, k + n ≤ l.length → EvA K (tIxs K i n k) ρ ((l.drop k).take n)
  | 0, k, h => by
    rw [List.take_zero]
    exact ea_nil
  | n + 1, k, h => by
    have hk : k < l.length := by omega
    rw [List.drop_eq_getElem_cons hk, List.take_succ_cons]
    exact ea_cons (ev_op (ev_var e) ev_int (rv_ixxL (at_nat (List.getElem?_eq_getElem hk)))) (ea_ixs e n (k + 1) (by omega))
theorem ea_all {K : PySem.W.Frag} {ρ : Rho} {i n : Nat} {l : List D} (e : ρ[i]? = some (.im (.lst l))) (h : l.length = n) : EvA K (tIxs K i n 0) ρ l := by
  have := ea_ixs (K := K) e n 0 (by omega)
  rwa [List.drop_zero, List.take_of_length_le (by omega)] at this
def szS : List Int := [11, 4, 4, 60, 3, 4, 2, 8]
section
variable {P : Program} {w : World} {K : PySem.W.Frag} {mg : Str → Option Value} {base : Heap} {C_Fault C_BadNumber C_BadRow C_BadText : Addr}
def P_list : PrD := fun ds R _ => ∃ (ns sh : List Int), ds = [.scr ns, intsD sh] ∧ sh.length = 8 ∧ (∀ i, i < 8 → 0 ≤ sh.getD i 0 ∧ sh.getD i 0 < szS.getD i 0) ∧ ∀ l : List Num, ListOk l → R (.im (.lst (l.map numD)))
theorem ok_list (F : Df K mg "_law_list" s_law_list ["script", "shape"]) (gm : Gm K mg C_Fault C_BadNumber C_BadRow C_BadText) (G_law_number : FnG P w K mg base CX0 3 "_law_number" ["cell"] (spD K P_num)) (G_law_cell : FnG P w K mg base CX0 1 "_law_cell" ["script", "k"] (spD K P_cell)) : FnG P w K mg base CX0 4 "_law_list" ["script", "shape"] (spD K P_list) := by
  refine F.ok (k := 3) sc_law_list (fun ds R Z ⟨x, y, e, _⟩ => by rw [e] <;> rfl) (fun f cdv A outer s H E hr => ?_)
  refine ⟨_,
    (pss_cons (sv 2 sc_law_list.nd (ix K (pe_lst (pa_cons pe_int (pa_cons pe_int (pa_cons pe_int (pa_cons pe_int (pa_cons pe_int (pa_cons pe_int (pa_cons pe_int (pa_cons pe_int (pa_cons pe_int (pa_cons pe_int (pa_cons pe_int pa_nil)))))))))))) (ix K (pv 1) pe_int)))
    (pss_cons (sv 3 sc_law_list.nd (pe_lc (own := [("k", 4)]) rfl sc_law_list.nd (pi_range1 (by rfl) gm.range (pa_cons (pv 2) pa_nil)) (blkOk_by (N := N_law_list) (sc := defScope s_law_list) (by decide +kernel)) (fun _ _ _ _ _ => (gn 4 sc_law_list.nd)) (fun _ _ _ _ _ => pts_nil) (fun _ _ _ _ _ => (pe_g G_law_number hr.le pass0 (pa_cons (pe_g G_law_cell hr.le pass0 (pa_cons (pv 0) (pa_cons (pe_op (kAdd K) pe_int (pv 4)) pa_nil))) pa_nil)))))
    (pss_cons (ps_if (pt_cmpR (kEq K hr.units) (ix K (pv 1) pe_int) pe_int (nomark _)) (pss_cons (sv 5 sc_law_list.nd (pe_op opDiv (pv 2) pe_int)) (pss_one (sv 3 sc_law_list.nd (pe_op (kAdd K) (pe_slice sl_list (pv 3) po_none (po_some (pe_op opSub (pv 2) (pv 5)))) (pe_lc (own := [("k", 4)]) rfl sc_law_list.nd (pi_range1 (by rfl) gm.range (pa_cons (pv 5) pa_nil)) (blkOk_by (N := N_law_list) (sc := defScope s_law_list) (by decide +kernel)) (fun _ _ _ _ _ => (gn 4 sc_law_list.nd)) (fun _ _ _ _ _ => pts_nil) (fun _ _ _ _ _ => (pe_tup (pa_cons (pe_un unNeg (ix K (ix K (pv 3) (pv 4)) pe_int)) (pa_cons (ix K (ix K (pv 3) (pv 4)) pe_int) pa_nil))))))))) pss_nil)
    (pss_cons (ps_if (pt_cmpR (kEq K hr.units) (ix K (pv 1) pe_int) pe_int (nomark _)) (pss_one (ps_asg (pe_tup (pa_cons pe_int (pa_cons pe_int pa_nil))) (pg_sub (pv 3) (pe_op opMod (ct cInt gm.int (pa_cons (ix K (pv 1) pe_int) pa_nil)) (pv 2)) set_list))) pss_nil)
    (pss_one (ps_ret (pv 3))))))), fun ds R Z p => ?_⟩
  obtain ⟨ns, sh, rfl, hl, hb, p⟩ := p
  refine ws_to (ρ' := [.im (.scr ns), .im (intsD sh), .no, .no, .no, .no]) rfl ?_
  walk_at "go"
  have hat : ∀ i : Nat, i < 8 → atI (sh.map D.int) (i : Int) = some (.int (sh.getD i 0)) := fun i hi => at_ints (by omega)
  have b0 := hb 0 (by decide)
  rw [show szS.getD 0 0 = 11 from rfl] at b0
  obtain ⟨m, hm, hmi⟩ : ∃ m : Nat, m ∈ LENS ∧ atI ((LENS.map Int.ofNat).map D.int) (sh.getD 0 0) = some (.int (m : Int)) := by
    have hk : (sh.getD 0 0).toNat < LENS.length := by show _ < 11; omega
    refine ⟨LENS[(sh.getD 0 0).toNat], List.getElem_mem _, ?_⟩
    have := at_map (f := D.int) (l := LENS.map Int.ofNat) (k := (sh.getD 0 0).toNat) (x := (LENS[(sh.getD 0 0).toNat] : Int)) (by rw [List.getElem?_map, List.getElem?_eq_getElem hk] <;> rfl)
    rwa [show (((sh.getD 0 0).toNat : Nat) : Int) = sh.getD 0 0 by omega] at this
  have hmb := lens_bd hm
  refine wq_asg (d := .int (m : Int)) (ev_op ((ev_fz (evo_lst (ea_cons ev_int (ea_cons ev_int (ea_cons ev_int (ea_cons ev_int (ea_cons ev_int (ea_cons ev_int (ea_cons ev_int (ea_cons ev_int (ea_cons ev_int (ea_cons ev_int (ea_cons ev_int ea_nil))))))))))) (by simp))).is (y := .lst ((LENS.map Int.ofNat).map D.int)) rfl) (ev_op (ev_var rfl) ev_int (rv_ixxL (hat 0 (by decide)))) (rv_ixxL hmi)) ?_
  dsimp only [List.set]
  have comp : EvO K (tLc (iRng1 (tCons (tVar 2) tNil)) (gName 4) tYes (tCall (spD K P_num) [] E0 (tCons (tCall (spD K P_cell) [] E0 (tCons (tVar 0) (tCons (tOp (rAddA K) (tC (.int 3)) (tVar 4)) tNil))) tNil)) [4]) [.im (.scr ns), .im (intsD sh), .im (.int (m : Int)), .no, .no, .no] (((List.range m).map fun k : Nat => numC (cell ns (3 + (k : Int)))).map numD) := by
    rw [List.map_map]
    refine lc_N (n := m) (fun k => numD (numC (cell ns (3 + (k : Int))))) (ea_cons (ev_var rfl) ea_nil) rfl (fun k hk => ?_) (by omega)
    dsimp only [List.set]
    exact ev_call (ea_cons (ev_call (ea_cons (ev_var rfl) (ea_cons (ev_op ev_int (ev_var rfl) rv_add) ea_nil)) (pr_cell (by omega))) ea_nil) pr_num
  have okl : ∀ x ∈ (List.range m).map (fun k : Nat => numC (cell ns (3 + (k : Int)))), NumOk 133 x := fun x hx => by
    obtain ⟨k, _, rfl⟩ := List.mem_map.mp hx
    exact numC_ok _
  have oll : ((List.range m).map fun k : Nat => numC (cell ns (3 + (k : Int)))).length = m := by rw [List.length_map, List.length_range]
  generalize ((List.range m).map fun k : Nat => numC (cell ns (3 + (k : Int)))) = l0 at comp okl oll
  refine ws_mid2 (fun ρ' => ∃ (l : List Num) (s4 s5 : Sl), ρ' = [.im (.scr ns), .im (intsD sh), .im (.int (m : Int)), .ow (l.map numD), s4, s5] ∧ l.length = m ∧ ∀ x ∈ l, NumOk 133 x) ?_ ?_
  · by_cases h1 : sh.getD 1 0 = 0
    · refine wq_asg (ev_fz comp) ?_
      dsimp only [List.set]
      refine ws_ifT (et_test (ev_op (ev_op (ev_var rfl) ev_int (rv_ixxL (hat 1 (by decide)))) ev_int rv_eq)) (by simp only [h1, decide_true]) ?_
      refine wq_asg (d := .int ((m / 2 : Nat) : Int)) ((ev_op (ev_var rfl) ev_int (rv_div (cdiv_small (by omega) (by omega)))).is (by rw [Int.natCast_ediv] <;> rfl)) ?_
      dsimp only [List.set]
      have hh : m / 2 ≤ m := Nat.div_le_self _ _
      have hset : ∀ k, k < m / 2 → atI (l0.map numD) (k : Int) = some (numD (l0.getD k (0, 1))) := fun k hk => at_map (by rw [List.getD_eq_getElem?_getD, List.getElem?_eq_getElem (by omega)] <;> rfl)
      refine ws_asgO (l := (l0.take (m - m / 2) ++ (List.range (m / 2)).map fun k => (-(l0.getD k (0, 1)).1, (l0.getD k (0, 1)).2)).map numD) ?_ (by simp) ⟨_, _, _, rfl, ?_, ?_⟩
      · rw [List.map_append]
        refine ev_opO (ev_fz (l := (l0.take (m - m / 2)).map numD) ?_) (ev_fz (l := ((List.range (m / 2)).map fun k => (-(l0.getD k (0, 1)).1, (l0.getD k (0, 1)).2)).map numD) ?_) (rvo_add (by rw [List.length_map, List.length_map, List.length_take, List.length_map, List.length_range]; omega))
        · rw [List.map_take]
          exact ev_slT (k := m - m / 2) (ev_var rfl) rfl ((ev_op (ev_var rfl) (ev_var rfl) rv_sub).is (by congr 1; omega))
        · rw [List.map_map]
          refine lc_N (n := m / 2) (fun k => numD (-(l0.getD k (0, 1)).1, (l0.getD k (0, 1)).2)) (ea_cons (ev_var rfl) ea_nil) rfl (fun k hk => ?_) (by omega)
          dsimp only [List.set]
          exact ev_tup (ea_cons (ev_un (ev_op (ev_op (ev_var rfl) (ev_var rfl) (rv_ixxL (hset k hk))) ev_int (rv_ixxT (at_nat (j := 0) rfl))) ru_neg) (ea_cons (ev_op (ev_op (ev_var rfl) (ev_var rfl) (rv_ixxL (hset k hk))) ev_int (rv_ixxT (at_nat (j := 1) rfl))) ea_nil)) (by simp)
      · rw [List.length_append, List.length_take, List.length_map, List.length_range]
        omega
      · intro x hx
        rcases List.mem_append.mp hx with h | h
        · exact okl x (List.mem_of_mem_take h)
        · obtain ⟨k, hk, rfl⟩ := List.mem_map.mp h
          have hk := List.mem_range.mp hk
          rw [List.getD_eq_getElem?_getD, List.getElem?_eq_getElem (by omega)]
          exact neg_ok (okl _ (List.getElem_mem _))
    · refine wq_asgO comp (by simp) ?_
      dsimp only [List.set]
      exact ws_ifF (et_test (ev_op (ev_op (ev_var rfl) ev_int (rv_ixxL (hat 1 (by decide)))) ev_int rv_eq)) (by simp only [h1, decide_false]) (ws_next ⟨l0, _, _, rfl, oll, okl⟩)
  rintro ρ' ⟨l, s4, s5, rfl, hlm, hlo⟩
  refine ws_mid (fun ρ' => ∃ (l : List Num) (s4 s5 : Sl), ρ' = [.im (.scr ns), .im (intsD sh), .im (.int (m : Int)), .ow (l.map numD), s4, s5] ∧ l.length = m ∧ ∀ x ∈ l, NumOk 133 x) ?_ ?_
  · refine ws_if (et_test (ev_op (ev_op (ev_var rfl) ev_int (rv_ixxL (hat 2 (by decide)))) ev_int rv_eq)) (fun _ => ?_) (fun _ => ws_next ⟨l, _, _, rfl, hlm, hlo⟩)
    have hmod : 0 ≤ sh.getD 3 0 % (m : Int) ∧ sh.getD 3 0 % (m : Int) < (m : Int) := ⟨Int.emod_nonneg _ (by omega), Int.emod_lt_of_pos _ (by omega)⟩
    refine ws_setL (i := 3) (j := (sh.getD 3 0 % (m : Int)).toNat) (d := numD (0, 1)) rfl (ev_tup (ea_cons ev_int (ea_cons ev_int ea_nil)) (by simp)) (ev_op (ev_cb (ea_cons (ev_op (ev_var rfl) ev_int (rv_ixxL (hat 3 (by decide)))) ea_nil) rc_toint) (ev_var rfl) (rv_mod (by omega))) ?_ ⟨l.set (sh.getD 3 0 % (m : Int)).toNat (0, 1), s4, s5, ?_, by rw [List.length_set]; exact hlm, fun x hx => ?_⟩
    · rw [List.length_map, hlm]
      unfold ixN
      rw [if_pos hmod.1, if_pos hmod.2]
    · dsimp only [List.set]
      rw [List.map_set]
    · rcases List.mem_or_eq_of_mem_set hx with h | h
      · exact hlo x h
      · rw [h]
        exact ⟨by decide, by decide, by decide⟩
  · rintro ρ' ⟨l, s4, s5, rfl, hlm, hlo⟩
    refine ws_fz (i := 3) rfl ?_
    dsimp only [List.set]
    exact ws_ret (ev_var rfl) (p l ⟨by rw [hlm]; exact hm, hlo⟩)
def P_added : PrD := fun ds R _ => ∃ l : List Num, ds = [.lst (l.map numD)] ∧ ListOk l ∧ R (.im (numD (plusN l)))
theorem ok_added (F : Df K mg "_law_added" s_law_added ["r"]) (gm : Gm K mg C_Fault C_BadNumber C_BadRow C_BadText) (G_plus : FnV P w K mg base CX0 2 "plus" (spV K P_plus)) : FnG P w K mg base CX0 3 "_law_added" ["r"] (spD K P_added) := by
  refine F.ok (k := 2) sc_law_added (fun ds R Z ⟨x, e, _⟩ => by rw [e] <;> rfl) (fun f cdv A outer s H E hr => ?_)
  refine ⟨_,
    (pss_cons (ps_if (pt_cmpR (kEq K hr.units) (cb (kLen K) gm.len (pa_cons (pv 0) pa_nil)) pe_int (nomark _)) (pss_one (ps_ret (pe_gR G_plus hr.le pass0 (pa_cons (ix K (pv 0) pe_int) pa_nil)))) pss_nil)
    (pss_cons (ps_if (pt_cmpR (kEq K hr.units) (cb (kLen K) gm.len (pa_cons (pv 0) pa_nil)) pe_int (nomark _)) (pss_one (ps_ret (pe_gR G_plus hr.le pass0 (pa_cons (ix K (pv 0) pe_int) (pa_cons (ix K (pv 0) pe_int) pa_nil))))) pss_nil)
    (pss_cons (ps_if (pt_cmpR (kEq K hr.units) (cb (kLen K) gm.len (pa_cons (pv 0) pa_nil)) pe_int (nomark _)) (pss_one (ps_ret (pe_gR G_plus hr.le pass0 (pa_cons (ix K (pv 0) pe_int) (pa_cons (ix K (pv 0) pe_int) (pa_cons (ix K (pv 0) pe_int) pa_nil)))))) pss_nil)
    (pss_cons (ps_if (pt_cmpR (kEq K hr.units) (cb (kLen K) gm.len (pa_cons (pv 0) pa_nil)) pe_int (nomark _)) (pss_one (ps_ret (pe_gR G_plus hr.le pass0 (pa_cons (ix K (pv 0) pe_int) (pa_cons (ix K (pv 0) pe_int) (pa_cons (ix K (pv 0) pe_int) (pa_cons (ix K (pv 0) pe_int) pa_nil))))))) pss_nil)
    (pss_cons (ps_if (pt_cmpR (kEq K hr.units) (cb (kLen K) gm.len (pa_cons (pv 0) pa_nil)) pe_int (nomark _)) (pss_one (ps_ret (pe_gR G_plus hr.le pass0 (pa_cons (ix K (pv 0) pe_int) (pa_cons (ix K (pv 0) pe_int) (pa_cons (ix K (pv 0) pe_int) (pa_cons (ix K (pv 0) pe_int) (pa_cons (ix K (pv 0) pe_int) pa_nil)))))))) pss_nil)
    (pss_cons (ps_if (pt_cmpR (kEq K hr.units) (cb (kLen K) gm.len (pa_cons (pv 0) pa_nil)) pe_int (nomark _)) (pss_one (ps_ret (pe_gR G_plus hr.le pass0 (pa_cons (ix K (pv 0) pe_int) (pa_cons (ix K (pv 0) pe_int) (pa_cons (ix K (pv 0) pe_int) (pa_cons (ix K (pv 0) pe_int) (pa_cons (ix K (pv 0) pe_int) (pa_cons (ix K (pv 0) pe_int) pa_nil))))))))) pss_nil)
    (pss_cons (ps_if (pt_cmpR (kEq K hr.units) (cb (kLen K) gm.len (pa_cons (pv 0) pa_nil)) pe_int (nomark _)) (pss_one (ps_ret (pe_gR G_plus hr.le pass0 (pa_cons (ix K (pv 0) pe_int) (pa_cons (ix K (pv 0) pe_int) (pa_cons (ix K (pv 0) pe_int) (pa_cons (ix K (pv 0) pe_int) (pa_cons (ix K (pv 0) pe_int) (pa_cons (ix K (pv 0) pe_int) (pa_cons (ix K (pv 0) pe_int) pa_nil)))))))))) pss_nil)
    (pss_cons (ps_if (pt_cmpR (kEq K hr.units) (cb (kLen K) gm.len (pa_cons (pv 0) pa_nil)) pe_int (nomark _)) (pss_one (ps_ret (pe_gR G_plus hr.le pass0 (pa_cons (ix K (pv 0) pe_int) (pa_cons (ix K (pv 0) pe_int) (pa_cons (ix K (pv 0) pe_int) (pa_cons (ix K (pv 0) pe_int) (pa_cons (ix K (pv 0) pe_int) (pa_cons (ix K (pv 0) pe_int) (pa_cons (ix K (pv 0) pe_int) (pa_cons (ix K (pv 0) pe_int) pa_nil))))))))))) pss_nil)
    (pss_cons (ps_if (pt_cmpR (kEq K hr.units) (cb (kLen K) gm.len (pa_cons (pv 0) pa_nil)) pe_int (nomark _)) (pss_one (ps_ret (pe_gR G_plus hr.le pass0 (pa_cons (ix K (pv 0) pe_int) (pa_cons (ix K (pv 0) pe_int) (pa_cons (ix K (pv 0) pe_int) (pa_cons (ix K (pv 0) pe_int) (pa_cons (ix K (pv 0) pe_int) (pa_cons (ix K (pv 0) pe_int) (pa_cons (ix K (pv 0) pe_int) (pa_cons (ix K (pv 0) pe_int) (pa_cons (ix K (pv 0) pe_int) (pa_cons (ix K (pv 0) pe_int) (pa_cons (ix K (pv 0) pe_int) (pa_cons (ix K (pv 0) pe_int) (pa_cons (ix K (pv 0) pe_int) pa_nil)))))))))))))))) pss_nil)
    (pss_cons (ps_if (pt_cmpR (kEq K hr.units) (cb (kLen K) gm.len (pa_cons (pv 0) pa_nil)) pe_int (nomark _)) (pss_one (ps_ret (pe_gR G_plus hr.le pass0 (pa_cons (ix K (pv 0) pe_int) (pa_cons (ix K (pv 0) pe_int) (pa_cons (ix K (pv 0) pe_int) (pa_cons (ix K (pv 0) pe_int) (pa_cons (ix K (pv 0) pe_int) (pa_cons (ix K (pv 0) pe_int) (pa_cons (ix K (pv 0) pe_int) (pa_cons (ix K (pv 0) pe_int) (pa_cons (ix K (pv 0) pe_int) (pa_cons (ix K (pv 0) pe_int) (pa_cons (ix K (pv 0) pe_int) (pa_cons (ix K (pv 0) pe_int) (pa_cons (ix K (pv 0) pe_int) (pa_cons (ix K (pv 0) pe_int) (pa_cons (ix K (pv 0) pe_int) (pa_cons (ix K (pv 0) pe_int) (pa_cons (ix K (pv 0) pe_int) (pa_cons (ix K (pv 0) pe_int) (pa_cons (ix K (pv 0) pe_int) (pa_cons (ix K (pv 0) pe_int) (pa_cons (ix K (pv 0) pe_int) (pa_cons (ix K (pv 0) pe_int) (pa_cons (ix K (pv 0) pe_int) (pa_cons (ix K (pv 0) pe_int) pa_nil))))))))))))))))))))))))))) pss_nil)
    (pss_one (ps_ret (pe_gR G_plus hr.le pass0 (pa_cons (ix K (pv 0) pe_int) (pa_cons (ix K (pv 0) pe_int) (pa_cons (ix K (pv 0) pe_int) (pa_cons (ix K (pv 0) pe_int) (pa_cons (ix K (pv 0) pe_int) (pa_cons (ix K (pv 0) pe_int) (pa_cons (ix K (pv 0) pe_int) (pa_cons (ix K (pv 0) pe_int) (pa_cons (ix K (pv 0) pe_int) (pa_cons (ix K (pv 0) pe_int) (pa_cons (ix K (pv 0) pe_int) (pa_cons (ix K (pv 0) pe_int) (pa_cons (ix K (pv 0) pe_int) (pa_cons (ix K (pv 0) pe_int) (pa_cons (ix K (pv 0) pe_int) (pa_cons (ix K (pv 0) pe_int) (pa_cons (ix K (pv 0) pe_int) (pa_cons (ix K (pv 0) pe_int) (pa_cons (ix K (pv 0) pe_int) (pa_cons (ix K (pv 0) pe_int) (pa_cons (ix K (pv 0) pe_int) (pa_cons (ix K (pv 0) pe_int) (pa_cons (ix K (pv 0) pe_int) (pa_cons (ix K (pv 0) pe_int) (pa_cons (ix K (pv 0) pe_int) (pa_cons (ix K (pv 0) pe_int) (pa_cons (ix K (pv 0) pe_int) (pa_cons (ix K (pv 0) pe_int) (pa_cons (ix K (pv 0) pe_int) (pa_cons (ix K (pv 0) pe_int) (pa_cons (ix K (pv 0) pe_int) (pa_cons (ix K (pv 0) pe_int) (pa_cons (ix K (pv 0) pe_int) (pa_cons (ix K (pv 0) pe_int) (pa_cons (ix K (pv 0) pe_int) (pa_cons (ix K (pv 0) pe_int) (pa_cons (ix K (pv 0) pe_int) (pa_cons (ix K (pv 0) pe_int) (pa_cons (ix K (pv 0) pe_int) (pa_cons (ix K (pv 0) pe_int) (pa_cons (ix K (pv 0) pe_int) (pa_cons (ix K (pv 0) pe_int) (pa_cons (ix K (pv 0) pe_int) (pa_cons (ix K (pv 0) pe_int) (pa_cons (ix K (pv 0) pe_int) (pa_cons (ix K (pv 0) pe_int) (pa_cons (ix K (pv 0) pe_int) (pa_cons (ix K (pv 0) pe_int) (pa_cons (ix K (pv 0) pe_int) (pa_cons (ix K (pv 0) pe_int) (pa_cons (ix K (pv 0) pe_int) (pa_cons (ix K (pv 0) pe_int) (pa_cons (ix K (pv 0) pe_int) (pa_cons (ix K (pv 0) pe_int) (pa_cons (ix K (pv 0) pe_int) (pa_cons (ix K (pv 0) pe_int) (pa_cons (ix K (pv 0) pe_int) (pa_cons (ix K (pv 0) pe_int) (pa_cons (ix K (pv 0) pe_int) (pa_cons (ix K (pv 0) pe_int) pa_nil))))))))))))))))))))))))))))))))))))))))))))))))))))))))))))))))))))))))), fun ds R Z p => ?_⟩
  obtain ⟨l, rfl, hl, p⟩ := p
  refine ws_to (ρ' := [.im (.lst (l.map numD))]) rfl ?_
  walk_at "go"
  have hlen := hl.len
  have hb := lens_bd hlen
  have q : ∀ n : Int, EvT K (tTest (tOp (rEqA K) (tCB (rLenA K) (tCons (tVar 0) tNil)) (tC (.int n)))) [.im (.lst (l.map numD))] (decide ((l.length : Int) = n)) := fun n => et_test (ev_op ((ev_cb (ea_cons (ev_var rfl) ea_nil) rc_len).is (by rw [List.length_map])) ev_int rv_eq)
  have r : ∀ n : Nat, l.length = n → EvD K (tCallV (spV K P_plus) E0 (tIxs K 0 n 0)) [.im (.lst (l.map numD))] (numD (plusN l)) := fun n hn => ev_callV (ea_all rfl (by rw [List.length_map]; exact hn)) (by rw [List.length_map]; omega) ⟨l, 133, rfl, hl.ok, by omega, by decide, rfl⟩
  refine wq_when (q 1) (fun hb => ?_) (fun hb => ?_)
  · have hb : (l.length : Int) = 1 := of_decide_eq_true hb
    exact ws_ret (r 1 (by omega)) p
  have n1 : ¬ (l.length : Int) = 1 := of_decide_eq_false hb
  refine wq_when (q 2) (fun hb => ?_) (fun hb => ?_)
  · have hb : (l.length : Int) = 2 := of_decide_eq_true hb
    exact ws_ret (r 2 (by omega)) p
  have n2 : ¬ (l.length : Int) = 2 := of_decide_eq_false hb
  refine wq_when (q 3) (fun hb => ?_) (fun hb => ?_)
  · have hb : (l.length : Int) = 3 := of_decide_eq_true hb
    exact ws_ret (r 3 (by omega)) p
  have n3 : ¬ (l.length : Int) = 3 := of_decide_eq_false hb
  refine wq_when (q 4) (fun hb => ?_) (fun hb => ?_)
  · have hb : (l.length : Int) = 4 := of_decide_eq_true hb
    exact ws_ret (r 4 (by omega)) p
  have n4 : ¬ (l.length : Int) = 4 := of_decide_eq_false hb
  refine wq_when (q 5) (fun hb => ?_) (fun hb => ?_)
  · have hb : (l.length : Int) = 5 := of_decide_eq_true hb
    exact ws_ret (r 5 (by omega)) p
  have n5 : ¬ (l.length : Int) = 5 := of_decide_eq_false hb
  refine wq_when (q 6) (fun hb => ?_) (fun hb => ?_)
  · have hb : (l.length : Int) = 6 := of_decide_eq_true hb
    exact ws_ret (r 6 (by omega)) p
  have n6 : ¬ (l.length : Int) = 6 := of_decide_eq_false hb
  refine wq_when (q 7) (fun hb => ?_) (fun hb => ?_)
  · have hb : (l.length : Int) = 7 := of_decide_eq_true hb
    exact ws_ret (r 7 (by omega)) p
  have n7 : ¬ (l.length : Int) = 7 := of_decide_eq_false hb
  refine wq_when (q 8) (fun hb => ?_) (fun hb => ?_)
  · have hb : (l.length : Int) = 8 := of_decide_eq_true hb
    exact ws_ret (r 8 (by omega)) p
  have n8 : ¬ (l.length : Int) = 8 := of_decide_eq_false hb
  refine wq_when (q 13) (fun hb => ?_) (fun hb => ?_)
  · have hb : (l.length : Int) = 13 := of_decide_eq_true hb
    exact ws_ret (r 13 (by omega)) p
  have n13 : ¬ (l.length : Int) = 13 := of_decide_eq_false hb
  refine wq_when (q 24) (fun hb => ?_) (fun hb => ?_)
  · have hb : (l.length : Int) = 24 := of_decide_eq_true hb
    exact ws_ret (r 24 (by omega)) p
  have n24 : ¬ (l.length : Int) = 24 := of_decide_eq_false hb
  have e : l.length = 60 := by
    simp only [LENS, List.mem_cons, List.not_mem_nil, or_false] at hlen
    omega
  exact ws_ret (r 60 e) p
def P_multiplied : PrD := fun ds R _ => ∃ l : List Num, ds = [.lst (l.map numD)] ∧ ListOk l ∧ R (.im (numD (timesN l)))
theorem ok_multiplied (F : Df K mg "_law_multiplied" s_law_multiplied ["r"]) (gm : Gm K mg C_Fault C_BadNumber C_BadRow C_BadText) (G_times : FnV P w K mg base CX0 2 "times" (spV K P_times)) : FnG P w K mg base CX0 3 "_law_multiplied" ["r"] (spD K P_multiplied) := by
  refine F.ok (k := 2) sc_law_multiplied (fun ds R Z ⟨x, e, _⟩ => by rw [e] <;> rfl) (fun f cdv A outer s H E hr => ?_)
  refine ⟨_,
    (pss_cons (ps_if (pt_cmpR (kEq K hr.units) (cb (kLen K) gm.len (pa_cons (pv 0) pa_nil)) pe_int (nomark _)) (pss_one (ps_ret (pe_gR G_times hr.le pass0 (pa_cons (ix K (pv 0) pe_int) pa_nil)))) pss_nil)
    (pss_cons (ps_if (pt_cmpR (kEq K hr.units) (cb (kLen K) gm.len (pa_cons (pv 0) pa_nil)) pe_int (nomark _)) (pss_one (ps_ret (pe_gR G_times hr.le pass0 (pa_cons (ix K (pv 0) pe_int) (pa_cons (ix K (pv 0) pe_int) pa_nil))))) pss_nil)
    (pss_cons (ps_if (pt_cmpR (kEq K hr.units) (cb (kLen K) gm.len (pa_cons (pv 0) pa_nil)) pe_int (nomark _)) (pss_one (ps_ret (pe_gR G_times hr.le pass0 (pa_cons (ix K (pv 0) pe_int) (pa_cons (ix K (pv 0) pe_int) (pa_cons (ix K (pv 0) pe_int) pa_nil)))))) pss_nil)
    (pss_cons (ps_if (pt_cmpR (kEq K hr.units) (cb (kLen K) gm.len (pa_cons (pv 0) pa_nil)) pe_int (nomark _)) (pss_one (ps_ret (pe_gR G_times hr.le pass0 (pa_cons (ix K (pv 0) pe_int) (pa_cons (ix K (pv 0) pe_int) (pa_cons (ix K (pv 0) pe_int) (pa_cons (ix K (pv 0) pe_int) pa_nil))))))) pss_nil)
    (pss_cons (ps_if (pt_cmpR (kEq K hr.units) (cb (kLen K) gm.len (pa_cons (pv 0) pa_nil)) pe_int (nomark _)) (pss_one (ps_ret (pe_gR G_times hr.le pass0 (pa_cons (ix K (pv 0) pe_int) (pa_cons (ix K (pv 0) pe_int) (pa_cons (ix K (pv 0) pe_int) (pa_cons (ix K (pv 0) pe_int) (pa_cons (ix K (pv 0) pe_int) pa_nil)))))))) pss_nil)
    (pss_cons (ps_if (pt_cmpR (kEq K hr.units) (cb (kLen K) gm.len (pa_cons (pv 0) pa_nil)) pe_int (nomark _)) (pss_one (ps_ret (pe_gR G_times hr.le pass0 (pa_cons (ix K (pv 0) pe_int) (pa_cons (ix K (pv 0) pe_int) (pa_cons (ix K (pv 0) pe_int) (pa_cons (ix K (pv 0) pe_int) (pa_cons (ix K (pv 0) pe_int) (pa_cons (ix K (pv 0) pe_int) pa_nil))))))))) pss_nil)
    (pss_cons (ps_if (pt_cmpR (kEq K hr.units) (cb (kLen K) gm.len (pa_cons (pv 0) pa_nil)) pe_int (nomark _)) (pss_one (ps_ret (pe_gR G_times hr.le pass0 (pa_cons (ix K (pv 0) pe_int) (pa_cons (ix K (pv 0) pe_int) (pa_cons (ix K (pv 0) pe_int) (pa_cons (ix K (pv 0) pe_int) (pa_cons (ix K (pv 0) pe_int) (pa_cons (ix K (pv 0) pe_int) (pa_cons (ix K (pv 0) pe_int) pa_nil)))))))))) pss_nil)
    (pss_cons (ps_if (pt_cmpR (kEq K hr.units) (cb (kLen K) gm.len (pa_cons (pv 0) pa_nil)) pe_int (nomark _)) (pss_one (ps_ret (pe_gR G_times hr.le pass0 (pa_cons (ix K (pv 0) pe_int) (pa_cons (ix K (pv 0) pe_int) (pa_cons (ix K (pv 0) pe_int) (pa_cons (ix K (pv 0) pe_int) (pa_cons (ix K (pv 0) pe_int) (pa_cons (ix K (pv 0) pe_int) (pa_cons (ix K (pv 0) pe_int) (pa_cons (ix K (pv 0) pe_int) pa_nil))))))))))) pss_nil)
    (pss_cons (ps_if (pt_cmpR (kEq K hr.units) (cb (kLen K) gm.len (pa_cons (pv 0) pa_nil)) pe_int (nomark _)) (pss_one (ps_ret (pe_gR G_times hr.le pass0 (pa_cons (ix K (pv 0) pe_int) (pa_cons (ix K (pv 0) pe_int) (pa_cons (ix K (pv 0) pe_int) (pa_cons (ix K (pv 0) pe_int) (pa_cons (ix K (pv 0) pe_int) (pa_cons (ix K (pv 0) pe_int) (pa_cons (ix K (pv 0) pe_int) (pa_cons (ix K (pv 0) pe_int) (pa_cons (ix K (pv 0) pe_int) (pa_cons (ix K (pv 0) pe_int) (pa_cons (ix K (pv 0) pe_int) (pa_cons (ix K (pv 0) pe_int) (pa_cons (ix K (pv 0) pe_int) pa_nil)))))))))))))))) pss_nil)
    (pss_cons (ps_if (pt_cmpR (kEq K hr.units) (cb (kLen K) gm.len (pa_cons (pv 0) pa_nil)) pe_int (nomark _)) (pss_one (ps_ret (pe_gR G_times hr.le pass0 (pa_cons (ix K (pv 0) pe_int) (pa_cons (ix K (pv 0) pe_int) (pa_cons (ix K (pv 0) pe_int) (pa_cons (ix K (pv 0) pe_int) (pa_cons (ix K (pv 0) pe_int) (pa_cons (ix K (pv 0) pe_int) (pa_cons (ix K (pv 0) pe_int) (pa_cons (ix K (pv 0) pe_int) (pa_cons (ix K (pv 0) pe_int) (pa_cons (ix K (pv 0) pe_int) (pa_cons (ix K (pv 0) pe_int) (pa_cons (ix K (pv 0) pe_int) (pa_cons (ix K (pv 0) pe_int) (pa_cons (ix K (pv 0) pe_int) (pa_cons (ix K (pv 0) pe_int) (pa_cons (ix K (pv 0) pe_int) (pa_cons (ix K (pv 0) pe_int) (pa_cons (ix K (pv 0) pe_int) (pa_cons (ix K (pv 0) pe_int) (pa_cons (ix K (pv 0) pe_int) (pa_cons (ix K (pv 0) pe_int) (pa_cons (ix K (pv 0) pe_int) (pa_cons (ix K (pv 0) pe_int) (pa_cons (ix K (pv 0) pe_int) pa_nil))))))))))))))))))))))))))) pss_nil)
    (pss_one (ps_ret (pe_gR G_times hr.le pass0 (pa_cons (ix K (pv 0) pe_int) (pa_cons (ix K (pv 0) pe_int) (pa_cons (ix K (pv 0) pe_int) (pa_cons (ix K (pv 0) pe_int) (pa_cons (ix K (pv 0) pe_int) (pa_cons (ix K (pv 0) pe_int) (pa_cons (ix K (pv 0) pe_int) (pa_cons (ix K (pv 0) pe_int) (pa_cons (ix K (pv 0) pe_int) (pa_cons (ix K (pv 0) pe_int) (pa_cons (ix K (pv 0) pe_int) (pa_cons (ix K (pv 0) pe_int) (pa_cons (ix K (pv 0) pe_int) (pa_cons (ix K (pv 0) pe_int) (pa_cons (ix K (pv 0) pe_int) (pa_cons (ix K (pv 0) pe_int) (pa_cons (ix K (pv 0) pe_int) (pa_cons (ix K (pv 0) pe_int) (pa_cons (ix K (pv 0) pe_int) (pa_cons (ix K (pv 0) pe_int) (pa_cons (ix K (pv 0) pe_int) (pa_cons (ix K (pv 0) pe_int) (pa_cons (ix K (pv 0) pe_int) (pa_cons (ix K (pv 0) pe_int) (pa_cons (ix K (pv 0) pe_int) (pa_cons (ix K (pv 0) pe_int) (pa_cons (ix K (pv 0) pe_int) (pa_cons (ix K (pv 0) pe_int) (pa_cons (ix K (pv 0) pe_int) (pa_cons (ix K (pv 0) pe_int) (pa_cons (ix K (pv 0) pe_int) (pa_cons (ix K (pv 0) pe_int) (pa_cons (ix K (pv 0) pe_int) (pa_cons (ix K (pv 0) pe_int) (pa_cons (ix K (pv 0) pe_int) (pa_cons (ix K (pv 0) pe_int) (pa_cons (ix K (pv 0) pe_int) (pa_cons (ix K (pv 0) pe_int) (pa_cons (ix K (pv 0) pe_int) (pa_cons (ix K (pv 0) pe_int) (pa_cons (ix K (pv 0) pe_int) (pa_cons (ix K (pv 0) pe_int) (pa_cons (ix K (pv 0) pe_int) (pa_cons (ix K (pv 0) pe_int) (pa_cons (ix K (pv 0) pe_int) (pa_cons (ix K (pv 0) pe_int) (pa_cons (ix K (pv 0) pe_int) (pa_cons (ix K (pv 0) pe_int) (pa_cons (ix K (pv 0) pe_int) (pa_cons (ix K (pv 0) pe_int) (pa_cons (ix K (pv 0) pe_int) (pa_cons (ix K (pv 0) pe_int) (pa_cons (ix K (pv 0) pe_int) (pa_cons (ix K (pv 0) pe_int) (pa_cons (ix K (pv 0) pe_int) (pa_cons (ix K (pv 0) pe_int) (pa_cons (ix K (pv 0) pe_int) (pa_cons (ix K (pv 0) pe_int) (pa_cons (ix K (pv 0) pe_int) (pa_cons (ix K (pv 0) pe_int) pa_nil))))))))))))))))))))))))))))))))))))))))))))))))))))))))))))))))))))))))), fun ds R Z p => ?_⟩
  obtain ⟨l, rfl, hl, p⟩ := p
  refine ws_to (ρ' := [.im (.lst (l.map numD))]) rfl ?_
  walk_at "go"
  have hlen := hl.len
  have hb := lens_bd hlen
  have q : ∀ n : Int, EvT K (tTest (tOp (rEqA K) (tCB (rLenA K) (tCons (tVar 0) tNil)) (tC (.int n)))) [.im (.lst (l.map numD))] (decide ((l.length : Int) = n)) := fun n => et_test (ev_op ((ev_cb (ea_cons (ev_var rfl) ea_nil) rc_len).is (by rw [List.length_map])) ev_int rv_eq)
  have r : ∀ n : Nat, l.length = n → EvD K (tCallV (spV K P_times) E0 (tIxs K 0 n 0)) [.im (.lst (l.map numD))] (numD (timesN l)) := fun n hn => ev_callV (ea_all rfl (by rw [List.length_map]; exact hn)) (by rw [List.length_map]; omega) ⟨l, 133, rfl, hl.ok, by omega, by decide, rfl⟩
  refine wq_when (q 1) (fun hb => ?_) (fun hb => ?_)
  · have hb : (l.length : Int) = 1 := of_decide_eq_true hb
    exact ws_ret (r 1 (by omega)) p
  have n1 : ¬ (l.length : Int) = 1 := of_decide_eq_false hb
  refine wq_when (q 2) (fun hb => ?_) (fun hb => ?_)
  · have hb : (l.length : Int) = 2 := of_decide_eq_true hb
    exact ws_ret (r 2 (by omega)) p
  have n2 : ¬ (l.length : Int) = 2 := of_decide_eq_false hb
  refine wq_when (q 3) (fun hb => ?_) (fun hb => ?_)
  · have hb : (l.length : Int) = 3 := of_decide_eq_true hb
    exact ws_ret (r 3 (by omega)) p
  have n3 : ¬ (l.length : Int) = 3 := of_decide_eq_false hb
  refine wq_when (q 4) (fun hb => ?_) (fun hb => ?_)
  · have hb : (l.length : Int) = 4 := of_decide_eq_true hb
    exact ws_ret (r 4 (by omega)) p
  have n4 : ¬ (l.length : Int) = 4 := of_decide_eq_false hb
  refine wq_when (q 5) (fun hb => ?_) (fun hb => ?_)
  · have hb : (l.length : Int) = 5 := of_decide_eq_true hb
    exact ws_ret (r 5 (by omega)) p
  have n5 : ¬ (l.length : Int) = 5 := of_decide_eq_false hb
  refine wq_when (q 6) (fun hb => ?_) (fun hb => ?_)
  · have hb : (l.length : Int) = 6 := of_decide_eq_true hb
    exact ws_ret (r 6 (by omega)) p
  have n6 : ¬ (l.length : Int) = 6 := of_decide_eq_false hb
  refine wq_when (q 7) (fun hb => ?_) (fun hb => ?_)
  · have hb : (l.length : Int) = 7 := of_decide_eq_true hb
    exact ws_ret (r 7 (by omega)) p
  have n7 : ¬ (l.length : Int) = 7 := of_decide_eq_false hb
  refine wq_when (q 8) (fun hb => ?_) (fun hb => ?_)
  · have hb : (l.length : Int) = 8 := of_decide_eq_true hb
    exact ws_ret (r 8 (by omega)) p
  have n8 : ¬ (l.length : Int) = 8 := of_decide_eq_false hb
  refine wq_when (q 13) (fun hb => ?_) (fun hb => ?_)
  · have hb : (l.length : Int) = 13 := of_decide_eq_true hb
    exact ws_ret (r 13 (by omega)) p
  have n13 : ¬ (l.length : Int) = 13 := of_decide_eq_false hb
  refine wq_when (q 24) (fun hb => ?_) (fun hb => ?_)
  · have hb : (l.length : Int) = 24 := of_decide_eq_true hb
    exact ws_ret (r 24 (by omega)) p
  have n24 : ¬ (l.length : Int) = 24 := of_decide_eq_false hb
  have e : l.length = 60 := by
    simp only [LENS, List.mem_cons, List.not_mem_nil, or_false] at hlen
    omega
  exact ws_ret (r 60 e) p
end
end FS
set_option Elab.async false
set_option linter.all false
set_option maxRecDepth 100000
set_option maxHeartbeats 4000000
set_option exponentiation.threshold 20000
namespace FS
open PySem PySem.Spec PyProof.Rows L2

local macro_rules | `(tactic| walk_at "side") => `(tactic| first | assumption | omega | decide)
local macro_rules | `(tactic| walk_at "hv") => `(tactic| (intro i hi; simp at hi; first | (subst hi; rfl) | (rcases hi with rfl | rfl <;> rfl) | (rcases hi with rfl | rfl | rfl <;> rfl)))
local macro_rules | `(tactic| walk_at "pr") => `(tactic| fail "no promise")
local macro_rules | `(tactic| walk_at "rv") => `(tactic| first
  | (with_reducible exact rv_add) | (with_reducible exact rv_sub) | (with_reducible exact rv_lt) | (with_reducible exact rv_le) | (with_reducible exact rv_gt) | (with_reducible exact rv_ge) | (with_reducible exact rv_eq) | (with_reducible exact rv_ne)
  | (with_reducible exact rv_is) | (with_reducible exact rv_isnot)
  | ((with_reducible apply rv_div); first | assumption | exact cdiv_small (by omega) (by omega))
  | ((with_reducible apply rv_mod); first | assumption | omega)
  | ((with_reducible apply rv_mul); first | assumption | exact cmul_left (by omega) | exact cmul_right (by omega))
  | ((with_reducible apply rv_mulW); assumption)
  | (with_reducible exact rv_p8) | (with_reducible exact rv_p18) | (with_reducible exact rv_p40) | (with_reducible exact rv_p20) | (with_reducible exact rv_p6) | (with_reducible exact rv_p7) | (with_reducible exact rv_p12) | (with_reducible exact rv_p25) | (with_reducible exact rv_p30) | (with_reducible exact rv_p39) | (with_reducible exact rv_p60)
  | ((with_reducible apply rv_ixxL); first | assumption | exact at_getD (by omega) (by omega) | exact at_nat rfl)
  | ((with_reducible apply rv_ixxT); first | assumption | exact at_getD (by omega) (by omega) | exact at_nat rfl)
  | ((with_reducible apply rv_ixxC); first | assumption)
  | (with_reducible exact ru_neg))
local macro_rules | `(tactic| walk_at "isi") => `(tactic| first | (with_reducible exact isi_non_int) | (with_reducible exact isi_non_bool) | (with_reducible exact isi_non_str) | (with_reducible exact isi_non_tuple) | (with_reducible exact isi_non_list) | (with_reducible exact isi_bl_int) | (with_reducible exact isi_bl_bool) | (with_reducible exact isi_bl_str) | (with_reducible exact isi_bl_tuple) | (with_reducible exact isi_bl_list) | (with_reducible exact isi_int_int) | (with_reducible exact isi_int_bool) | (with_reducible exact isi_int_str) | (with_reducible exact isi_int_tuple) | (with_reducible exact isi_int_list) | (with_reducible exact isi_str_int) | (with_reducible exact isi_str_bool) | (with_reducible exact isi_str_str) | (with_reducible exact isi_str_tuple) | (with_reducible exact isi_str_list) | (with_reducible exact isi_tup_int) | (with_reducible exact isi_tup_bool) | (with_reducible exact isi_tup_str) | (with_reducible exact isi_tup_tuple) | (with_reducible exact isi_tup_list) | (with_reducible exact isi_lst_int) | (with_reducible exact isi_lst_bool) | (with_reducible exact isi_lst_str) | (with_reducible exact isi_lst_tuple) | (with_reducible exact isi_lst_list))
local macro_rules | `(tactic| walk_at "rc") => `(tactic| first
  | walk_at "isi"
  | (with_reducible exact rc_len) | (with_reducible exact rc_lent) | (with_reducible exact rc_lenc) | (with_reducible exact rc_toint) | (with_reducible exact rc_absv) | (with_reducible exact rc_gcd)
  | ((with_reducible apply rc_lcm); assumption)
  | ((with_reducible apply rc_isi); (focus rfl); assumption)
  | (with_reducible exact rco_list) | (with_reducible exact rco_listT))
local macro_rules | `(tactic| walk_at "ev") => `(tactic| first
  | (with_reducible exact ev_int) | (with_reducible exact ev_bl) | (with_reducible exact ev_non) | (with_reducible exact ev_str) | (with_reducible exact ev_ty)
  | ((with_reducible apply ev_var); rfl)
  | ((with_reducible apply ev_lenOw); rfl)
  | ((with_reducible apply ev_op) <;> first | walk_at "ev" | walk_at "rv")
  | ((with_reducible apply ev_un) <;> first | walk_at "ev" | walk_at "rv")
  | ((with_reducible apply ev_cb) <;> first | walk_at "ev" | walk_at "rc")
  | ((with_reducible apply ev_call) <;> first | walk_at "ev" | walk_at "pr")
  | ((with_reducible apply ev_tup) <;> first | walk_at "ev" | (simp; done))
  | (with_reducible exact ea_nil)
  | ((with_reducible apply ea_cons) <;> walk_at "ev")
  | ((with_reducible apply et_test); walk_at "ev")
  | ((with_reducible apply et_B); walk_at "ev")
  | ((with_reducible apply et_not); walk_at "ev")
  | ((with_reducible apply et_or); (walk_at "ev"); intro _; walk_at "ev")
  | ((with_reducible apply et_and); (walk_at "ev"); intro _; walk_at "ev")
  | ((with_reducible apply ev_orV); (walk_at "ev"); intro _; walk_at "ev")
  | ((with_reducible apply ev_andV); (walk_at "ev"); intro _; walk_at "ev")
  | ((with_reducible apply ev_notV); walk_at "ev")
  | (with_reducible exact et_yes)
  | ((with_reducible apply evo_lst) <;> first | walk_at "ev" | (simp; done))
  | ((with_reducible apply ev_opO) <;> first | walk_at "ev" | ((with_reducible apply rvo_add); simp; omega))
  | ((with_reducible apply ev_cbO) <;> first | walk_at "ev" | walk_at "rc")
  | ((with_reducible apply ev_callO) <;> first | walk_at "ev" | walk_at "pr")
  | ((with_reducible apply ec_call) <;> first | walk_at "ev" | walk_at "pr")
  | ((with_reducible apply ec_tup) <;> first | walk_at "ev" | (simp; done))
  | ((with_reducible apply ec_lst) <;> first | walk_at "ev" | (simp; done))
  | (with_reducible exact eca_nil)
  | ((with_reducible apply eca_cons) <;> walk_at "ev")
  | ((with_reducible apply ec_sc); (walk_at "ev"); rfl)
  | ((with_reducible apply ec_ow); (walk_at "ev"); first | assumption | (intro d hd; simp at hd; done))
  | ((with_reducible apply ec_fz); walk_at "ev")
  | ((with_reducible apply ev_fz); walk_at "ev"))

local macro_rules | `(tactic| walk_at "im") => `(tactic| ((with_reducible apply wq_asg); walk_at "ev"; (try dsimp only [List.set, Int.reduceToNat])))
local macro_rules | `(tactic| walk_at "ow") => `(tactic| ((with_reducible apply wq_asgO); walk_at "ev"; (focus (first | decide | (simp; done))); (try dsimp only [List.set, Int.reduceToNat])))
local macro_rules | `(tactic| walk_at "cl") => `(tactic| ((with_reducible apply wq_asgC); walk_at "ev"; (focus (first | decide | (simp; done))); (try dsimp only [List.set, Int.reduceToNat])))
local macro_rules | `(tactic| walk_at "if") => `(tactic| ((first | (with_reducible apply wq_when) | (with_reducible apply wq_if) | (with_reducible apply ws_if)); walk_at "ev"; (try dsimp only [Int.reduceToNat])))
local macro_rules | `(tactic| walk_at "ret") => `(tactic| ((with_reducible apply ws_ret); walk_at "ev"))
local macro_rules | `(tactic| walk_at "go") => `(tactic| (try dsimp only [cxOf, L2.Cx.nox, L2.Cx.wish, L2.Cx.blk]))
local macro_rules | `(tactic| walk_at "ints") => `(tactic| (refine ev_fz (evo_lst ?_ (by decide)); repeat (first | exact ea_nil | refine ea_cons ev_int ?_)))

/-- x = f(..), all that f may hand back -/
theorem wq_asgR {K : PySem.W.Frag} {E : L2.WX} {ρ : Rho} {P : Pst} {tr : TA} {tz : TS} {i : Nat} {ds : List D} {Pr : PrD} {Ex : XK} (ha : EvA K tr ρ ds) (hi : i < ρ.length) (h : Pr ds (okSl (fun ρ' => Ws K E tz ρ' P) ρ i) (fun _ => False)) : Ws K E (tSeq (tAsg (tCall (spD K Pr) [] Ex tr) (gName i)) tz) ρ P := ws_seq fun M T0 H T σ Dn en k =>
  ha M T0 H T σ [] _ en fun vs H1 T1 s1 t1 e1 i1 => by
    obtain ⟨L, r, o, f⟩ := e1.ex
    show spD K Pr (vs ++ []) T1 _ Ex
    rw [List.append_nil]
    refine ⟨L ++ M, H1, ds, _, _, o, i1, h, fun s v H' T' hs s' t' hr => ?_, fun _ _ _ _ _ _ h => h.elim⟩
    cases s with
    | no => exact hs.elim
    | im d =>
      obtain ⟨e2, iz⟩ := e1.ret_im (X := []) r f s' t' hr
      exact k.nx _ _ H' T' hs (s1.trans s') (e2.set iz)
    | ow l =>
      obtain ⟨p, us, rfl, e2, iz⟩ := e1.ret_ow (X := []) r f s' t' hr
      exact k.nx _ _ H' T' hs (s1.trans s') (e2.setO hi iz)
    | cl d =>
      obtain ⟨Lc, e2, iz⟩ := e1.ret_cl (X := []) r f s' t' hr
      exact k.nx _ _ H' T' hs (s1.trans s') (e2.setC hi iz)

/-! ### the law -/
theorem fac_bd {n : Int} (h : n ∈ ([1, 6, 100000000000000000039] : List Int)) : n.natAbs < 2 ^ 67 := by
  have : ∀ n ∈ ([1, 6, 100000000000000000039] : List Int), n.natAbs < 2 ^ 67 := by decide
  exact this n h
theorem num_mono {a b : Nat} {x : Num} (h : NumOk a x) (hab : a ≤ b) : NumOk b x := ⟨h.1, Nat.lt_of_lt_of_le h.2.1 (Nat.pow_le_pow_right (by decide) hab), Nat.lt_of_lt_of_le h.2.2 (Nat.pow_le_pow_right (by decide) hab)⟩
theorem prod_den : ∀ (l : List Num) (s p : Num), s.2 = p.2 → (l.foldl sumS s).2 = (l.foldl prodS p).2
  | [], _, _, h => h
  | x :: l, s, p, h => prod_den l _ _ (show s.2 * x.2 = p.2 * x.2 by rw [h])
section
variable {P : Program} {w : World} {K : PySem.W.Frag} {mg : Str → Option Value} {base : Heap} {C_Fault C_BadNumber C_BadRow C_BadText : Addr}
theorem ok_law {f : Addr} {fd : FuncData} (F : Fun K "law" "law" s_law f fd) (gm : Gm K mg C_Fault C_BadNumber C_BadRow C_BadText) (G_law_draws : FnG P w K mg base CX0 1 "_law_draws" ["cell", "sizes"] (spD K P_draws)) (G_law_cell : FnG P w K mg base CX0 1 "_law_cell" ["script", "k"] (spD K P_cell)) (G_law_list : FnG P w K mg base CX0 4 "_law_list" ["script", "shape"] (spD K P_list))
    (G_law_is : FnG P w K mg base CX0 2 "_law_is" ["actual", "top", "bottom"] (spD K P_is)) (G_plus : FnV P w K mg base CX0 2 "plus" (spV K P_plus)) (G_times : FnV P w K mg base CX0 2 "times" (spV K P_times)) (G_law_added : FnG P w K mg base CX0 3 "_law_added" ["r"] (spD K P_added)) (G_law_multiplied : FnG P w K mg base CX0 3 "_law_multiplied" ["r"] (spD K P_multiplied))
    (G_law_integer : FnG P w K mg base CX0 2 "_law_integer" ["cell"] (spD K P_int)) (G_law_ratio_right : FnG P w K mg base CX0 3 "_law_ratio_right" ["n", "d"] (spD K P_rr)) (G_law_number : FnG P w K mg base CX0 3 "_law_number" ["cell"] (spD K P_num)) (G_law_ratio : FnG P w K mg base CX0 2 "_law_ratio" ["n", "d"] (spD K (P_ratio 8990)))
    (G_law_pair_right : FnG P w K mg base CX0 4 "_law_pair_right" ["first", "second"] (spD K P_pr)) : FnOk P w K mg base CX0 5 f fd ["script"] (spD K P_law) := by
  refine okD F (k := 4) sc_law (fun ds R Z ⟨a, e, _⟩ => by rw [e] <;> rfl) (fun f cdv A outer s H E hr => ?_)
  refine ⟨_,
    (pss_cons (sv 1 sc_law.nd (pe_g G_law_draws hr.le pass0 (pa_cons (pe_g G_law_cell hr.le pass0 (pa_cons (pv 0) (pa_cons pe_int pa_nil))) (pa_cons (pe_lst (pa_cons pe_int (pa_cons pe_int (pa_cons pe_int (pa_cons pe_int (pa_cons pe_int (pa_cons pe_int (pa_cons pe_int (pa_cons pe_int pa_nil))))))))) pa_nil))))
    (pss_cons (sv 2 sc_law.nd (pe_g G_law_list hr.le pass0 (pa_cons (pv 0) (pa_cons (pv 1) pa_nil))))
    (pss_cons (sv 3 sc_law.nd pe_int)
    (pss_cons (sv 4 sc_law.nd pe_int)
    (pss_cons (sv 5 sc_law.nd pe_int)
    (pss_cons (ps_for PassesOwn.never rfl (pl K (pv 2)) (gn 6 sc_law.nd) (pss_cons (sv 3 sc_law.nd (pe_op (kAdd K) (pe_op opMul (pv 3) (ix K (pv 6) pe_int)) (pe_op opMul (ix K (pv 6) pe_int) (pv 4)))) (pss_cons (sv 4 sc_law.nd (pe_op opMul (pv 4) (ix K (pv 6) pe_int))) (pss_one (sv 5 sc_law.nd (pe_op opMul (pv 5) (ix K (pv 6) pe_int)))))))
    (pss_cons (ps_if (PW.pt (pw_or (pt_not (pt_val (pe_g G_law_is hr.le pass0 (pa_cons (pe_gR0 G_plus hr.le pass0) (pa_cons pe_int (pa_cons pe_int pa_nil)))))) (pw_or1 (pt_not (pt_val (pe_g G_law_is hr.le pass0 (pa_cons (pe_gR0 G_times hr.le pass0) (pa_cons pe_int (pa_cons pe_int pa_nil))))))))) (pss_one (ps_ret pe_bl)) pss_nil)
    (pss_cons (ps_if (PW.pt (pw_or (pt_not (pt_val (pe_g G_law_is hr.le pass0 (pa_cons (pe_g G_law_added hr.le pass0 (pa_cons (pv 2) pa_nil)) (pa_cons (pv 3) (pa_cons (pv 4) pa_nil)))))) (pw_or1 (pt_not (pt_val (pe_g G_law_is hr.le pass0 (pa_cons (pe_g G_law_multiplied hr.le pass0 (pa_cons (pv 2) pa_nil)) (pa_cons (pv 5) (pa_cons (pv 4) pa_nil))))))))) (pss_one (ps_ret pe_bl)) pss_nil)
    (pss_cons (sv 7 sc_law.nd (ix K (pe_lst (pa_cons pe_int (pa_cons pe_int (pa_cons (pe_op (kAdd K) (pe_op opPow pe_int pe_int) pe_int) pa_nil)))) (ix K (pv 1) pe_int)))
    (pss_cons (sv 8 sc_law.nd (pe_op opMul (pe_g G_law_integer hr.le pass0 (pa_cons (pe_g G_law_cell hr.le pass0 (pa_cons (pv 0) (pa_cons pe_int pa_nil))) pa_nil)) (pv 7)))
    (pss_cons (sv 9 sc_law.nd (pe_op opMul (pe_g G_law_integer hr.le pass0 (pa_cons (pe_g G_law_cell hr.le pass0 (pa_cons (pv 0) (pa_cons pe_int pa_nil))) pa_nil)) (pv 7)))
    (pss_cons (ps_if (pt_cmpR (kEq K hr.units) (ix K (pv 1) pe_int) pe_int (nomark _)) (pss_one (sv 9 sc_law.nd (ix K (pe_lst (pa_cons (pv 8) (pa_cons (pe_un unNeg (pv 8)) pa_nil))) (ix K (pv 1) pe_int)))) pss_nil)
    (pss_cons (ps_if (PW.pt (pw_or (pt_not (pt_val (pe_g G_law_ratio_right hr.le pass0 (pa_cons (pv 8) (pa_cons (pv 9) pa_nil))))) (pw_or1 (pt_not (pt_val (pe_g G_law_ratio_right hr.le pass0 (pa_cons (pv 9) (pa_cons (pv 8) pa_nil)))))))) (pss_one (ps_ret pe_bl)) pss_nil)
    (pss_cons (sv 10 sc_law.nd (pe_g G_law_number hr.le pass0 (pa_cons (pe_g G_law_cell hr.le pass0 (pa_cons (pv 0) (pa_cons pe_int pa_nil))) pa_nil)))
    (pss_cons (sv 11 sc_law.nd (pe_g G_law_number hr.le pass0 (pa_cons (pe_g G_law_cell hr.le pass0 (pa_cons (pv 0) (pa_cons pe_int pa_nil))) pa_nil)))
    (pss_cons (ps_if (pt_cmpR (kEq K hr.units) (ix K (pv 1) pe_int) pe_int (nomark _)) (pss_one (sv 11 sc_law.nd (pv 10))) (pss_one (ps_if (pt_cmpR (kEq K hr.units) (ix K (pv 1) pe_int) pe_int (nomark _)) (pss_one (sv 11 sc_law.nd (pe_g G_law_ratio hr.le pass0 (pa_cons (pe_op (kAdd K) (pe_op opMul (ix K (pv 10) pe_int) (pe_op opPow pe_int pe_int)) pe_int) (pa_cons (pe_op opMul (ix K (pv 10) pe_int) (pe_op opPow pe_int pe_int)) pa_nil))))) (pss_one (ps_if (pt_cmpR (kEq K hr.units) (ix K (pv 1) pe_int) pe_int (nomark _)) (pss_one (sv 10 sc_law.nd (pe_tup (pa_cons pe_int (pa_cons pe_int pa_nil))))) (pss_one (ps_if (pt_cmpR (kEq K hr.units) (ix K (pv 1) pe_int) pe_int (nomark _)) (pss_one (sv 11 sc_law.nd (pe_tup (pa_cons pe_int (pa_cons pe_int pa_nil))))) pss_nil)))))))
    (pss_cons (ps_for PassesOwn.never rfl (pl K (pe_lst (pa_cons (pe_lst (pa_cons (pv 10) (pa_cons (pv 11) pa_nil))) (pa_cons (pe_lst (pa_cons (pv 11) (pa_cons (pv 10) pa_nil))) (pa_cons (pe_lst (pa_cons (pv 10) (pa_cons (pv 10) pa_nil))) pa_nil))))) (gn 12 sc_law.nd) (pss_one (ps_if (pt_not (pt_val (pe_g G_law_pair_right hr.le pass0 (pa_cons (ix K (pv 12) pe_int) (pa_cons (ix K (pv 12) pe_int) pa_nil))))) (pss_one (ps_ret pe_bl)) pss_nil)))
    (pss_one (ps_ret pe_bl))))))))))))))))))), fun ds R Z p => ?_⟩
  obtain ⟨ns, rfl, p⟩ := p
  refine ws_to (ρ' := [.im (.scr ns), .no, .no, .no, .no, .no, .no, .no, .no, .no, .no, .no, .no]) rfl ?_
  walk_at "go"
  refine wq_asg (d := intsD (draws (cell ns 0) szS)) (ec_fz (ec_call (ea_cons (ev_call (by walk_at "ev") (pr_cell (by decide))) (ea_cons (by walk_at "ints") ea_nil)) (pr_draws (sizes := szS) (by decide) (by decide)))) ?_
  dsimp only [List.set]
  have hdl : (draws (cell ns 0) szS).length = 8 := draws_len _ _
  have hdb : ∀ i, i < 8 → 0 ≤ (draws (cell ns 0) szS).getD i 0 ∧ (draws (cell ns 0) szS).getD i 0 < szS.getD i 0 := fun i hi => draws_bd (cell ns 0) szS i (by decide) hi
  generalize draws (cell ns 0) szS = sh at hdl hdb
  have hat : ∀ i : Nat, i < 8 → atI (sh.map D.int) (i : Int) = some (.int (sh.getD i 0)) := fun i hi => at_ints (by omega)
  refine wq_asgR (ea_cons (ev_var rfl) (ea_cons (ev_var rfl) ea_nil)) (by simp) ⟨ns, sh, rfl, hdl, hdb, fun l hl => ?_⟩
  show Ws K _ _ (List.set _ _ _) _
  dsimp only [List.set]
  walk_at "im"
  walk_at "im"
  walk_at "im"
  have hb60 := lens_bd hl.len
  have inv : ∀ i, i ≤ l.length → Ps (1 + i * 134) ((l.take i).foldl plusS (0, 1)) ((l.take i).foldl sumS (0, 1)) := fun i hi => by
    have := ps_fold (b := 133) (l.take i) 1 _ _ Ps.start fun x hx => hl.ok x (List.mem_of_mem_take hx)
    rwa [List.length_take, Nat.min_eq_left hi] at this
  have inv2 : ∀ i, i ≤ l.length → Pt (1 + i * 133) ((l.take i).foldl prodS (1, 1)) := fun i hi => by
    have := pt_fold (b := 133) (l.take i) 1 _ Pt.start fun x hx => hl.ok x (List.mem_of_mem_take hx)
    rwa [List.length_take, Nat.min_eq_left hi] at this
  have big : ∀ {z : Int} {e : Nat}, z.natAbs < 2 ^ e → e ≤ 8100 → z.natAbs < 2 ^ 8100 := fun h he => Nat.lt_of_lt_of_le h (Nat.pow_le_pow_right (by decide) he)
  refine wq_forL (xs := l) (enc := numD) (ev_var rfl) (fun i u => ∃ s6, u = [(3, .im (.int ((l.take i).foldl sumS (0, 1)).1)), (4, .im (.int ((l.take i).foldl sumS (0, 1)).2)), (5, .im (.int ((l.take i).foldl prodS (1, 1)).1)), (6, s6)]) ⟨_, ⟨_, rfl⟩, rfl⟩ ?_ ?_
  · rintro i x u hx ⟨s6, rfl⟩
    dsimp only [up, List.set]
    have hi := (List.getElem?_eq_some_iff.mp hx).1
    have hxo := hl.ok x (List.mem_of_getElem? hx)
    have e1 : (l.take (i + 1)).foldl sumS (0, 1) = sumS ((l.take i).foldl sumS (0, 1)) x := by
      rw [List.take_add_one, hx, List.foldl_append]
      rfl
    have e2 : (l.take (i + 1)).foldl prodS (1, 1) = prodS ((l.take i).foldl prodS (1, 1)) x := by
      rw [List.take_add_one, hx, List.foldl_append]
      rfl
    have iv := inv i (by omega)
    have iv2 := inv2 i (by omega)
    rw [e1, e2]
    have a1 := big iv.up (by omega)
    have a2 := big iv.dn (by omega)
    have a3 := big iv2.up (by omega)
    generalize (l.take i).foldl sumS (0, 1) = t at a1 a2
    generalize (l.take i).foldl prodS (1, 1) = h at a3
    refine wq_asg (ev_op (ev_m (ev_var rfl) (ev_n2 rfl) a1 hxo.2.2) (ev_m (ev_n1 rfl) (ev_var rfl) hxo.2.1 a2) rv_add) ?_
    dsimp only [List.set]
    refine wq_asg (ev_m (ev_var rfl) (ev_n2 rfl) a2 hxo.2.2) ?_
    dsimp only [List.set]
    exact ws_asg (ev_m (ev_var rfl) (ev_n1 rfl) a3 hxo.2.1) ⟨_, ⟨_, rfl⟩, rfl⟩
  rintro u ⟨s6, rfl⟩
  dsimp only [up, List.set]
  rw [List.take_length]
  have iv := inv l.length (Nat.le_refl _)
  have iv2 := inv2 l.length (Nat.le_refl _)
  rw [List.take_length] at iv iv2
  have isP := plus_is hl.ok
  have isT := times_is hl.ok
  have hden : (l.foldl sumS (0, 1)).2 = (l.foldl prodS (1, 1)).2 := prod_den l _ _ rfl
  rw [← hden] at isT
  have b1 := W2 iv.up (by omega)
  have b2 := W2 iv.dn (by omega)
  have b3 := W2 iv2.up (by omega)
  generalize l.foldl sumS (0, 1) = t at *
  generalize l.foldl prodS (1, 1) = h at *
  have zN : IsN 1 (plusN []) 0 1 := plus_is (b := 1) (l := []) (by simp)
  have oN : IsN 1 (timesN []) 1 1 := times_is (b := 1) (l := []) (by simp)
  refine wq_noif (et_or (et_not (et_B (ev_call (ea_cons (ev_callV (ds := ([] : List Num).map numD) ea_nil (by simp) ⟨[], 1, rfl, by simp, by decide, by decide, rfl⟩) (ea_cons ev_int (ea_cons ev_int ea_nil))) (pr_is zN (by decide) (by decide) (by decide))))) fun _ => et_not (et_B (ev_call (ea_cons (ev_callV (ds := ([] : List Num).map numD) ea_nil (by simp) ⟨[], 1, rfl, by simp, by decide, by decide, rfl⟩) (ea_cons ev_int (ea_cons ev_int ea_nil))) (pr_is oN (by decide) (by decide) (by decide))))) rfl ?_
  refine wq_noif (et_or (et_not (et_B (ev_call (ea_cons (ev_call (z := numD (plusN l)) (ea_cons (ev_var rfl) ea_nil) ⟨l, rfl, hl, rfl⟩) (ea_cons (ev_var rfl) (ea_cons (ev_var rfl) ea_nil))) (pr_is isP (by omega) b1 b2)))) fun _ => et_not (et_B (ev_call (ea_cons (ev_call (z := numD (timesN l)) (ea_cons (ev_var rfl) ea_nil) ⟨l, rfl, hl, rfl⟩) (ea_cons (ev_var rfl) (ea_cons (ev_var rfl) ea_nil))) (pr_is isT (by omega) b3 b2)))) rfl ?_
  have hd4 := hdb 4 (by decide)
  rw [show szS.getD 4 0 = 3 from rfl] at hd4
  have hfa : ([1, 6, 100000000000000000039] : List Int).getD (sh.getD 4 0).toNat 0 ∈ ([1, 6, 100000000000000000039] : List Int) := by
    have : (sh.getD 4 0).toNat < ([1, 6, 100000000000000000039] : List Int).length := by show _ < 3; omega
    rw [List.getD_eq_getElem?_getD, List.getElem?_eq_getElem this]
    exact List.getElem_mem _
  refine wq_asg (d := .int (([1, 6, 100000000000000000039] : List Int).getD (sh.getD 4 0).toNat 0)) (ev_op ((ev_fz (evo_lst (ea_cons ev_int (ea_cons ev_int (ea_cons (ev_op (ev_op ev_int ev_int rv_p20) ev_int rv_add) ea_nil))) (by simp))).is (y := intsD [1, 6, 100000000000000000039]) (by simp [intsD])) (ev_op (ev_var rfl) ev_int (rv_ixxL (hat 4 (by decide)))) (rv_ixxL (at_getD hd4.1 (by show _ < (3 : Int); omega)))) ?_
  dsimp only [List.set]
  have bf := fac_bd hfa
  generalize ([1, 6, 100000000000000000039] : List Int).getD (sh.getD 4 0).toNat 0 = fac at bf
  have eint : ∀ (ρ : Rho) (te : TE) (c : Int), EvD K te ρ (.int c) → EvD K (tCall (spD K P_int) [] E0 (tCons te tNil)) ρ (.int (intN c)) := fun ρ te c h => ev_call (ea_cons h ea_nil) ⟨c, rfl, rfl⟩
  have ecell : ∀ (ρ : Rho) (k : Int), 0 ≤ k → ρ[0]? = some (.im (.scr ns)) → EvD K (tCall (spD K P_cell) [] E0 (tCons (tVar 0) (tCons (tC (.int k)) tNil))) ρ (.int (cell ns k)) := fun ρ k h e => ev_call (ea_cons (ev_var e) (ea_cons ev_int ea_nil)) (pr_cell h)
  have bn := wide_lt (intN_ok (cell ns 1)) bf
  have bd := wide_lt (intN_ok (cell ns 2)) bf
  refine wq_asg (ev_m (eint _ _ _ (ecell _ 1 (by decide) rfl)) (ev_var rfl) (intN_ok _) bf) ?_
  dsimp only [List.set]
  refine wq_asg (ev_m (eint _ _ _ (ecell _ 2 (by decide) rfl)) (ev_var rfl) (intN_ok _) bf) ?_
  dsimp only [List.set]
  generalize intN (cell ns 1) * fac = n at bn
  generalize intN (cell ns 2) * fac = d at bd
  generalize D.int t.1 = v3
  generalize D.int t.2 = v4
  generalize D.int h.1 = v5
  generalize D.int fac = v7
  refine ws_mid (fun ρ' => ∃ d : Int, d.natAbs < 2 ^ (133 + 67) ∧ ρ' = [.im (.scr ns), .im (intsD sh), .im (.lst (l.map numD)), .im v3, .im v4, .im v5, s6, .im v7, .im (.int n), .im (.int d), .no, .no, .no]) ?_ ?_
  · refine ws_if (et_test (ev_op (ev_op (ev_var rfl) ev_int (rv_ixxL (hat 5 (by decide)))) ev_int rv_eq)) (fun _ => ?_) (fun _ => ws_next ⟨d, bd, rfl⟩)
    have hd6 := hdb 6 (by decide)
    rw [show szS.getD 6 0 = 2 from rfl] at hd6
    have h6 : sh.getD 6 0 = 0 ∨ sh.getD 6 0 = 1 := by omega
    obtain ⟨v, hv, hvi⟩ : ∃ v : Int, v.natAbs < 2 ^ (133 + 67) ∧ atI [D.int n, D.int (-n)] (sh.getD 6 0) = some (.int v) := by
      rcases h6 with h | h <;> rw [h]
      · exact ⟨n, bn, rfl⟩
      · exact ⟨-n, by rw [Int.natAbs_neg]; exact bn, rfl⟩
    exact ws_asg (ev_op (ev_fz (evo_lst (ea_cons (ev_var rfl) (ea_cons (ev_un (ev_var rfl) ru_neg) ea_nil)) (by simp))) (ev_op (ev_var rfl) ev_int (rv_ixxL (hat 6 (by decide)))) (rv_ixxL hvi)) ⟨v, hv, rfl⟩
  rintro ρ' ⟨d, bd, rfl⟩
  have r8 : ∀ {z : Int}, z.natAbs < 2 ^ (133 + 67) → z.natAbs < 2 ^ 8000 := fun h => Nat.lt_of_lt_of_le h (Nat.pow_le_pow_right (by decide) (by decide))
  refine wq_noif (et_or (et_not (et_B (ev_call (z := .bl true) (ea_cons (ev_var rfl) (ea_cons (ev_var rfl) ea_nil)) ⟨n, d, rfl, r8 bn, r8 bd, rfl⟩))) fun _ => et_not (et_B (ev_call (z := .bl true) (ea_cons (ev_var rfl) (ea_cons (ev_var rfl) ea_nil)) ⟨d, n, rfl, r8 bd, r8 bn, rfl⟩))) rfl ?_
  refine wq_asg (d := numD (numC (cell ns 1))) (ev_call (ea_cons (ecell _ 1 (by decide) rfl) ea_nil) pr_num) ?_
  dsimp only [List.set]
  refine wq_asg (d := numD (numC (cell ns 2))) (ev_call (ea_cons (ecell _ 2 (by decide) rfl) ea_nil) pr_num) ?_
  dsimp only [List.set]
  have ox := num_mono (numC_ok (cell ns 1)) (show 133 ≤ 220 by decide)
  have oy := num_mono (numC_ok (cell ns 2)) (show 133 ≤ 220 by decide)
  have ox1 := numC_ok (cell ns 1)
  generalize numC (cell ns 1) = x at ox ox1
  generalize numC (cell ns 2) = y at oy
  have o01 : NumOk 220 (0, 1) := ⟨by decide, by decide, by decide⟩
  refine ws_mid (fun ρ' => ∃ x y : Num, NumOk 220 x ∧ NumOk 220 y ∧ ρ' = [.im (.scr ns), .im (intsD sh), .im (.lst (l.map numD)), .im v3, .im v4, .im v5, s6, .im v7, .im (.int n), .im (.int d), .im (numD x), .im (numD y), .no]) ?_ ?_
  · have q7 : ∀ v : Int, EvT K (tTest (tOp (rEqA K) (tOp (rIx K) (tVar 1) (tC (.int 7))) (tC (.int v)))) [.im (.scr ns), .im (intsD sh), .im (.lst (l.map numD)), .im v3, .im v4, .im v5, s6, .im v7, .im (.int n), .im (.int d), .im (numD x), .im (numD y), .no] (decide (sh.getD 7 0 = v)) := fun v => et_test (ev_op (ev_op (ev_var rfl) ev_int (rv_ixxL (hat 7 (by decide)))) ev_int rv_eq)
    refine ws_if (q7 0) (fun _ => ws_asg (ev_var rfl) ⟨x, x, ox, ox, rfl⟩) (fun _ => ?_)
    refine ws_if (q7 1) (fun _ => ?_) (fun _ => ?_)
    · have p20 : (100000000000000000000 : Int).natAbs < 2 ^ 67 := by decide
      have c1 : (x.1 * 100000000000000000000 + 1).natAbs < 2 ^ 220 := Nat.lt_of_lt_of_le (bits_add (e := 200) (wide_lt ox1.2.1 p20) (by decide)) (Nat.pow_le_pow_right (by decide) (by decide))
      have c2 : (x.2 * 100000000000000000000).natAbs < 2 ^ 220 := Nat.lt_of_lt_of_le (wide_lt ox1.2.2 p20) (Nat.pow_le_pow_right (by decide) (by decide))
      have c0 : 0 < x.2 * 100000000000000000000 := Int.mul_pos ox1.1 (by decide)
      exact ws_asg (ev_call (ea_cons (ev_op (ev_m (ev_n1 rfl) (ev_op ev_int ev_int rv_p20) ox1.2.1 p20) ev_int rv_add) (ea_cons (ev_m (ev_n2 rfl) (ev_op ev_int ev_int rv_p20) ox1.2.2 p20) ea_nil)) (pr_ratio c0 (natAbs_lt c0 (B9 c2 (by decide))))) ⟨x, _, ox, mk_ok c0 c1 c2, rfl⟩
    refine ws_if (q7 2) (fun _ => ws_asg (d := numD (0, 1)) (ev_tup (ea_cons ev_int (ea_cons ev_int ea_nil)) (by simp)) ⟨(0, 1), y, o01, oy, rfl⟩) (fun _ => ?_)
    exact ws_if (q7 3) (fun _ => ws_asg (d := numD (0, 1)) (ev_tup (ea_cons ev_int (ea_cons ev_int ea_nil)) (by simp)) ⟨x, (0, 1), ox, o01, rfl⟩) (fun _ => ws_next ⟨x, y, ox, oy, rfl⟩)
  rintro ρ' ⟨x, y, ox, oy, rfl⟩
  have two : ∀ (ρ : Rho) (i j : Nat) (x y : Num), ρ[i]? = some (.im (numD x)) → ρ[j]? = some (.im (numD y)) → EvD K (tLst (tCons (tVar i) (tCons (tVar j) tNil))) ρ (.lst [numD x, numD y]) := fun ρ i j x y e1 e2 => ev_fz (evo_lst (ea_cons (ev_var e1) (ea_cons (ev_var e2) ea_nil)) (by simp))
  refine wq_forL (xs := [(x, y), (y, x), (x, x)]) (enc := fun q : Num × Num => D.lst [numD q.1, numD q.2]) (ev_fz (evo_lst (ea_cons (two _ 10 11 x y rfl rfl) (ea_cons (two _ 11 10 y x rfl rfl) (ea_cons (two _ 10 10 x x rfl rfl) ea_nil))) (by simp))) (fun i u => ∃ s12, u = [(12, s12)]) ⟨_, ⟨_, rfl⟩, rfl⟩ ?_ ?_
  · rintro i q u hq ⟨s12, rfl⟩
    dsimp only [up, List.set]
    have hq2 : NumOk 220 q.1 ∧ NumOk 220 q.2 := by
      have := List.mem_of_getElem? hq
      simp only [List.mem_cons, List.not_mem_nil, or_false] at this
      rcases this with rfl | rfl | rfl
      · exact ⟨ox, oy⟩
      · exact ⟨oy, ox⟩
      · exact ⟨ox, ox⟩
    exact ws_ifF (et_not (et_B (ev_call (z := .bl true) (ea_cons (ev_op (ev_var rfl) ev_int (rv_ixxL (d := numD q.1) (at_nat (j := 0) rfl))) (ea_cons (ev_op (ev_var rfl) ev_int (rv_ixxL (d := numD q.2) (at_nat (j := 1) rfl))) ea_nil)) ⟨q.1, q.2, ⟨rfl, hq2.1, hq2.2⟩, rfl⟩))) rfl (ws_next ⟨_, ⟨_, rfl⟩, rfl⟩)
  · rintro u ⟨s12, rfl⟩
    exact ws_ret ev_bl p
end
end FS
set_option Elab.async false
set_option linter.all false
set_option maxRecDepth 100000
set_option maxHeartbeats 4000000
set_option exponentiation.threshold 20000
namespace FS
open PySem PySem.Spec PyProof.Rows L2
theorem all_mk {l : PySem.W.OpenLaw} {w : World} {K : PySem.W.Frag} {h : Heap} {mg : Str → Option Value} {fa f0 f1 f2 f3 f4 f5 f6 f7 f8 f9 f10 f11 f12 f13 f14 f15 f16 f17 f18 f19 f20 f21 C_Fault C_BadNumber C_BadRow C_BadText : Addr} (X : K.In h) (G : h.Ns mainGlobals mg) (hfa : mg "law" = some (.ref fa))
    {od0 od1 od2 od3 od4 od5 od6 od7 od8 od9 od10 od11 od12 od13 od14 od15 od16 od17 od18 od19 od20 od21 an0 an1 an2 an3 an4 an5 an6 an7 an8 an9 an10 an11 an12 an13 an14 an15 an16 an17 an18 an19 an20 an21 : Option Addr} {sl0 sl1 sl2 sl3 sl4 sl5 sl6 sl7 sl8 sl9 sl10 sl11 sl12 sl13 sl14 sl15 sl16 sl17 sl18 sl19 sl20 sl21 : Array (Option Value)} {oc0 oc1 oc2 oc3 oc4 oc5 oc6 oc7 oc8 oc9 oc10 oc11 oc12 oc13 oc14 oc15 oc16 oc17 oc18 oc19 oc20 oc21 kV0 kV1 kV2 kV3 kV4 kV5 kV6 kV7 kV8 kV9 kV10 kV11 kV12 kV13 kV14 kV15 kV16 kV17 kV18 kV19 kV20 kV21 dc0 dc1 dc2 dc3 dc4 dc5 dc6 dc7 dc8 dc9 dc10 dc11 dc12 dc13 dc14 dc15 dc16 dc17 dc18 dc19 dc20 dc21 pm0 pm1 pm2 pm3 pm4 pm5 pm6 pm7 pm8 pm9 pm10 pm11 pm12 pm13 pm14 pm15 pm16 pm17 pm18 pm19 pm20 pm21 cd0 cd1 cd2 cd3 cd4 cd5 cd6 cd7 cd8 cd9 cd10 cd11 cd12 cd13 cd14 cd15 cd16 cd17 cd18 cd19 cd20 cd21 ct0 ct1 ct2 ct3 ct4 ct5 ct6 ct7 ct8 ct9 ct10 ct11 ct12 ct13 ct14 ct15 ct16 ct17 ct18 ct19 ct20 ct21 : Value} 
    (a0 : PySem.W.nsIn K mainGlobals "_law_cell" = some (some (.ref f0)))
    (l0 : K.lookup f0 = some ⟨oc0, od0, .func (PySem.W.fnOf "_law_cell" "_law_cell" (defArgs s_law_cell) (defBody s_law_cell) (defScope s_law_cell) .none kV0 dc0 pm0 an0 cd0 ct0), sl0⟩) (c0 : PySem.W.codeIn K cd0 "_law_cell" = true) (k0 : PySem.W.keepIn K (.ref f0) = true)
    (a1 : PySem.W.nsIn K mainGlobals "_law_draws" = some (some (.ref f1)))
    (l1 : K.lookup f1 = some ⟨oc1, od1, .func (PySem.W.fnOf "_law_draws" "_law_draws" (defArgs s_law_draws) (defBody s_law_draws) (defScope s_law_draws) .none kV1 dc1 pm1 an1 cd1 ct1), sl1⟩) (c1 : PySem.W.codeIn K cd1 "_law_draws" = true) (k1 : PySem.W.keepIn K (.ref f1) = true)
    (a2 : PySem.W.nsIn K mainGlobals "_law_gcd" = some (some (.ref f2)))
    (l2 : K.lookup f2 = some ⟨oc2, od2, .func (PySem.W.fnOf "_law_gcd" "_law_gcd" (defArgs s_law_gcd) (defBody s_law_gcd) (defScope s_law_gcd) .none kV2 dc2 pm2 an2 cd2 ct2), sl2⟩) (c2 : PySem.W.codeIn K cd2 "_law_gcd" = true) (k2 : PySem.W.keepIn K (.ref f2) = true)
    (a3 : PySem.W.nsIn K mainGlobals "_law_ratio" = some (some (.ref f3)))
    (l3 : K.lookup f3 = some ⟨oc3, od3, .func (PySem.W.fnOf "_law_ratio" "_law_ratio" (defArgs s_law_ratio) (defBody s_law_ratio) (defScope s_law_ratio) .none kV3 dc3 pm3 an3 cd3 ct3), sl3⟩) (c3 : PySem.W.codeIn K cd3 "_law_ratio" = true) (k3 : PySem.W.keepIn K (.ref f3) = true)
    (a4 : PySem.W.nsIn K mainGlobals "_law_long" = some (some (.ref f4)))
    (l4 : K.lookup f4 = some ⟨oc4, od4, .func (PySem.W.fnOf "_law_long" "_law_long" (defArgs s_law_long) (defBody s_law_long) (defScope s_law_long) .none kV4 dc4 pm4 an4 cd4 ct4), sl4⟩) (c4 : PySem.W.codeIn K cd4 "_law_long" = true) (k4 : PySem.W.keepIn K (.ref f4) = true)
    (a5 : PySem.W.nsIn K mainGlobals "_law_integer" = some (some (.ref f5)))
    (l5 : K.lookup f5 = some ⟨oc5, od5, .func (PySem.W.fnOf "_law_integer" "_law_integer" (defArgs s_law_integer) (defBody s_law_integer) (defScope s_law_integer) .none kV5 dc5 pm5 an5 cd5 ct5), sl5⟩) (c5 : PySem.W.codeIn K cd5 "_law_integer" = true) (k5 : PySem.W.keepIn K (.ref f5) = true)
    (a6 : PySem.W.nsIn K mainGlobals "_law_number" = some (some (.ref f6)))
    (l6 : K.lookup f6 = some ⟨oc6, od6, .func (PySem.W.fnOf "_law_number" "_law_number" (defArgs s_law_number) (defBody s_law_number) (defScope s_law_number) .none kV6 dc6 pm6 an6 cd6 ct6), sl6⟩) (c6 : PySem.W.codeIn K cd6 "_law_number" = true) (k6 : PySem.W.keepIn K (.ref f6) = true)
    (a7 : PySem.W.nsIn K mainGlobals "ratio" = some (some (.ref f7)))
    (l7 : K.lookup f7 = some ⟨oc7, od7, .func (PySem.W.fnOf "ratio" "ratio" (defArgs s_ratio) (defBody s_ratio) (defScope s_ratio) .none kV7 dc7 pm7 an7 cd7 ct7), sl7⟩) (c7 : PySem.W.codeIn K cd7 "ratio" = true) (k7 : PySem.W.keepIn K (.ref f7) = true)
    (a8 : PySem.W.nsIn K mainGlobals "plus" = some (some (.ref f8)))
    (l8 : K.lookup f8 = some ⟨oc8, od8, .func (PySem.W.fnOf "plus" "plus" (defArgs s_plus) (defBody s_plus) (defScope s_plus) .none kV8 dc8 pm8 an8 cd8 ct8), sl8⟩) (c8 : PySem.W.codeIn K cd8 "plus" = true) (k8 : PySem.W.keepIn K (.ref f8) = true)
    (a9 : PySem.W.nsIn K mainGlobals "times" = some (some (.ref f9)))
    (l9 : K.lookup f9 = some ⟨oc9, od9, .func (PySem.W.fnOf "times" "times" (defArgs s_times) (defBody s_times) (defScope s_times) .none kV9 dc9 pm9 an9 cd9 ct9), sl9⟩) (c9 : PySem.W.codeIn K cd9 "times" = true) (k9 : PySem.W.keepIn K (.ref f9) = true)
    (a10 : PySem.W.nsIn K mainGlobals "minus" = some (some (.ref f10)))
    (l10 : K.lookup f10 = some ⟨oc10, od10, .func (PySem.W.fnOf "minus" "minus" (defArgs s_minus) (defBody s_minus) (defScope s_minus) .none kV10 dc10 pm10 an10 cd10 ct10), sl10⟩) (c10 : PySem.W.codeIn K cd10 "minus" = true) (k10 : PySem.W.keepIn K (.ref f10) = true)
    (a11 : PySem.W.nsIn K mainGlobals "over" = some (some (.ref f11)))
    (l11 : K.lookup f11 = some ⟨oc11, od11, .func (PySem.W.fnOf "over" "over" (defArgs s_over) (defBody s_over) (defScope s_over) .none kV11 dc11 pm11 an11 cd11 ct11), sl11⟩) (c11 : PySem.W.codeIn K cd11 "over" = true) (k11 : PySem.W.keepIn K (.ref f11) = true)
    (a12 : PySem.W.nsIn K mainGlobals "less" = some (some (.ref f12)))
    (l12 : K.lookup f12 = some ⟨oc12, od12, .func (PySem.W.fnOf "less" "less" (defArgs s_less) (defBody s_less) (defScope s_less) .none kV12 dc12 pm12 an12 cd12 ct12), sl12⟩) (c12 : PySem.W.codeIn K cd12 "less" = true) (k12 : PySem.W.keepIn K (.ref f12) = true)
    (a13 : PySem.W.nsIn K mainGlobals "_law_is" = some (some (.ref f13)))
    (l13 : K.lookup f13 = some ⟨oc13, od13, .func (PySem.W.fnOf "_law_is" "_law_is" (defArgs s_law_is) (defBody s_law_is) (defScope s_law_is) .none kV13 dc13 pm13 an13 cd13 ct13), sl13⟩) (c13 : PySem.W.codeIn K cd13 "_law_is" = true) (k13 : PySem.W.keepIn K (.ref f13) = true)
    (a14 : PySem.W.nsIn K mainGlobals "_law_is_bad_number" = some (some (.ref f14)))
    (l14 : K.lookup f14 = some ⟨oc14, od14, .func (PySem.W.fnOf "_law_is_bad_number" "_law_is_bad_number" (defArgs s_law_is_bad_number) (defBody s_law_is_bad_number) (defScope s_law_is_bad_number) .none kV14 dc14 pm14 an14 cd14 ct14), sl14⟩) (c14 : PySem.W.codeIn K cd14 "_law_is_bad_number" = true) (k14 : PySem.W.keepIn K (.ref f14) = true)
    (a15 : PySem.W.nsIn K mainGlobals "_law_ratio_right" = some (some (.ref f15)))
    (l15 : K.lookup f15 = some ⟨oc15, od15, .func (PySem.W.fnOf "_law_ratio_right" "_law_ratio_right" (defArgs s_law_ratio_right) (defBody s_law_ratio_right) (defScope s_law_ratio_right) .none kV15 dc15 pm15 an15 cd15 ct15), sl15⟩) (c15 : PySem.W.codeIn K cd15 "_law_ratio_right" = true) (k15 : PySem.W.keepIn K (.ref f15) = true)
    (a16 : PySem.W.nsIn K mainGlobals "_law_over_right" = some (some (.ref f16)))
    (l16 : K.lookup f16 = some ⟨oc16, od16, .func (PySem.W.fnOf "_law_over_right" "_law_over_right" (defArgs s_law_over_right) (defBody s_law_over_right) (defScope s_law_over_right) .none kV16 dc16 pm16 an16 cd16 ct16), sl16⟩) (c16 : PySem.W.codeIn K cd16 "_law_over_right" = true) (k16 : PySem.W.keepIn K (.ref f16) = true)
    (a17 : PySem.W.nsIn K mainGlobals "_law_pair_right" = some (some (.ref f17)))
    (l17 : K.lookup f17 = some ⟨oc17, od17, .func (PySem.W.fnOf "_law_pair_right" "_law_pair_right" (defArgs s_law_pair_right) (defBody s_law_pair_right) (defScope s_law_pair_right) .none kV17 dc17 pm17 an17 cd17 ct17), sl17⟩) (c17 : PySem.W.codeIn K cd17 "_law_pair_right" = true) (k17 : PySem.W.keepIn K (.ref f17) = true)
    (a18 : PySem.W.nsIn K mainGlobals "_law_list" = some (some (.ref f18)))
    (l18 : K.lookup f18 = some ⟨oc18, od18, .func (PySem.W.fnOf "_law_list" "_law_list" (defArgs s_law_list) (defBody s_law_list) (defScope s_law_list) .none kV18 dc18 pm18 an18 cd18 ct18), sl18⟩) (c18 : PySem.W.codeIn K cd18 "_law_list" = true) (k18 : PySem.W.keepIn K (.ref f18) = true)
    (a19 : PySem.W.nsIn K mainGlobals "_law_added" = some (some (.ref f19)))
    (l19 : K.lookup f19 = some ⟨oc19, od19, .func (PySem.W.fnOf "_law_added" "_law_added" (defArgs s_law_added) (defBody s_law_added) (defScope s_law_added) .none kV19 dc19 pm19 an19 cd19 ct19), sl19⟩) (c19 : PySem.W.codeIn K cd19 "_law_added" = true) (k19 : PySem.W.keepIn K (.ref f19) = true)
    (a20 : PySem.W.nsIn K mainGlobals "_law_multiplied" = some (some (.ref f20)))
    (l20 : K.lookup f20 = some ⟨oc20, od20, .func (PySem.W.fnOf "_law_multiplied" "_law_multiplied" (defArgs s_law_multiplied) (defBody s_law_multiplied) (defScope s_law_multiplied) .none kV20 dc20 pm20 an20 cd20 ct20), sl20⟩) (c20 : PySem.W.codeIn K cd20 "_law_multiplied" = true) (k20 : PySem.W.keepIn K (.ref f20) = true)
    (a21 : PySem.W.nsIn K mainGlobals "law" = some (some (.ref f21)))
    (l21 : K.lookup f21 = some ⟨oc21, od21, .func (PySem.W.fnOf "law" "law" (defArgs s_law) (defBody s_law) (defScope s_law) .none kV21 dc21 pm21 an21 cd21 ct21), sl21⟩) (c21 : PySem.W.codeIn K cd21 "law" = true) (k21 : PySem.W.keepIn K (.ref f21) = true)
    (hn_ : PySem.W.specialIn K (.builtin "object.__class__") "__get__" = some (some (.builtin "getset_descriptor.__get__"))) (ht_ : PySem.W.takesIn K (.builtin "object.__class__") = some true)
    (g_Fault : PySem.W.nsIn K mainGlobals "Fault" = some (some (.ref C_Fault))) (ga_Fault : PySem.W.findIn K (.ref C_Fault) "__getattribute__" = some (some (.builtin "BaseException.__getattribute__"))) (gg_Fault : PySem.W.findIn K (.ref C_Fault) "__getattr__" = some none) (sb_Fault : PySem.W.subIn K (.ref C_Fault) (.type "BaseException") = some true) (hd_Fault : PySem.W.hasDictIn K C_Fault = true) (ca_Fault : PySem.W.findIn K (.ref C_Fault) "__class__" = some (some (.builtin "object.__class__"))) (mo_Fault : PySem.W.mroIn K C_Fault (.type "object") = some true) (ty_Fault : PySem.W.typeIn K (.ref C_Fault) = some (.type "type")) (kp_Fault : PySem.W.keepIn K (.ref C_Fault) = true)
    (rd_Fault : PySem.W.readsIn K C_Fault (.type "type") = true) (sg_Fault : PySem.W.specialIn K (.ref C_Fault) "__getattribute__" = some (some (.builtin "type.__getattribute__"))) (fc_Fault : PySem.W.findCls K (.ref C_Fault) (.type "type") "__init__" = some (.val (.builtin "ValueError.__init__")))
    (g_BadNumber : PySem.W.nsIn K mainGlobals "BadNumber" = some (some (.ref C_BadNumber))) (ga_BadNumber : PySem.W.findIn K (.ref C_BadNumber) "__getattribute__" = some (some (.builtin "BaseException.__getattribute__"))) (gg_BadNumber : PySem.W.findIn K (.ref C_BadNumber) "__getattr__" = some none) (sb_BadNumber : PySem.W.subIn K (.ref C_BadNumber) (.type "BaseException") = some true) (hd_BadNumber : PySem.W.hasDictIn K C_BadNumber = true) (ca_BadNumber : PySem.W.findIn K (.ref C_BadNumber) "__class__" = some (some (.builtin "object.__class__"))) (mo_BadNumber : PySem.W.mroIn K C_BadNumber (.type "object") = some true) (ty_BadNumber : PySem.W.typeIn K (.ref C_BadNumber) = some (.type "type")) (kp_BadNumber : PySem.W.keepIn K (.ref C_BadNumber) = true)
    (xi_BadNumber : PySem.W.excIn K C_BadNumber [.type "ValueError", .type "Exception", .type "BaseException", .type "object"] "ValueError.__new__" = true)
    (g_BadRow : PySem.W.nsIn K mainGlobals "BadRow" = some (some (.ref C_BadRow))) (ga_BadRow : PySem.W.findIn K (.ref C_BadRow) "__getattribute__" = some (some (.builtin "BaseException.__getattribute__"))) (gg_BadRow : PySem.W.findIn K (.ref C_BadRow) "__getattr__" = some none) (sb_BadRow : PySem.W.subIn K (.ref C_BadRow) (.type "BaseException") = some true) (hd_BadRow : PySem.W.hasDictIn K C_BadRow = true) (ca_BadRow : PySem.W.findIn K (.ref C_BadRow) "__class__" = some (some (.builtin "object.__class__"))) (mo_BadRow : PySem.W.mroIn K C_BadRow (.type "object") = some true) (ty_BadRow : PySem.W.typeIn K (.ref C_BadRow) = some (.type "type")) (kp_BadRow : PySem.W.keepIn K (.ref C_BadRow) = true)
    (xi_BadRow : PySem.W.excIn K C_BadRow [.type "ValueError", .type "Exception", .type "BaseException", .type "object"] "ValueError.__new__" = true)
    (g_BadText : PySem.W.nsIn K mainGlobals "BadText" = some (some (.ref C_BadText))) (ga_BadText : PySem.W.findIn K (.ref C_BadText) "__getattribute__" = some (some (.builtin "BaseException.__getattribute__"))) (gg_BadText : PySem.W.findIn K (.ref C_BadText) "__getattr__" = some none) (sb_BadText : PySem.W.subIn K (.ref C_BadText) (.type "BaseException") = some true) (hd_BadText : PySem.W.hasDictIn K C_BadText = true) (ca_BadText : PySem.W.findIn K (.ref C_BadText) "__class__" = some (some (.builtin "object.__class__"))) (mo_BadText : PySem.W.mroIn K C_BadText (.type "object") = some true) (ty_BadText : PySem.W.typeIn K (.ref C_BadText) = some (.type "type")) (kp_BadText : PySem.W.keepIn K (.ref C_BadText) = true)
    (xi_BadText : PySem.W.excIn K C_BadText [.type "ValueError", .type "Exception", .type "BaseException", .type "object"] "ValueError.__new__" = true)
    (s_BadNumber_BadNumber : PySem.W.subIn K (.ref C_BadNumber) (.ref C_BadNumber) = some true)
    (s_BadNumber_BadRow : PySem.W.subIn K (.ref C_BadNumber) (.ref C_BadRow) = some false)
    (s_BadNumber_BadText : PySem.W.subIn K (.ref C_BadNumber) (.ref C_BadText) = some false)
    (s_BadNumber_Fault : PySem.W.subIn K (.ref C_BadNumber) (.ref C_Fault) = some true)
    (sv_BadNumber : PySem.W.subIn K (.ref C_BadNumber) (.type "ValueError") = some true)
    (z7 : PySem.W.nsIn K mainGlobals "ValueError" = some none)
    (z8 : PySem.W.nsIn K mainGlobals "abs" = some none)
    (z9 : PySem.W.nsIn K mainGlobals "bool" = some none)
    (z10 : PySem.W.nsIn K mainGlobals "gcd" = some (some (.builtin "math.gcd")))
    (z11 : PySem.W.nsIn K mainGlobals "int" = some none)
    (z12 : PySem.W.nsIn K mainGlobals "isinstance" = some none)
    (z17 : PySem.W.nsIn K mainGlobals "len" = some none)
    (z18 : PySem.W.nsIn K mainGlobals "range" = some none)
    (z19 : PySem.W.nsIn K mainGlobals "tuple" = some none) :
    ∃ fd : FuncData, (∀ (s : Shared) (v : Value), BindsTo s fd ⟨[v], []⟩ [("script", v)]) ∧ ∀ base : Heap, K.In base → base.Ns mainGlobals mg → FnOk l.prog w K mg base CX0 5 fa fd ["script"] (spD K P_law) := by
  have gm : Gm K mg C_Fault C_BadNumber C_BadRow C_BadText := ⟨⟨ga_BadNumber, gg_BadNumber, sb_BadNumber, hd_BadNumber, ca_BadNumber, hn_, ht_, mo_BadNumber⟩, PySem.W.exm_ref sb_Fault hd_Fault ty_Fault s_BadNumber_Fault, ⟨xi_BadNumber, PySem.W.mg_of X G g_BadNumber, kp_BadNumber, sb_BadNumber, ty_BadNumber⟩, PySem.W.mg_of X G g_BadNumber, PySem.W.mg_of X G g_BadRow, PySem.W.mg_of X G g_BadText, PySem.W.mg_of X G g_Fault, PySem.W.mg_none_of X G z7, PySem.W.mg_none_of X G z8, PySem.W.mg_none_of X G z9, PySem.W.mg_of X G z10, PySem.W.mg_none_of X G z11, PySem.W.mg_none_of X G z12, kit_T s_BadNumber_BadNumber hd_BadNumber ty_BadNumber, kit_F s_BadNumber_BadNumber s_BadNumber_BadRow hd_BadRow ty_BadRow, kit_F s_BadNumber_BadNumber s_BadNumber_BadText hd_BadText ty_BadText, kit_VE sv_BadNumber, PySem.W.mg_none_of X G z17, PySem.W.mg_none_of X G z18, PySem.W.mg_none_of X G z19⟩
  have D0 : Df K mg "_law_cell" s_law_cell ["script", "k"] := df_of X G a0 l0 c0 k0 fun _ _ _ _ _ _ us hl => match us, hl with | [_, _], _ => rfl
  have D1 : Df K mg "_law_draws" s_law_draws ["cell", "sizes"] := df_of X G a1 l1 c1 k1 fun _ _ _ _ _ _ us hl => match us, hl with | [_, _], _ => rfl
  have D2 : Df K mg "_law_gcd" s_law_gcd ["first", "second"] := df_of X G a2 l2 c2 k2 fun _ _ _ _ _ _ us hl => match us, hl with | [_, _], _ => rfl
  have D3 : Df K mg "_law_ratio" s_law_ratio ["n", "d"] := df_of X G a3 l3 c3 k3 fun _ _ _ _ _ _ us hl => match us, hl with | [_, _], _ => rfl
  have D4 : Df K mg "_law_long" s_law_long ["drawn", "at"] := df_of X G a4 l4 c4 k4 fun _ _ _ _ _ _ us hl => match us, hl with | [_, _], _ => rfl
  have D5 : Df K mg "_law_integer" s_law_integer ["cell"] := df_of X G a5 l5 c5 k5 fun _ _ _ _ _ _ us hl => match us, hl with | [_], _ => rfl
  have D6 : Df K mg "_law_number" s_law_number ["cell"] := df_of X G a6 l6 c6 k6 fun _ _ _ _ _ _ us hl => match us, hl with | [_], _ => rfl
  have D7 : Df K mg "ratio" s_ratio ["n", "d"] := df_of X G a7 l7 c7 k7 fun _ _ _ _ _ _ us hl => match us, hl with | [_, _], _ => rfl
  have D8 : Dv K mg "plus" s_plus "numbers" := ⟨f8, _, fun_mk l8 c8 k8, PySem.W.mg_of X G a8, fun rest => match rest with | [] => rfl | _ :: _ => rfl⟩
  have D9 : Dv K mg "times" s_times "numbers" := ⟨f9, _, fun_mk l9 c9 k9, PySem.W.mg_of X G a9, fun rest => match rest with | [] => rfl | _ :: _ => rfl⟩
  have D10 : Df K mg "minus" s_minus ["first", "second"] := df_of X G a10 l10 c10 k10 fun _ _ _ _ _ _ us hl => match us, hl with | [_, _], _ => rfl
  have D11 : Df K mg "over" s_over ["first", "second"] := df_of X G a11 l11 c11 k11 fun _ _ _ _ _ _ us hl => match us, hl with | [_, _], _ => rfl
  have D12 : Df K mg "less" s_less ["first", "second"] := df_of X G a12 l12 c12 k12 fun _ _ _ _ _ _ us hl => match us, hl with | [_, _], _ => rfl
  have D13 : Df K mg "_law_is" s_law_is ["actual", "top", "bottom"] := df_of X G a13 l13 c13 k13 fun _ _ _ _ _ _ us hl => match us, hl with | [_, _, _], _ => rfl
  have D14 : Df K mg "_law_is_bad_number" s_law_is_bad_number ["e"] := df_of X G a14 l14 c14 k14 fun _ _ _ _ _ _ us hl => match us, hl with | [_], _ => rfl
  have D15 : Df K mg "_law_ratio_right" s_law_ratio_right ["n", "d"] := df_of X G a15 l15 c15 k15 fun _ _ _ _ _ _ us hl => match us, hl with | [_, _], _ => rfl
  have D16 : Df K mg "_law_over_right" s_law_over_right ["first", "second"] := df_of X G a16 l16 c16 k16 fun _ _ _ _ _ _ us hl => match us, hl with | [_, _], _ => rfl
  have D17 : Df K mg "_law_pair_right" s_law_pair_right ["first", "second"] := df_of X G a17 l17 c17 k17 fun _ _ _ _ _ _ us hl => match us, hl with | [_, _], _ => rfl
  have D18 : Df K mg "_law_list" s_law_list ["script", "shape"] := df_of X G a18 l18 c18 k18 fun _ _ _ _ _ _ us hl => match us, hl with | [_, _], _ => rfl
  have D19 : Df K mg "_law_added" s_law_added ["r"] := df_of X G a19 l19 c19 k19 fun _ _ _ _ _ _ us hl => match us, hl with | [_], _ => rfl
  have D20 : Df K mg "_law_multiplied" s_law_multiplied ["r"] := df_of X G a20 l20 c20 k20 fun _ _ _ _ _ _ us hl => match us, hl with | [_], _ => rfl
  refine law_end X G hfa a21 l21 c21 k21 _ (fun s v => .of_eq rfl) fun fd base F => ?_
  have G_law_cell := ok_cell (P := l.prog) (w := w) (base := base) D0 gm 
  have G_law_draws := ok_draws (P := l.prog) (w := w) (base := base) D1 gm 
  have G_law_gcd := ok_gcd (P := l.prog) (w := w) (base := base) D2 gm 
  have G_law_ratio := ok_ratio (P := l.prog) (w := w) (base := base) D3 gm G_law_gcd
  have G_law_long := ok_long (P := l.prog) (w := w) (base := base) D4 gm 
  have G_law_integer := ok_int (P := l.prog) (w := w) (base := base) D5 gm G_law_draws G_law_long
  have G_law_number := ok_num (P := l.prog) (w := w) (base := base) D6 gm G_law_draws G_law_long G_law_ratio
  have G_ratio := ok_rat (P := l.prog) (w := w) (base := base) D7 gm 
  have G_plus := ok_plus (P := l.prog) (w := w) (base := base) D8 gm G_ratio
  have G_times := ok_times (P := l.prog) (w := w) (base := base) D9 gm G_ratio
  have G_minus := ok_minus (P := l.prog) (w := w) (base := base) D10 gm G_ratio
  have G_over := ok_over (P := l.prog) (w := w) (base := base) D11 gm G_ratio
  have G_less := ok_less (P := l.prog) (w := w) (base := base) D12 gm 
  have G_law_is := ok_is (P := l.prog) (w := w) (base := base) D13 gm G_law_gcd
  have G_law_is_bad_number := ok_bad (P := l.prog) (w := w) (base := base) D14 gm 
  have G_law_ratio_right := ok_rr (P := l.prog) (w := w) (base := base) D15 gm G_ratio G_law_is G_law_is_bad_number
  have G_law_over_right := ok_or (P := l.prog) (w := w) (base := base) D16 gm G_over G_law_is G_law_is_bad_number
  have G_law_pair_right := ok_pr (P := l.prog) (w := w) (base := base) D17 gm G_law_is G_plus G_times G_minus G_less G_law_over_right
  have G_law_list := ok_list (P := l.prog) (w := w) (base := base) D18 gm G_law_number G_law_cell
  have G_law_added := ok_added (P := l.prog) (w := w) (base := base) D19 gm G_plus
  have G_law_multiplied := ok_multiplied (P := l.prog) (w := w) (base := base) D20 gm G_times
  exact ok_law (P := l.prog) (w := w) (base := base) F gm G_law_draws G_law_cell G_law_list G_law_is G_plus G_times G_law_added G_law_multiplied G_law_integer G_law_ratio_right G_law_number G_law_ratio G_law_pair_right
end FS
open PySem PySem.W PyProof.Rows
set_option maxHeartbeats 0 in
theorem PySem.Challenge.cw_fairstart_k00_numbers_added_and_ordered_holds : PySem.Challenge.rw_fairstart_k00_numbers_added_and_ordered.Holds := by
  w_on; o_law; k_head; (case hw => w_witness2)
  k_fill
  refine L2.walk_ofK (l := PySem.Challenge.rw_fairstart_k00_numbers_added_and_ordered) (n := 63) (k := 5) (x := "script") (CX := L2.CX0) (sp := fun K => FS.spD K FS.P_law) rfl (by decide) rfl ⟨rfl, by decide, by decide⟩ (fun w h Y => PySem.W.kIn_of Y) ?F (fun _ _ a ns hl _ hS => FS.sp_law hS) (fun _ _ _ _ h => h)
  case F =>
    intro w mg fa h KX G hmg
    refine' FS.all_mk KX G hmg ?a0 ?l0 ?c0 ?k0 ?a1 ?l1 ?c1 ?k1 ?a2 ?l2 ?c2 ?k2 ?a3 ?l3 ?c3 ?k3 ?a4 ?l4 ?c4 ?k4 ?a5 ?l5 ?c5 ?k5 ?a6 ?l6 ?c6 ?k6 ?a7 ?l7 ?c7 ?k7 ?a8 ?l8 ?c8 ?k8 ?a9 ?l9 ?c9 ?k9 ?a10 ?l10 ?c10 ?k10 ?a11 ?l11 ?c11 ?k11 ?a12 ?l12 ?c12 ?k12 ?a13 ?l13 ?c13 ?k13 ?a14 ?l14 ?c14 ?k14 ?a15 ?l15 ?c15 ?k15 ?a16 ?l16 ?c16 ?k16 ?a17 ?l17 ?c17 ?k17 ?a18 ?l18 ?c18 ?k18 ?a19 ?l19 ?c19 ?k19 ?a20 ?l20 ?c20 ?k20 ?a21 ?l21 ?c21 ?k21 ?hn_ ?ht_ ?g_Fault ?ga_Fault ?gg_Fault ?sb_Fault ?hd_Fault ?ca_Fault ?mo_Fault ?ty_Fault ?kp_Fault ?rd_Fault ?sg_Fault ?fc_Fault ?g_BadNumber ?ga_BadNumber ?gg_BadNumber ?sb_BadNumber ?hd_BadNumber ?ca_BadNumber ?mo_BadNumber ?ty_BadNumber ?kp_BadNumber ?xi_BadNumber ?g_BadRow ?ga_BadRow ?gg_BadRow ?sb_BadRow ?hd_BadRow ?ca_BadRow ?mo_BadRow ?ty_BadRow ?kp_BadRow ?xi_BadRow ?g_BadText ?ga_BadText ?gg_BadText ?sb_BadText ?hd_BadText ?ca_BadText ?mo_BadText ?ty_BadText ?kp_BadText ?xi_BadText ?s_BadNumber_BadNumber ?s_BadNumber_BadRow ?s_BadNumber_BadText ?s_BadNumber_Fault ?sv_BadNumber ?z7 ?z8 ?z9 ?z10 ?z11 ?z12 ?z17 ?z18 ?z19
    (case g_Fault => k_is); (case g_BadNumber => k_is); (case g_BadRow => k_is); (case g_BadText => k_is); (case hn_ => k_is); (case ht_ => k_is); (case ga_Fault => k_is); (case gg_Fault => k_is); (case sb_Fault => k_is); (case hd_Fault => k_is); (case ca_Fault => k_is); (case mo_Fault => k_is); (case ty_Fault => k_is); (case kp_Fault => k_is); (case rd_Fault => k_is); (case sg_Fault => k_is); (case fc_Fault => k_is); (case ga_BadNumber => k_is); (case gg_BadNumber => k_is); (case sb_BadNumber => k_is); (case hd_BadNumber => k_is); (case ca_BadNumber => k_is); (case mo_BadNumber => k_is); (case ty_BadNumber => k_is); (case kp_BadNumber => k_is); (case xi_BadNumber => k_exc); (case ga_BadRow => k_is); (case gg_BadRow => k_is); (case sb_BadRow => k_is); (case hd_BadRow => k_is); (case ca_BadRow => k_is); (case mo_BadRow => k_is); (case ty_BadRow => k_is); (case kp_BadRow => k_is); (case xi_BadRow => k_exc); (case ga_BadText => k_is); (case gg_BadText => k_is); (case sb_BadText => k_is); (case hd_BadText => k_is); (case ca_BadText => k_is); (case mo_BadText => k_is); (case ty_BadText => k_is); (case kp_BadText => k_is); (case xi_BadText => k_exc); (case s_BadNumber_BadNumber => k_is); (case s_BadNumber_BadRow => k_is); (case s_BadNumber_BadText => k_is); (case s_BadNumber_Fault => k_is); (case sv_BadNumber => k_is); (case a0 => k_is); (case l0 => k_is); (case c0 => k_is); (case k0 => k_is); (case a1 => k_is); (case l1 => k_is); (case c1 => k_is); (case k1 => k_is); (case a2 => k_is); (case l2 => k_is); (case c2 => k_is); (case k2 => k_is); (case a3 => k_is); (case l3 => k_is); (case c3 => k_is); (case k3 => k_is); (case a4 => k_is); (case l4 => k_is); (case c4 => k_is); (case k4 => k_is); (case a5 => k_is); (case l5 => k_is); (case c5 => k_is); (case k5 => k_is); (case a6 => k_is); (case l6 => k_is); (case c6 => k_is); (case k6 => k_is); (case a7 => k_is); (case l7 => k_is); (case c7 => k_is); (case k7 => k_is); (case a8 => k_is); (case l8 => k_is); (case c8 => k_is); (case k8 => k_is); (case a9 => k_is); (case l9 => k_is); (case c9 => k_is); (case k9 => k_is); (case a10 => k_is); (case l10 => k_is); (case c10 => k_is); (case k10 => k_is); (case a11 => k_is); (case l11 => k_is); (case c11 => k_is); (case k11 => k_is); (case a12 => k_is); (case l12 => k_is); (case c12 => k_is); (case k12 => k_is); (case a13 => k_is); (case l13 => k_is); (case c13 => k_is); (case k13 => k_is); (case a14 => k_is); (case l14 => k_is); (case c14 => k_is); (case k14 => k_is); (case a15 => k_is); (case l15 => k_is); (case c15 => k_is); (case k15 => k_is); (case a16 => k_is); (case l16 => k_is); (case c16 => k_is); (case k16 => k_is); (case a17 => k_is); (case l17 => k_is); (case c17 => k_is); (case k17 => k_is); (case a18 => k_is); (case l18 => k_is); (case c18 => k_is); (case k18 => k_is); (case a19 => k_is); (case l19 => k_is); (case c19 => k_is); (case k19 => k_is); (case a20 => k_is); (case l20 => k_is); (case c20 => k_is); (case k20 => k_is); (case a21 => k_is); (case l21 => k_is); (case c21 => k_is); (case k21 => k_is); (case z7 => k_is); (case z8 => k_is); (case z9 => k_is); (case z10 => k_is); (case z11 => k_is); (case z12 => k_is); (case z17 => k_is); (case z18 => k_is); (case z19 => k_is)
